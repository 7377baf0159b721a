import PyProof.Rows.All
import Wide.All
import OpenK.AllK
import Wide.FinOn
import HandS.ForMost
import HandS.ForExc
import HandS.Evl
import HandS.Walk
import HandS.IsInst
import HandS.Style
import HandS.RevRange
import HandS.CallRecv
import PySem.Challenge.RW_rulerow_k05_answers_by_hand
set_option Elab.async false
set_option linter.all false
set_option maxRecDepth 100000
set_option maxHeartbeats 4000000
/-! RrMath: the plain side. Lists of rests by a prime, rules, the shortest rule; no Python here. -/
namespace RR

/-- the number at a place, 0 beyond -/
def g (l : List Int) (i : Nat) : Int := l.getD i 0
theorem g_nil (i : Nat) : g [] i = 0 := by simp [g]
theorem g_cons_zero (x : Int) (l : List Int) : g (x :: l) 0 = x := rfl
theorem g_cons_succ (x : Int) (l : List Int) (i : Nat) : g (x :: l) (i + 1) = g l i := rfl
theorem g_out {l : List Int} {i : Nat} (h : l.length ≤ i) : g l i = 0 := by
  unfold g; simp [List.getD_eq_getElem?_getD, List.getElem?_eq_none h]
theorem g_in {l : List Int} {i : Nat} (h : i < l.length) : l[i]? = some (g l i) := by
  unfold g; simp [List.getD_eq_getElem?_getD, List.getElem?_eq_getElem h]
theorem g_mem {l : List Int} {i : Nat} (h : i < l.length) : g l i ∈ l := List.mem_of_getElem? (g_in h)
theorem g_map {f : Int → Int} {l : List Int} {i : Nat} (h : i < l.length) : g (l.map f) i = f (g l i) := by
  have e := g_in h
  unfold g at *
  simp [List.getD_eq_getElem?_getD, List.getElem?_map, List.getElem?_eq_getElem h]
theorem g_set_self {l : List Int} {i : Nat} {v : Int} (h : i < l.length) : g (l.set i v) i = v := by
  unfold g; simp [List.getD_eq_getElem?_getD, List.getElem?_set_self h]
theorem g_set_ne {l : List Int} {i j : Nat} {v : Int} (h : i ≠ j) : g (l.set i v) j = g l j := by
  unfold g; simp [List.getD_eq_getElem?_getD, List.getElem?_set_ne h]
theorem g_append_left {l m : List Int} {i : Nat} (h : i < l.length) : g (l ++ m) i = g l i := by
  unfold g; simp [List.getD_eq_getElem?_getD, List.getElem?_append_left h]
theorem g_append_right {l m : List Int} {i : Nat} (h : l.length ≤ i) : g (l ++ m) i = g m (i - l.length) := by
  unfold g; simp [List.getD_eq_getElem?_getD, List.getElem?_append_right h]
theorem g_replicate (n i : Nat) : g (List.replicate n 0) i = 0 := by
  by_cases h : i < n
  · have := g_mem (l := List.replicate n (0 : Int)) (i := i) (by simpa using h)
    exact (List.mem_replicate.mp this).2
  · exact g_out (by simpa using h)
theorem g_take {l : List Int} {n i : Nat} (h : i < n) : g (l.take n) i = g l i := by
  unfold g; simp [List.getD_eq_getElem?_getD, List.getElem?_take, h]
theorem g_drop {l : List Int} {n i : Nat} : g (l.drop n) i = g l (n + i) := by
  unfold g; simp [List.getD_eq_getElem?_getD, List.getElem?_drop]
theorem g_ext {l m : List Int} (hl : l.length = m.length) (h : ∀ i, i < l.length → g l i = g m i) : l = m := by
  apply List.ext_getElem? 
  intro i
  by_cases hi : i < l.length
  · rw [g_in hi, g_in (by omega), h i hi]
  · rw [List.getElem?_eq_none (by omega), List.getElem?_eq_none (by omega)]

/-! ### sums -/
def S : Nat → (Nat → Int) → Int
  | 0, _ => 0
  | n + 1, f => S n f + f n
theorem S_congr {n : Nat} {f h : Nat → Int} (e : ∀ k, k < n → f k = h k) : S n f = S n h := by
  induction n with
  | zero => rfl
  | succ n ih => simp only [S]; rw [ih (fun k hk => e k (by omega)), e n (by omega)]
theorem S_zero {n : Nat} {f : Nat → Int} (e : ∀ k, k < n → f k = 0) : S n f = 0 := by
  induction n with
  | zero => rfl
  | succ n ih => simp only [S]; rw [ih (fun k hk => e k (by omega)), e n (by omega)]; rfl
theorem S_add (n : Nat) (f h : Nat → Int) : S n (fun k => f k + h k) = S n f + S n h := by
  induction n with
  | zero => rfl
  | succ n ih => simp only [S]; rw [ih]; omega
theorem S_mul (n : Nat) (c : Int) (f : Nat → Int) : S n (fun k => c * f k) = c * S n f := by
  induction n with
  | zero => simp [S]
  | succ n ih => simp only [S]; rw [ih, Int.mul_add]
theorem S_neg (n : Nat) (f : Nat → Int) : S n (fun k => - f k) = - S n f := by
  induction n with
  | zero => rfl
  | succ n ih => simp only [S]; rw [ih]; omega
/-- terms beyond that are 0 -/
theorem S_more {n m : Nat} {f : Nat → Int} (h : n ≤ m) (z : ∀ k, n ≤ k → k < m → f k = 0) : S m f = S n f := by
  induction m with
  | zero => have : n = 0 := by omega
            subst this; rfl
  | succ m ih =>
    by_cases e : n = m + 1
    · subst e; rfl
    · simp only [S]; rw [ih (by omega) (fun k h1 h2 => z k h1 (by omega)), z m (by omega) (by omega)]; omega
/-- terms ahead that are 0 -/
theorem S_shift {a m : Nat} {f : Nat → Int} (z : ∀ k, k < a → f k = 0) : S (a + m) f = S m (fun j => f (a + j)) := by
  induction m with
  | zero => exact S_zero z
  | succ m ih => rw [← Nat.add_assoc]; simp only [S]; rw [ih]
theorem S_succ_left (n : Nat) (f : Nat → Int) : S (n + 1) f = f 0 + S n (fun k => f (k + 1)) := by
  induction n with
  | zero => simp [S]
  | succ n ih => rw [S, ih]; simp only [S]; omega
theorem S_range (n : Nat) (f : Nat → Int) : ((List.range n).map f).sum = S n f := by
  induction n with
  | zero => rfl
  | succ n ih => rw [List.range_succ, List.map_append, List.sum_append, ih]; simp [S]

/-! ### rests -/
theorem cg_add {p a b c d : Int} (h : a % p = b % p) (k : c % p = d % p) : (a + c) % p = (b + d) % p := by
  rw [Int.add_emod, h, k, ← Int.add_emod]
theorem cg_sub {p a b c d : Int} (h : a % p = b % p) (k : c % p = d % p) : (a - c) % p = (b - d) % p := by
  rw [Int.sub_emod, h, k, ← Int.sub_emod]
theorem cg_mul {p a b c d : Int} (h : a % p = b % p) (k : c % p = d % p) : (a * c) % p = (b * d) % p := by
  rw [Int.mul_emod, h, k, ← Int.mul_emod]
theorem cg_neg {p a b : Int} (h : a % p = b % p) : (-a) % p = (-b) % p := by
  have := cg_sub (p := p) (a := 0) (b := 0) rfl h
  simpa using this
theorem cg_S {p : Int} {n : Nat} {f h : Nat → Int} (e : ∀ k, k < n → f k % p = h k % p) : S n f % p = S n h % p := by
  induction n with
  | zero => rfl
  | succ n ih => simp only [S]; exact cg_add (ih fun k hk => e k (by omega)) (e n (by omega))
theorem mm {p a : Int} : (a % p) % p = a % p := Int.emod_emod_of_dvd a (Int.dvd_refl p)

/-- a list of rests -/
def Rs (p : Int) (l : List Int) : Prop := ∀ x, x ∈ l → 0 ≤ x ∧ x < p
def rs (p : Int) (l : List Int) : Bool := l.all fun x => decide (0 ≤ x) && decide (x < p)
theorem rs_iff {p : Int} {l : List Int} : rs p l = true ↔ Rs p l := by
  unfold rs Rs; simp [List.all_eq_true]
theorem Rs.g {p : Int} {l : List Int} (h : Rs p l) (hp : 0 < p) (i : Nat) : 0 ≤ RR.g l i ∧ RR.g l i < p := by
  by_cases hi : i < l.length
  · exact h _ (g_mem hi)
  · rw [g_out (by omega)]; omega
theorem Rs.nil {p : Int} : Rs p [] := fun x h => by simp at h
theorem Rs.mod {p : Int} {α : Type} {l : List α} {f : α → Int} (hp : 0 < p) : Rs p (l.map fun a => f a % p) := fun x h => by
  obtain ⟨a, _, rfl⟩ := List.mem_map.mp h
  exact ⟨Int.emod_nonneg _ (by omega), Int.emod_lt_of_pos _ hp⟩
theorem emod_small {p x : Int} (h : 0 ≤ x ∧ x < p) : x % p = x := Int.emod_eq_of_lt h.1 h.2

/-! ### what is due -/
def due (p : Int) (rule row : List Int) (n : Nat) : Int := S rule.length (fun k => g rule k * g row (n - 1 - k)) % p
def makesAll (p : Int) (rule row : List Int) : Bool := (List.range (row.length - rule.length)).all fun i => decide (g row (rule.length + i) = due p rule row (rule.length + i))
def Makes (p : Int) (rule row : List Int) : Prop := ∀ n, rule.length ≤ n → n < row.length → g row n = due p rule row n
theorem makes_iff {p : Int} {rule row : List Int} : makesAll p rule row = true ↔ Makes p rule row := by
  unfold makesAll Makes
  simp only [List.all_eq_true, List.mem_range, decide_eq_true_eq]
  constructor
  · intro h n h1 h2
    have := h (n - rule.length) (by omega)
    rw [show rule.length + (n - rule.length) = n by omega] at this
    exact this
  · intro h i hi
    exact h _ (by omega) (by omega)

def turned (p : Int) (rule : List Int) : List Int := 1 :: rule.map fun r => (-r) % p
def toldBack (p : Int) (rests : List Int) : List Int := (rests.drop 1).map fun r => (-r) % p
theorem turned_len (p : Int) (rule : List Int) : (turned p rule).length = rule.length + 1 := by simp [turned]
theorem toldBack_len (p : Int) (r : List Int) : (toldBack p r).length = r.length - 1 := by simp [toldBack]
theorem toldBack_rs {p : Int} (hp : 0 < p) (r : List Int) : Rs p (toldBack p r) := Rs.mod hp
theorem turned_rs {p : Int} (hp : 1 < p) (r : List Int) : Rs p (turned p r) := fun x h => by
  rcases List.mem_cons.mp h with rfl | h
  · omega
  · exact Rs.mod (p := p) (by omega) x h
theorem turned_zero (p : Int) (r : List Int) : g (turned p r) 0 = 1 := rfl
theorem turned_succ {p : Int} {r : List Int} {k : Nat} (h : k < r.length) : g (turned p r) (k + 1) = (- g r k) % p := by
  unfold turned; rw [g_cons_succ, g_map (f := fun r => (-r) % p) h]

/-- the numbers and those ahead together -/
def D (c : List Int) (row : List Int) (n : Nat) : Int := S c.length (fun k => g c k * g row (n - k))
theorem D_turned {p : Int} (rule row : List Int) (n : Nat) : D (turned p rule) row n % p = (g row n - due p rule row n) % p := by
  unfold D
  rw [turned_len, S_succ_left]
  rw [turned_zero, Int.one_mul, Nat.sub_zero, Int.sub_eq_add_neg]
  refine cg_add rfl ?_
  unfold due
  rw [show (-(S rule.length (fun k => g rule k * g row (n - 1 - k)) % p)) % p = (-(S rule.length (fun k => g rule k * g row (n - 1 - k)))) % p from cg_neg mm, ← S_neg]
  refine cg_S fun k hk => ?_
  rw [turned_succ hk, show n - (k + 1) = n - 1 - k by omega, ← Int.neg_mul]
  exact cg_mul mm rfl
/-- a rule makes the number at n just if these together are 0 -/
theorem due_iff {p : Int} (hp : 0 < p) {rule row : List Int} (hr : Rs p row) {n : Nat} : g row n = due p rule row n ↔ D (turned p rule) row n % p = 0 := by
  rw [D_turned]
  have h1 := hr.g hp n
  have h2 : 0 ≤ due p rule row n ∧ due p rule row n < p := ⟨Int.emod_nonneg _ (by omega), Int.emod_lt_of_pos _ hp⟩
  constructor
  · intro e; rw [e]; simp
  · intro e
    have := Int.emod_emod_of_dvd (g row n - due p rule row n) (Int.dvd_refl p)
    by_cases h : g row n - due p rule row n < 0
    · have e2 : (g row n - due p rule row n + p) % p = 0 := by rw [Int.add_emod_right]; exact e
      rw [Int.emod_eq_of_lt (by omega) (by omega)] at e2
      omega
    · rw [Int.emod_eq_of_lt (by omega) (by omega)] at e
      omega
/-- told back and turned: the same by the prime -/
theorem turned_toldBack {p : Int} (hp : 1 < p) {r : List Int} (h0 : g r 0 % p = 1) (hl : 0 < r.length) (row : List Int) (n : Nat) : D (turned p (toldBack p r)) row n % p = D r row n % p := by
  unfold D
  rw [turned_len, toldBack_len, show r.length - 1 + 1 = r.length by omega]
  refine cg_S fun k hk => ?_
  refine cg_mul ?_ rfl
  cases k with
  | zero => rw [turned_zero, h0]; exact Int.emod_eq_of_lt (by omega) (by omega)
  | succ k =>
    rw [turned_succ (by rw [toldBack_len]; omega)]
    unfold toldBack
    rw [g_map (f := fun r => (-r) % p) (by simp; omega), g_drop, mm]
    rw [cg_neg (p := p) mm, Int.neg_neg, Nat.add_comm]

/-! ### rests taken off -/
def takenOff (p : Int) (one other : List Int) (by_ : Int) (ahead len : Nat) : List Int :=
  (List.range (len + 1)).map fun i => if ahead ≤ i ∧ i - ahead < other.length ∧ g other (i - ahead) ≠ 0 then (g one i - by_ * g other (i - ahead)) % p else g one i
theorem takenOff_len (p : Int) (one other : List Int) (by_ : Int) (ahead len : Nat) : (takenOff p one other by_ ahead len).length = len + 1 := by simp [takenOff]
theorem g_range_map {n : Nat} {f : Nat → Int} {i : Nat} (h : i < n) : g ((List.range n).map f) i = f i := by
  unfold g; simp [List.getD_eq_getElem?_getD, List.getElem?_map, h]
theorem takenOff_g {p : Int} {one other : List Int} {by_ : Int} {ahead len i : Nat} (h : i ≤ len) :
    g (takenOff p one other by_ ahead len) i % p = (g one i - (if i < ahead then 0 else by_ * g other (i - ahead))) % p := by
  unfold takenOff
  rw [g_range_map (by omega)]
  by_cases h1 : ahead ≤ i
  · rw [if_neg (show ¬ i < ahead by omega)]
    by_cases h2 : i - ahead < other.length ∧ g other (i - ahead) ≠ 0
    · rw [if_pos ⟨h1, h2⟩, mm]
    · rw [if_neg (fun z => h2 z.2)]
      have : g other (i - ahead) = 0 := by
        by_cases h3 : i - ahead < other.length
        · exact Classical.byContradiction fun z => h2 ⟨h3, z⟩
        · exact g_out (by omega)
      rw [this, Int.mul_zero, Int.sub_zero]
  · rw [if_neg (fun z => h1 z.1), if_pos (by omega), Int.sub_zero]
theorem takenOff_rs {p : Int} (hp : 0 < p) {one other : List Int} (ho : Rs p one) (by_ : Int) (ahead len : Nat) : Rs p (takenOff p one other by_ ahead len) := fun x h => by
  obtain ⟨i, _, rfl⟩ := List.mem_map.mp h
  split
  · exact ⟨Int.emod_nonneg _ (by omega), Int.emod_lt_of_pos _ hp⟩
  · exact ho.g hp i
/-- what they together are -/
theorem D_takenOff {p : Int} {one other row : List Int} {by_ : Int} {ahead len n : Nat} (h1 : one.length ≤ len + 1) (h2 : ahead + other.length ≤ len + 1) (hn : len ≤ n) :
    D (takenOff p one other by_ ahead len) row n % p = (D one row n - by_ * D other row (n - ahead)) % p := by
  have e1 : D one row n = S (len + 1) (fun k => g one k * g row (n - k)) := (S_more h1 fun k hk _ => by rw [g_out hk, Int.zero_mul]).symm
  have e2 : D other row (n - ahead) = S (len + 1) (fun k => (if k < ahead then 0 else g other (k - ahead)) * g row (n - k)) := by
    rw [show len + 1 = ahead + (len + 1 - ahead) by omega, S_shift (fun k hk => by rw [if_pos hk, Int.zero_mul])]
    unfold D
    rw [S_more (n := other.length) (m := len + 1 - ahead) (by omega)]
    · refine S_congr fun k hk => ?_
      rw [if_neg (by omega), show ahead + k - ahead = k by omega, show n - (ahead + k) = n - ahead - k by omega]
    · intro k hk _
      rw [if_neg (by omega), show ahead + k - ahead = k by omega, g_out hk, Int.zero_mul]
  rw [e1, e2]
  unfold D
  rw [takenOff_len, ← S_mul, Int.sub_eq_add_neg, ← S_neg, ← S_add]
  refine cg_S fun k hk => ?_
  rw [show g one k * g row (n - k) + -(by_ * ((if k < ahead then 0 else g other (k - ahead)) * g row (n - k))) = (g one k - (if k < ahead then 0 else by_ * g other (k - ahead))) * g row (n - k) by
    split
    · simp
    · rw [Int.sub_mul, Int.mul_assoc, Int.sub_eq_add_neg]]
  exact cg_mul (takenOff_g (by omega)) rfl
end RR
/-! RrBM: inverses by a prime, the shortest rule (Berlekamp and Massey), what shows that it is shortest. -/
namespace RR

/-- a prime the program takes -/
structure Good (p : Int) : Prop where
  two : 2 ≤ p
  most : p ≤ 997
  pr : ∀ e : Int, 0 < e → e ∣ p → e = 1 ∨ e = p
theorem Good.pos {p : Int} (h : Good p) : 0 < p := by have := h.two; omega
theorem Good.one {p : Int} (h : Good p) : 1 < p := by have := h.two; omega

/-! ### inverse -/
def invF : Nat → Int → Int → Int → Int → Int
  | 0, _, _, _, d => d
  | n + 1, a, b, c, d => if c = 1 then d else invF n c d (a - a / c * c) (b - a / c * d)
def inverse (p r : Int) : Int := invF p.toNat p 0 r 1 % p
/-- what holds between the turns -/
structure InvI (p r a b c d : Int) : Prop where
  pos : 1 ≤ c
  le : c ≤ a
  most : a ≤ p
  ea : a % p = (b * r) % p
  ec : c % p = (d * r) % p
  cop : ∀ e : Int, 0 < e → e ∣ a → e ∣ c → e = 1
theorem InvI.next {p r a b c d : Int} (h : InvI p r a b c d) (h1 : c ≠ 1) : InvI p r c d (a - a / c * c) (b - a / c * d) ∧ a - a / c * c < c := by
  have hc : 0 < c := by have := h.pos; omega
  have e : a - a / c * c = a % c := by
    have := Int.mul_ediv_add_emod a c
    rw [Int.mul_comm] at this
    omega
  have h2 : 0 ≤ a % c := Int.emod_nonneg _ (by omega)
  have h3 : a % c < c := Int.emod_lt_of_pos _ hc
  have h4 : a % c ≠ 0 := fun z => h1 (h.cop c hc (Int.dvd_of_emod_eq_zero z) (Int.dvd_refl c))
  have hle := h.le
  have hmo := h.most
  refine ⟨⟨by omega, by omega, by omega, h.ec, ?_, fun x hx d1 d2 => h.cop x hx ?_ d1⟩, by omega⟩
  · rw [Int.sub_mul, Int.mul_assoc]
    exact cg_sub h.ea (cg_mul rfl h.ec)
  · have := Int.dvd_add d2 (Int.dvd_mul_of_dvd_right d1 (b := a / c))
    rw [show a - a / c * c + a / c * c = a by omega] at this
    exact this
theorem invF_ok {p r : Int} : ∀ (n : Nat) (a b c d : Int), InvI p r a b c d → c ≤ n → (invF n a b c d * r) % p = 1 % p
  | 0, a, b, c, d, h, hn => by have := h.pos; omega
  | n + 1, a, b, c, d, h, hn => by
    unfold invF
    split
    · rename_i h1
      subst h1
      exact h.ec.symm
    · rename_i h1
      have q := h.next h1
      exact invF_ok n _ _ _ _ q.1 (by omega)
theorem invI_start {p r : Int} (hp : Good p) (h1 : 1 ≤ r) (h2 : r < p) : InvI p r p 0 r 1 := by
  refine ⟨h1, by omega, Int.le_refl p, by simp, by simp, fun e he d1 d2 => ?_⟩
  rcases hp.pr e he d1 with h | h
  · exact h
  · subst h
    have := Int.le_of_dvd (by omega) d2
    omega
theorem inverse_ok {p r : Int} (hp : Good p) (h1 : 1 ≤ r) (h2 : r < p) : (inverse p r * r) % p = 1 := by
  have q := invF_ok p.toNat p 0 r 1 (invI_start hp h1 h2) (by omega)
  unfold inverse
  rw [show (invF p.toNat p 0 r 1 % p * r) % p = (invF p.toNat p 0 r 1 * r) % p from cg_mul mm rfl, q]
  exact Int.emod_eq_of_lt (by omega) (by have := hp.two; omega)
theorem inverse_rs {p r : Int} (hp : Good p) : 0 ≤ inverse p r ∧ inverse p r < p := ⟨Int.emod_nonneg _ (by have := hp.two; omega), Int.emod_lt_of_pos _ hp.pos⟩

/-! ### the shortest rule -/
structure BSt where
  rule : List Int
  shorter : List Int
  place : Int
  miss : Int
def gapAt (p : Int) (row rule : List Int) (n : Nat) : Int := (g row n - due p rule row n) % p
def lenAt (rule : List Int) (n : Nat) : Nat := if n + 1 - rule.length > rule.length then n + 1 - rule.length else rule.length
def restsAt (p : Int) (row : List Int) (s : BSt) (n : Nat) : List Int :=
  takenOff p (turned p s.rule) (turned p s.shorter) (gapAt p row s.rule n * inverse p s.miss % p) ((n : Int) - s.place).toNat (lenAt s.rule n)
def bmStep (p : Int) (row : List Int) (s : BSt) (n : Nat) : BSt :=
  if s.rule.length ≤ n ∧ gapAt p row s.rule n ≠ 0 then
    if lenAt s.rule n > s.rule.length then ⟨toldBack p (restsAt p row s n), s.rule, n, gapAt p row s.rule n⟩
    else ⟨toldBack p (restsAt p row s n), s.shorter, s.place, s.miss⟩
  else s
def bm (p : Int) (row : List Int) : Nat → BSt
  | 0 => ⟨[], [], -1, 1⟩
  | n + 1 => bmStep p row (bm p row n) n
def shortest (p : Int) (row : List Int) : BSt := bm p row row.length

structure BMI (p : Int) (row : List Int) (n : Nat) (s : BSt) : Prop where
  rr : Rs p s.rule
  rsh : Rs p s.shorter
  m1 : 1 ≤ s.miss
  m2 : s.miss < p
  sum : (s.rule.length : Int) + s.shorter.length = s.place + 1
  len : s.rule.length ≤ n
  made : ∀ k, s.rule.length ≤ k → k < n → D (turned p s.rule) row k % p = 0
  shape : (s.place = -1 ∧ s.rule = [] ∧ s.shorter = []) ∨ (∃ q : Nat, s.place = q ∧ q < n ∧ s.shorter.length < s.rule.length ∧ s.shorter.length ≤ q ∧
    (∀ k, s.shorter.length ≤ k → k < q → D (turned p s.shorter) row k % p = 0) ∧ D (turned p s.shorter) row q % p = s.miss)

theorem BMI.start {p : Int} (hp : Good p) (row : List Int) : BMI p row 0 ⟨[], [], -1, 1⟩ :=
  ⟨Rs.nil, Rs.nil, Int.le_refl 1, hp.one, rfl, Nat.le_refl 0, fun k _ h => absurd h (Nat.not_lt_zero k), .inl ⟨rfl, rfl, rfl⟩⟩

theorem gap_D {p : Int} (row rule : List Int) (n : Nat) : gapAt p row rule n = D (turned p rule) row n % p := by
  unfold gapAt; rw [D_turned]

theorem restsAt_len {p : Int} (row : List Int) (s : BSt) (n : Nat) : (restsAt p row s n).length = lenAt s.rule n + 1 := takenOff_len ..

theorem BMI.step {p : Int} (hp : Good p) {row : List Int} {n : Nat} {s : BSt} (h : BMI p row n s) : BMI p row (n + 1) (bmStep p row s n) := by
  have hp0 := hp.pos
  have hp1 := hp.one
  have hsum := h.sum
  have hlen := h.len
  have gap_ge : 0 ≤ gapAt p row s.rule n := Int.emod_nonneg _ (by omega)
  have gap_lt : gapAt p row s.rule n < p := Int.emod_lt_of_pos _ hp0
  unfold bmStep
  by_cases hc : s.rule.length ≤ n ∧ gapAt p row s.rule n ≠ 0
  · rw [if_pos hc]
    obtain ⟨hln, hg⟩ := hc
    -- the place as a natural number plus one
    have hpl : s.place ≥ -1 ∧ s.place < n := by
      rcases h.shape with ⟨e, _, _⟩ | ⟨q, e, hq, _⟩ <;> omega
    obtain ⟨ah, hah⟩ : ∃ ah : Nat, ((n : Int) - s.place).toNat = ah := ⟨_, rfl⟩
    have hah1 : (ah : Int) = n - s.place := by omega
    obtain ⟨len, hl⟩ : ∃ len : Nat, lenAt s.rule n = len := ⟨_, rfl⟩
    have hl1 : s.rule.length ≤ len ∧ n + 1 - s.rule.length ≤ len ∧ (len = s.rule.length ∨ len = n + 1 - s.rule.length) := by
      unfold lenAt at hl
      split at hl <;> omega
    -- the new rests together
    have key : ∀ k, len ≤ k → D (restsAt p row s n) row k % p = (D (turned p s.rule) row k - (gapAt p row s.rule n * inverse p s.miss % p) * D (turned p s.shorter) row (k - ah)) % p := fun k hk => by
      unfold restsAt
      rw [hah, hl]
      exact D_takenOff (by rw [turned_len]; omega) (by rw [turned_len]; omega) hk
    have h0 : g (restsAt p row s n) 0 % p = 1 := by
      unfold restsAt
      rw [hah, hl, takenOff_g (Nat.zero_le _), if_pos (by omega), turned_zero, Int.sub_zero]
      exact Int.emod_eq_of_lt (by omega) (by omega)
    have hrl : (restsAt p row s n).length = len + 1 := by rw [restsAt_len, hl]
    have made' : ∀ k, len ≤ k → k < n + 1 → D (turned p (toldBack p (restsAt p row s n))) row k % p = 0 := fun k hk1 hk2 => by
      rw [turned_toldBack hp1 h0 (by omega), key k hk1]
      rcases h.shape with ⟨e, er, es⟩ | ⟨q, e, hq, hs1, hs2, hs3, hs4⟩
      · -- nothing stood ahead: no such k
        rw [er] at hl1
        simp at hl1
        omega
      · by_cases hkn : k < n
        · have z1 : D (turned p s.rule) row k % p = 0 := h.made k (by omega) hkn
          have z2 : D (turned p s.shorter) row (k - ah) % p = 0 := hs3 _ (by omega) (by omega)
          rw [Int.sub_emod, z1, Int.mul_emod, z2]
          simp
        · have ek : k = n := by omega
          have ek2 : k - ah = q := by omega
          rw [ek2, ek]
          have hq4 : D (turned p s.shorter) row q % p = s.miss % p := by rw [hs4, emod_small ⟨by have := h.m1; omega, h.m2⟩]
          have e1 : (gapAt p row s.rule n * inverse p s.miss % p * D (turned p s.shorter) row q) % p = gapAt p row s.rule n % p := by
            rw [show (gapAt p row s.rule n * inverse p s.miss % p * D (turned p s.shorter) row q) % p = (gapAt p row s.rule n * inverse p s.miss * s.miss) % p from cg_mul mm hq4]
            rw [Int.mul_assoc]
            rw [show (gapAt p row s.rule n * (inverse p s.miss * s.miss)) % p = (gapAt p row s.rule n * 1) % p from cg_mul rfl (by rw [inverse_ok hp h.m1 h.m2]; exact (Int.emod_eq_of_lt (by omega) hp1).symm), Int.mul_one]
          rw [cg_sub (b := gapAt p row s.rule n) (d := gapAt p row s.rule n) (by rw [gap_D, mm]) e1, Int.sub_self]
          simp
    have rlen : (toldBack p (restsAt p row s n)).length = len := by rw [toldBack_len, hrl]; omega
    by_cases hlt : lenAt s.rule n > s.rule.length
    · rw [if_pos hlt]
      rw [hl] at hlt
      refine ⟨toldBack_rs hp0 _, h.rr, by show 1 ≤ gapAt p row s.rule n; omega, gap_lt, ?_, ?_, ?_, .inr ⟨n, rfl, by omega, ?_, hln, fun k h1 h2 => h.made k h1 h2, ?_⟩⟩
      · show ((toldBack p (restsAt p row s n)).length : Int) + s.rule.length = (n : Int) + 1
        rw [rlen]; omega
      · show (toldBack p (restsAt p row s n)).length ≤ n + 1
        rw [rlen]; omega
      · intro k h1 h2
        exact made' k (by rw [← rlen]; exact h1) h2
      · show s.rule.length < (toldBack p (restsAt p row s n)).length
        rw [rlen]; omega
      · exact (gap_D row s.rule n).symm
    · rw [if_neg hlt]
      rw [hl] at hlt
      refine ⟨toldBack_rs hp0 _, h.rsh, h.m1, h.m2, ?_, ?_, ?_, ?_⟩
      · show ((toldBack p (restsAt p row s n)).length : Int) + s.shorter.length = s.place + 1
        rw [rlen]; omega
      · show (toldBack p (restsAt p row s n)).length ≤ n + 1
        rw [rlen]; omega
      · intro k h1 h2
        exact made' k (by rw [← rlen]; exact h1) h2
      · rcases h.shape with ⟨e, er, es⟩ | ⟨q, e, hq, hs1, hs2, hs3, hs4⟩
        · rw [er] at hlt hl1
          simp at hlt hl1
          omega
        · refine .inr ⟨q, e, by omega, ?_, hs2, hs3, hs4⟩
          show s.shorter.length < (toldBack p (restsAt p row s n)).length
          rw [rlen]; omega
  · rw [if_neg hc]
    refine ⟨h.rr, h.rsh, h.m1, h.m2, hsum, by omega, fun k h1 h2 => ?_, ?_⟩
    · by_cases hk : k < n
      · exact h.made k h1 hk
      · have e : k = n := by omega
        rw [e] at h1 ⊢
        have : gapAt p row s.rule n = 0 := Classical.byContradiction fun z => hc ⟨h1, z⟩
        rw [gap_D] at this
        exact this
    · rcases h.shape with q | ⟨q, e, hq, r⟩
      · exact .inl q
      · exact .inr ⟨q, e, by omega, r⟩
theorem bm_ok {p : Int} (hp : Good p) (row : List Int) : ∀ n, BMI p row n (bm p row n)
  | 0 => BMI.start hp row
  | n + 1 => (bm_ok hp row n).step hp

/-! ### whether it is so -/
def isLeast (p : Int) (row rule shorter : List Int) (place : Int) : Bool :=
  if (!(rs p rule) || (!(rs p shorter) || !(makesAll p rule row))) = true then false
  else if decide ((rule.length : Int) = 0) = true then decide ((shorter.length : Int) = 0) && decide (place = -1)
  else if (!(decide ((shorter.length : Int) ≤ place) && decide (place < (row.length : Int))) || (!(decide ((rule.length : Int) + (shorter.length : Int) = place + 1)) || decide ((rule.length : Int) ≤ (shorter.length : Int)))) = true then false
  else makesAll p shorter (row.take place.toNat) && !(decide (g row place.toNat = due p shorter row place.toNat))

theorem due_take {p : Int} {rule row : List Int} {n m : Nat} (h : n ≤ m) (h1 : rule.length ≤ n) : due p rule (row.take m) n = due p rule row n := by
  unfold due
  refine cg_S fun k hk => ?_
  by_cases hm : n - 1 - k < m
  · rw [g_take hm]
  · omega
theorem makes_take {p : Int} {rule row : List Int} {m : Nat} : Makes p rule (row.take m) ↔ ∀ n, rule.length ≤ n → n < m → n < row.length → g row n = due p rule row n := by
  unfold Makes
  constructor
  · intro h n h1 h2 h3
    have := h n h1 (by rw [List.length_take]; omega)
    rw [g_take h2, due_take (by omega) h1] at this
    exact this
  · intro h n h1 h2
    rw [List.length_take] at h2
    rw [g_take (by omega), due_take (by omega) h1]
    exact h n h1 (by omega) (by omega)

/-- as a Prop -/
structure Shown (p : Int) (row rule shorter : List Int) (place : Int) : Prop where
  rr : Rs p rule
  rsh : Rs p shorter
  made : Makes p rule row
  none : rule = [] → shorter = [] ∧ place = -1
  some : rule ≠ [] → ∃ q : Nat, place = q ∧ shorter.length ≤ q ∧ q < row.length ∧ rule.length + shorter.length = q + 1 ∧ shorter.length < rule.length ∧
    (∀ k, shorter.length ≤ k → k < q → g row k = due p shorter row k) ∧ g row q ≠ due p shorter row q
theorem Shown.isLeast {p : Int} {row rule shorter : List Int} {place : Int} (h : Shown p row rule shorter place) : RR.isLeast p row rule shorter place = true := by
  unfold RR.isLeast
  rw [rs_iff.mpr h.rr, rs_iff.mpr h.rsh, makes_iff.mpr h.made]
  simp only [Bool.not_true, Bool.or_self, Bool.false_eq_true, if_false]
  by_cases hr : rule = []
  · obtain ⟨e1, e2⟩ := h.none hr
    rw [hr, e1, e2]
    rfl
  · obtain ⟨q, e, h1, h2, h3, h4, h5, h6⟩ := h.some hr
    have hl : rule.length ≠ 0 := fun z => hr (List.eq_nil_of_length_eq_zero z)
    rw [if_neg (show ¬ (decide ((rule.length : Int) = 0) = true) by simp; exact hr), e]
    rw [decide_eq_true (show (shorter.length : Int) ≤ (q : Int) by omega), decide_eq_true (show (q : Int) < row.length by omega), decide_eq_true (show (rule.length : Int) + shorter.length = (q : Int) + 1 by omega), decide_eq_false (show ¬ (rule.length : Int) ≤ shorter.length by omega)]
    simp only [Int.toNat_natCast, Bool.and_self, Bool.not_true, Bool.or_self, Bool.false_eq_true, if_false]
    rw [makes_iff.mpr (makes_take.mpr fun n a b _ => h5 n a b), decide_eq_false h6]
    rfl

theorem shortest_shown {p : Int} (hp : Good p) {row : List Int} (hrow : Rs p row) : Shown p row (shortest p row).rule (shortest p row).shorter (shortest p row).place := by
  have h : BMI p row row.length (shortest p row) := bm_ok hp row row.length
  refine ⟨h.rr, h.rsh, fun n h1 h2 => (due_iff hp.pos hrow).mpr (h.made n h1 h2), fun e => ?_, fun ne => ?_⟩
  · rcases h.shape with ⟨a, _, b⟩ | ⟨q, _, _, a, _⟩
    · exact ⟨b, a⟩
    · rw [e] at a
      simp at a
  · rcases h.shape with ⟨_, b, _⟩ | ⟨q, e, hq, a, b, c, d⟩
    · exact absurd b ne
    · have hsum := h.sum
      refine ⟨q, e, b, hq, by omega, a, fun k h1 h2 => (due_iff hp.pos hrow).mpr (c k h1 h2), fun z => ?_⟩
      have := (due_iff hp.pos hrow).mp z
      rw [d] at this
      have := h.m1
      omega
theorem shortest_isLeast {p : Int} (hp : Good p) {row : List Int} (hrow : Rs p row) : isLeast p row (shortest p row).rule (shortest p row).shorter (shortest p row).place = true := (shortest_shown hp hrow).isLeast

/-- one rest more: it shows no more -/
theorem more_rule {p : Int} {row rule shorter : List Int} {place x : Int} (h : Shown p row rule shorter place) : isLeast p row (rule ++ [x]) shorter place = false := by
  unfold isLeast
  split
  · rfl
  · rw [if_neg (by simp; omega)]
    rw [if_pos]
    by_cases hr : rule = []
    · obtain ⟨e1, e2⟩ := h.none hr
      rw [hr, e1, e2]
      simp
    · obtain ⟨q, e, h1, h2, h3, _⟩ := h.some hr
      rw [decide_eq_false (show ¬ (((rule ++ [x]).length : Int) + shorter.length = place + 1) by simp; omega)]
      simp
theorem more_shorter {p : Int} {row rule shorter : List Int} {place x : Int} (h : Shown p row rule shorter place) : isLeast p row rule (shorter ++ [x]) place = false := by
  unfold isLeast
  split
  · rfl
  · by_cases hr : rule = []
    · rw [hr]
      simp
      omega
    · have hl : rule.length ≠ 0 := fun z => hr (List.eq_nil_of_length_eq_zero z)
      rw [if_neg (by simp; exact hr)]
      obtain ⟨q, e, h1, h2, h3, _⟩ := h.some hr
      rw [if_pos]
      rw [decide_eq_false (show ¬ ((rule.length : Int) + (shorter ++ [x]).length = place + 1) by simp; omega)]
      simp
/-- while rests are taken off: behind i turns -/
def offStep (p : Int) (one other : List Int) (by_ : Int) (ahead len i : Nat) : List Int :=
  (List.range (len + 1)).map fun j => if ahead ≤ j ∧ j - ahead < i ∧ g other (j - ahead) ≠ 0 then (g one j - by_ * g other (j - ahead)) % p else g one j
theorem offStep_zero {p : Int} {one other : List Int} {by_ : Int} {ahead len : Nat} (h : one.length ≤ len + 1) : one ++ List.replicate (len + 1 - one.length) 0 = offStep p one other by_ ahead len 0 := by
  refine g_ext (by simp [offStep]; omega) fun i hi => ?_
  have hi2 : i < len + 1 := by simp at hi; omega
  unfold offStep
  rw [g_range_map hi2, if_neg (by omega)]
  by_cases h1 : i < one.length
  · rw [g_append_left h1]
  · rw [g_append_right (by omega), g_replicate, g_out (by omega)]
theorem offStep_len (p : Int) (one other : List Int) (by_ : Int) (ahead len i : Nat) : (offStep p one other by_ ahead len i).length = len + 1 := by simp [offStep]
theorem offStep_at {p : Int} {one other : List Int} {by_ : Int} {ahead len i : Nat} (h : i + ahead ≤ len) : g (offStep p one other by_ ahead len i) (i + ahead) = g one (i + ahead) := by
  unfold offStep
  rw [g_range_map (by omega), if_neg (by omega)]
theorem offStep_next {p : Int} {one other : List Int} {by_ : Int} {ahead len i : Nat} (h : i + ahead ≤ len) (h0 : g other i ≠ 0) :
    (offStep p one other by_ ahead len i).set (i + ahead) ((g (offStep p one other by_ ahead len i) (i + ahead) - by_ * g other i) % p) = offStep p one other by_ ahead len (i + 1) := by
  rw [offStep_at h]
  refine g_ext (by simp [offStep]) fun j hj => ?_
  have hj2 : j < len + 1 := by simp [offStep] at hj; omega
  by_cases e : i + ahead = j
  · subst e
    rw [g_set_self (by rw [offStep_len]; omega)]
    unfold offStep
    rw [g_range_map (by omega), show i + ahead - ahead = i by omega, if_pos ⟨by omega, by omega, h0⟩]
  · rw [g_set_ne e]
    unfold offStep
    rw [g_range_map hj2, g_range_map hj2]
    by_cases c : ahead ≤ j ∧ j - ahead < i ∧ g other (j - ahead) ≠ 0
    · rw [if_pos c, if_pos ⟨c.1, by omega, c.2.2⟩]
    · rw [if_neg c, if_neg]
      rintro ⟨c1, c2, c3⟩
      exact c ⟨c1, by omega, c3⟩
theorem offStep_same {p : Int} {one other : List Int} {by_ : Int} {ahead len i : Nat} (h0 : g other i = 0) : offStep p one other by_ ahead len i = offStep p one other by_ ahead len (i + 1) := by
  refine g_ext (by simp [offStep]) fun j hj => ?_
  have hj2 : j < len + 1 := by simp [offStep] at hj; omega
  unfold offStep
  rw [g_range_map hj2, g_range_map hj2]
  by_cases c : ahead ≤ j ∧ j - ahead < i ∧ g other (j - ahead) ≠ 0
  · rw [if_pos c, if_pos ⟨c.1, by omega, c.2.2⟩]
  · rw [if_neg c, if_neg]
    rintro ⟨c1, c2, c3⟩
    by_cases e : j - ahead = i
    · rw [e] at c3
      exact c3 h0
    · exact c ⟨c1, by omega, c3⟩
theorem offStep_end (p : Int) (one other : List Int) (by_ : Int) (ahead len : Nat) : offStep p one other by_ ahead len other.length = takenOff p one other by_ ahead len := rfl
end RR
/-! RrUnlike: the only shortest rule, or another one. -/
namespace RR
/-- another rule of the shortest one's length -/
def otherRests (p : Int) (row : List Int) (s : BSt) : List Int := takenOff p (turned p s.rule) (turned p s.shorter) 1 ((row.length : Int) - s.place).toNat s.rule.length
def otherRule (p : Int) (row : List Int) : List Int := toldBack p (otherRests p row (shortest p row))
theorem otherRule_len (p : Int) (row : List Int) : (otherRule p row).length = (shortest p row).rule.length := by
  unfold otherRule otherRests
  rw [toldBack_len, takenOff_len]
  omega
structure Long (p : Int) (row : List Int) (s : BSt) : Prop where
  q : ∃ q : Nat, s.place = q ∧ q < row.length ∧ s.shorter.length < s.rule.length ∧ s.rule.length + s.shorter.length = q + 1
theorem long_of {p : Int} (hp : Good p) {row : List Int} (h : ¬ 2 * (shortest p row).rule.length ≤ row.length) : Long p row (shortest p row) := by
  have inv : BMI p row row.length (shortest p row) := bm_ok hp row row.length
  have hs := inv.sum
  rcases inv.shape with ⟨_, e, _⟩ | ⟨q, e, hq, a, _⟩
  · rw [e] at h
    simp at h
  · exact ⟨q, e, hq, a, by omega⟩
theorem other_shown {p : Int} (hp : Good p) {row : List Int} (hrow : Rs p row) (h : ¬ 2 * (shortest p row).rule.length ≤ row.length) :
    Shown p row (otherRule p row) (shortest p row).shorter (shortest p row).place ∧ otherRule p row ≠ (shortest p row).rule := by
  have inv : BMI p row row.length (shortest p row) := bm_ok hp row row.length
  have sh := shortest_shown hp hrow
  obtain ⟨q, e, hq, ha, hsum⟩ := long_of hp h
  have hl := otherRule_len p row
  have hp1 := hp.one
  have hne : (shortest p row).rule ≠ [] := fun z => by rw [z] at ha; simp at ha
  obtain ⟨q2, e2, b1, b2, b3, b4, b5, b6⟩ := sh.some hne
  have eq2 : q2 = q := by omega
  subst eq2
  obtain ⟨ah, hah⟩ : ∃ ah : Nat, ((row.length : Int) - (shortest p row).place).toNat = ah := ⟨_, rfl⟩
  have hah1 : ah + q2 = row.length := by omega
  have h0 : g (otherRests p row (shortest p row)) 0 % p = 1 := by
    unfold otherRests
    rw [hah, takenOff_g (Nat.zero_le _), if_pos (by omega), turned_zero, Int.sub_zero]
    exact Int.emod_eq_of_lt (by omega) hp1
  have hrl : (otherRests p row (shortest p row)).length = (shortest p row).rule.length + 1 := takenOff_len ..
  have made : Makes p (otherRule p row) row := fun n h1 h2 => by
    rw [hl] at h1
    refine (due_iff hp.pos hrow).mpr ?_
    unfold otherRule
    rw [turned_toldBack hp1 h0 (by omega)]
    unfold otherRests
    rw [hah, D_takenOff (by rw [turned_len]; omega) (by rw [turned_len]; omega) h1]
    have z1 : D (turned p (shortest p row).rule) row n % p = 0 := inv.made n h1 h2
    have z2 : D (turned p (shortest p row).shorter) row (n - ah) % p = 0 := (due_iff hp.pos hrow).mp (b5 _ (by omega) (by omega))
    rw [Int.one_mul, Int.sub_emod, z1, z2]
    simp
  refine ⟨⟨toldBack_rs hp.pos _, sh.rsh, made, fun z => ?_, fun _ => ?_⟩, fun z => ?_⟩
  · rw [z] at hl
    simp at hl
    exact absurd (List.eq_nil_of_length_eq_zero hl.symm) hne
  · exact ⟨q2, e2, b1, b2, by rw [hl]; exact b3, by rw [hl]; exact b4, b5, b6⟩
  · -- the rest at ah differs by one
    have k1 : g (turned p (otherRule p row)) ah % p = g (turned p (shortest p row).rule) ah % p := by rw [z]
    obtain ⟨k, rfl⟩ : ∃ k, ah = k + 1 := ⟨ah - 1, by omega⟩
    have hk : k < (shortest p row).rule.length := by omega
    have k2 : g (turned p (otherRule p row)) (k + 1) % p = g (otherRests p row (shortest p row)) (k + 1) % p := by
      rw [turned_succ (by rw [hl]; exact hk)]
      unfold otherRule toldBack
      rw [g_map (f := fun r => (-r) % p) (by simp; omega), g_drop, mm, cg_neg (p := p) mm, Int.neg_neg, Nat.add_comm]
    have k3 : g (otherRests p row (shortest p row)) (k + 1) % p = (g (turned p (shortest p row).rule) (k + 1) - 1) % p := by
      unfold otherRests
      rw [hah, takenOff_g (by omega), if_neg (by omega), show k + 1 - (k + 1) = 0 by omega, turned_zero, Int.one_mul]
    rw [k2, k3] at k1
    have k4 := cg_sub k1 (rfl : g (turned p (shortest p row).rule) (k + 1) % p = _)
    rw [show g (turned p (shortest p row).rule) (k + 1) - 1 - g (turned p (shortest p row).rule) (k + 1) = -1 by omega, Int.sub_self] at k4
    have k5 : (-1 + p) % p = 0 := by rw [Int.add_emod_right, k4]; simp
    rw [Int.emod_eq_of_lt (by omega) (by omega)] at k5
    omega
/-- what Another tells -/
def isAnother (p : Int) (row one other shorter : List Int) (place : Int) : Bool :=
  if (!decide ((one.length : Int) = (other.length : Int)) || decide (one = other)) = true then false
  else if (!isLeast p row one shorter place) = true then false
  else isLeast p row other shorter place
def isOnly (p : Int) (row rule shorter : List Int) (place : Int) : Bool := decide (2 * (rule.length : Int) ≤ (row.length : Int)) && isLeast p row rule shorter place
theorem another_ok {p : Int} (hp : Good p) {row : List Int} (hrow : Rs p row) (h : ¬ 2 * (shortest p row).rule.length ≤ row.length) :
    isAnother p row (shortest p row).rule (otherRule p row) (shortest p row).shorter (shortest p row).place = true := by
  obtain ⟨h1, h2⟩ := other_shown hp hrow h
  unfold isAnother
  rw [if_neg, if_neg]
  · exact h1.isLeast
  · rw [shortest_isLeast hp hrow]
    decide
  · rw [otherRule_len, decide_eq_true rfl, decide_eq_false (fun z => h2 z.symm)]
    decide
theorem only_ok {p : Int} (hp : Good p) {row : List Int} (hrow : Rs p row) (h : 2 * (shortest p row).rule.length ≤ row.length) :
    isOnly p row (shortest p row).rule (shortest p row).shorter (shortest p row).place = true := by
  unfold isOnly
  rw [shortest_isLeast hp hrow, decide_eq_true (show 2 * ((shortest p row).rule.length : Int) ≤ row.length by omega)]
  rfl
/-- lengths of what is told -/
theorem shortest_lens {p : Int} (hp : Good p) (row : List Int) : (shortest p row).rule.length ≤ row.length ∧ (shortest p row).shorter.length ≤ row.length ∧ (shortest p row).place ≥ -1 ∧ (shortest p row).place < row.length := by
  have inv : BMI p row row.length (shortest p row) := bm_ok hp row row.length
  have h1 := inv.len
  have hs := inv.sum
  rcases inv.shape with ⟨e0, _, e⟩ | ⟨q, e0, hq, a, _⟩
  · rw [e]
    exact ⟨h1, by simp, by omega, by omega⟩
  · exact ⟨h1, by omega, by omega, by omega⟩
end RR
/-! RrKit: own words over the layer: what expressions evaluate to (more than HandS.Evl has). -/
namespace RK
open PySem L2 Evl RR

/-- a list of numbers, of truths, as it stands -/
abbrev il (ns : List Int) : List V := ns.map V.int
abbrev bls (bs : List Bool) : List V := bs.map V.bl

/-! ### what is known of lists that stand -/
def Has (K : PySem.W.Frag) (H : Hp) (L : List (Addr × List V)) : Prop := ∀ q, q ∈ L → SqL K H q.1 q.2
section
variable {K : PySem.W.Frag} {H H' : Hp} {L : List (Addr × List V)} {a : Addr} {xs : List V}
theorem Has.nil : Has K H [] := fun _ h => by cases h
theorem Has.cons (h : SqL K H a xs) (k : Has K H L) : Has K H ((a, xs) :: L) := fun q hq => by
  cases hq with
  | head => exact h
  | tail _ z => exact k q z
theorem Has.up (k : Has K H L) (e : Ex H H') : Has K H' L := fun q hq => ex_l e (k q hq)
theorem Has.at (k : Has K H L) (h : (a, xs) ∈ L) : SqL K H a xs := k (a, xs) h
theorem tyx_sql (h : SqL K H a xs) : TyX K H (.ref a) (.type "list") := by
  rcases h with (h | ⟨o, h⟩) | ⟨o, its, n, h1, h2, _⟩
  · exact .base (.lst h)
  · exact .base (.frz h)
  · exact .kList h1 h2
end

/-! ### what evaluates to a list that may be read (EvR), written (EvM) -/
def EvR (K : PySem.W.Frag) (te : TE) (σ : L2.St) (H : Hp) (xs : List V) : Prop := ∀ H1, Ex H H1 → ∀ Q : VK, (∀ p H2, Ex H1 H2 → SqL K H2 p xs → Q (.ref p) H2) → te σ H1 Q
def EvM (te : TE) (σ : L2.St) (H : Hp) (xs : List V) : Prop := ∀ H1, Ex H H1 → ∀ Q : VK, (∀ p H2, Ex H1 H2 → H2 p = some (.lst xs) → Q (.ref p) H2) → te σ H1 Q
section
variable {K : PySem.W.Frag} {σ : L2.St} {H H' : Hp} {ta tb tc te tl : TE} {t u : TT} {x y z v : V} {r r' : R2} {xs ys : List V} {a : Addr}
theorem em_of_l (h : EvL te σ H xs) : EvM te σ H xs := fun H1 e Q q => h H1 e Q fun p H2 _ e2 hp => q p H2 e2 hp
theorem er_of_m (h : EvM te σ H xs) : EvR K te σ H xs := fun H1 e Q q => h H1 e Q fun p H2 e2 hp => q p H2 e2 (sq_of hp)
theorem er_of_l (h : EvL te σ H xs) : EvR K te σ H xs := er_of_m (em_of_l h)
theorem em_v (h : Ev te σ H (.ref a)) (hx : H a = some (.lst xs)) : EvM te σ H xs := fun H1 e Q q => h H1 e Q fun H2 e2 => q a H2 e2 (e2 a _ (e a _ hx))
theorem er_v (h : Ev te σ H (.ref a)) (hx : SqL K H a xs) : EvR K te σ H xs := fun H1 e Q q => h H1 e Q fun H2 e2 => q a H2 e2 (ex_l (e.trans e2) hx)
theorem EvR.mono (e : Ex H H') (h : EvR K te σ H xs) : EvR K te σ H' xs := fun H1 a Q q => h H1 (e.trans a) Q q
theorem EvM.mono (e : Ex H H') (h : EvM te σ H xs) : EvM te σ H' xs := fun H1 a Q q => h H1 (e.trans a) Q q
theorem er_is (h : EvR K te σ H xs) (e : xs = ys) : EvR K te σ H ys := e ▸ h
theorem el_is (h : EvL te σ H xs) (e : xs = ys) : EvL te σ H ys := e ▸ h

/-! ### numbers -/
theorem rv_add {i j : Int} : RV (rI0 fun i j => .int (i + j)) (.int i) (.int j) H (.int (i + j)) := rv_I0
theorem rv_sub {i j : Int} : RV (rI0 fun i j => .int (i - j)) (.int i) (.int j) H (.int (i - j)) := rv_I0
theorem rv_lt {i j : Int} : RV (rI0 fun i j => .bl (decide (i < j))) (.int i) (.int j) H (.bl (decide (i < j))) := rv_I0
theorem rv_le {i j : Int} : RV (rI0 fun i j => .bl (decide (i ≤ j))) (.int i) (.int j) H (.bl (decide (i ≤ j))) := rv_I0
theorem rv_gt {i j : Int} : RV (rI0 fun i j => .bl (decide (j < i))) (.int i) (.int j) H (.bl (decide (j < i))) := rv_I0
theorem rv_ge {i j : Int} : RV (rI0 fun i j => .bl (decide (j ≤ i))) (.int i) (.int j) H (.bl (decide (j ≤ i))) := rv_I0
theorem rv_and {i j : Int} : RV (rI0 fun i j => .int (Builtin.bitAnd i j)) (.int i) (.int j) H (.int (Builtin.bitAnd i j)) := rv_I0
theorem rv_mulL {i j : Int} (h : -(2 ^ 64) < i ∧ i < 2 ^ 64) : RV (rI CMul fun i j => .int (i * j)) (.int i) (.int j) H (.int (i * j)) := rv_I (C := CMul) (.inl h)
theorem rv_mulR {i j : Int} (h : -(2 ^ 64) < j ∧ j < 2 ^ 64) : RV (rI CMul fun i j => .int (i * j)) (.int i) (.int j) H (.int (i * j)) := rv_I (C := CMul) (.inr h)
theorem rv_mod {i j : Int} (h : 0 < j) : RV (rI (fun _ j => 0 < j) fun i j => .int (i % j)) (.int i) (.int j) H (.int (i % j)) := rv_I (C := fun _ j => 0 < j) h
theorem rv_div {i j : Int} (h : 0 < j ∧ j < 1073741824) : RV (rI CDiv fun i j => .int (i / j)) (.int i) (.int j) H (.int (i / j)) := rv_I (C := CDiv) h
theorem rv_shr {i j : Int} (h : 0 ≤ j) : RV (rI (fun _ j => 0 ≤ j) fun i j => .int (i / 2 ^ j.toNat)) (.int i) (.int j) H (.int (i / 2 ^ j.toNat)) := rv_I (C := fun _ j => 0 ≤ j) h
theorem rv_pow {i j : Int} (h : 0 ≤ j ∧ j ≤ 1000000 ∧ i.natAbs < 2 ^ 64) : RV (rI CPow fun i j => .int (i ^ j.toNat)) (.int i) (.int j) H (.int (i ^ j.toNat)) := rv_I (C := CPow) h
theorem rv_eqI {i j : Int} : RV rEq (.int i) (.int j) H (.bl (decide (i = j))) := fun H1 e Q q => ⟨rfl, by
  rw [show decide (V.int i = V.int j) = decide (i = j) by by_cases h : i = j <;> simp [h]]
  exact q H1 (Ex.refl H1)⟩
theorem rv_neI {i j : Int} : RV rNe (.int i) (.int j) H (.bl (!decide (i = j))) := fun H1 e Q q => ⟨rfl, by
  rw [show decide (V.int i = V.int j) = decide (i = j) by by_cases h : i = j <;> simp [h]]
  exact q H1 (Ex.refl H1)⟩
theorem rv_eqB {i j : Bool} : RV rEq (.bl i) (.bl j) H (.bl (decide (i = j))) := fun H1 e Q q => ⟨rfl, by
  rw [show decide (V.bl i = V.bl j) = decide (i = j) by by_cases h : i = j <;> simp [h]]
  exact q H1 (Ex.refl H1)⟩
theorem rv_neB {i j : Bool} : RV rNe (.bl i) (.bl j) H (.bl (!decide (i = j))) := fun H1 e Q q => ⟨rfl, by
  rw [show decide (V.bl i = V.bl j) = decide (i = j) by by_cases h : i = j <;> simp [h]]
  exact q H1 (Ex.refl H1)⟩
theorem rv_eqS {i j : Str} : RV rEq (.str i) (.str j) H (.bl (decide (i = j))) := fun H1 e Q q => ⟨rfl, by
  rw [show decide (V.str i = V.str j) = decide (i = j) by by_cases h : i = j <;> simp [h]]
  exact q H1 (Ex.refl H1)⟩
theorem rv_neS {i j : Str} : RV rNe (.str i) (.str j) H (.bl (!decide (i = j))) := fun H1 e Q q => ⟨rfl, by
  rw [show decide (V.str i = V.str j) = decide (i = j) by by_cases h : i = j <;> simp [h]]
  exact q H1 (Ex.refl H1)⟩
theorem rv_isB {i j : Bool} : RV rIsB (.bl i) (.bl j) H (.bl (decide (i = j))) := fun H1 e Q q => ⟨i, j, rfl, rfl, q H1 (Ex.refl H1)⟩
theorem rv_notB {i j : Bool} : RV rNotB (.bl i) (.bl j) H (.bl (!decide (i = j))) := fun H1 e Q q => ⟨i, j, rfl, rfl, q H1 (Ex.refl H1)⟩

/-! ### lists read -/
theorem ev_lenR (h : EvR K te σ H xs) : Ev (tCB (rLenS K) (tCons te tNil)) σ H (.int (xs.length : Int)) := fun H1 e Q q =>
  h H1 e _ fun p H2 e2 hp => ⟨p, xs, rfl, .inl hp, q H2 e2⟩
theorem el_listR (h : EvR K te σ H xs) : EvL (tCB (rListS K) (tCons te tNil)) σ H xs := fun H1 e Q q =>
  h H1 e _ fun p H2 e2 hp => ⟨p, xs, rfl, .inl hp, fun l hl => q l _ (fresh_back e2 hl) (e2.trans (Ex.new hl)) upd_same⟩
theorem ev_sumR {ns : List Int} (h : EvR K te σ H (il ns)) : Ev (tCB (rSum K) (tCons te tNil)) σ H (.int ns.sum) := fun H1 e Q q =>
  h H1 e _ fun p H2 e2 hp => ⟨p, ns, rfl, hp, q H2 e2⟩
theorem ev_allR {bs : List Bool} (h : EvR K te σ H (bls bs)) : Ev (tCB (rAll K) (tCons te tNil)) σ H (.bl (bs.all id)) := fun H1 e Q q =>
  h H1 e _ fun p H2 e2 hp => ⟨p, bs, rfl, hp, q H2 e2⟩
theorem ev_anyR {bs : List Bool} (h : EvR K te σ H (bls bs)) : Ev (tCB (rAny K) (tCons te tNil)) σ H (.bl (bs.any id)) := fun H1 e Q q =>
  h H1 e _ fun p H2 e2 hp => ⟨p, bs, rfl, hp, q H2 e2⟩
theorem g_at {ns : List Int} {i : Int} (h : 0 ≤ i ∧ i < ns.length) : atI (il ns) i = some (.int (g ns i.toNat)) := by
  have e : i = (i.toNat : Int) := by omega
  rw [e]
  refine atI_nat ?_
  show (ns.map V.int)[((i.toNat : Nat) : Int).toNat]? = _
  rw [List.getElem?_map]
  rw [show ((i.toNat : Nat) : Int).toNat = i.toNat from rfl, g_in (by omega)]
  rfl
theorem ev_ixR {i : Int} (h : EvR K ta σ H xs) (hi : Ev tb σ H (.int i)) (hv : atI xs i = some v) : Ev (tOp (rIxL K) ta tb) σ H v := fun H1 e Q q =>
  h H1 e _ fun p H2 e2 hp => hi H2 (e.trans e2) _ fun H3 e3 => ⟨p, xs, i, v, rfl, rfl, ex_l e3 hp, hv, q H3 (e2.trans e3)⟩
theorem ev_ixI {ns : List Int} {i : Int} (h : EvR K ta σ H (il ns)) (hi : Ev tb σ H (.int i)) (hv : 0 ≤ i ∧ i < ns.length) : Ev (tOp (rIxL K) ta tb) σ H (.int (g ns i.toNat)) := ev_ixR h hi (g_at hv)
/-- a place of a written tuple -/
theorem ev_ixU {i : Int} (h : EvU ta σ H xs) (hi : Ev tb σ H (.int i)) (hv : atI xs i = some v) : Ev (tOp (rIxT K) ta tb) σ H v := fun H1 e Q q =>
  h H1 e _ fun p H2 _ e2 hp => hi H2 (e.trans e2) _ fun H3 e3 => ⟨p, xs, i, v, rfl, rfl, ex_t e3 (st_of hp), hv, q H3 (e2.trans e3)⟩
theorem ev_ixTv {i : Int} {a : Addr} (h : Ev ta σ H (.ref a)) (ht : SqT K H a xs) (hi : Ev tb σ H (.int i)) (hv : atI xs i = some v) : Ev (tOp (rIxT K) ta tb) σ H v := ev_op h hi (rv_ixT ht hv)
theorem el_slR {tl' th : TO} {lo hi : Option Int} (h : EvR K te σ H xs) (h1 : EvO tl' σ H lo) (h2 : EvO th σ H hi) : EvL (tSl (rSlL K) te tl' th) σ H (cutV xs lo hi) := fun H1 e _ q =>
  h H1 e _ fun p H2 e2 hp => h1 H2 (e.trans e2) _ fun H3 e3 => h2 H3 ((e.trans e2).trans e3) _ fun H4 e4 =>
    ⟨p, xs, rfl, ex_l (e3.trans e4) hp, fun l hl => q l _ (fresh_back ((e2.trans e3).trans e4) hl) (((e2.trans e3).trans e4).trans (Ex.new hl)) upd_same⟩
theorem el_revR (h : EvR K te σ H xs) : EvL (tRevL K te) σ H xs.reverse := fun H1 e _ q =>
  h H1 e _ fun p H2 e2 hp => ⟨p, xs, rfl, hp, fun l hl => q l _ (fresh_back e2 hl) (e2.trans (Ex.new hl)) upd_same⟩
theorem el_cat (ha : EvM ta σ H xs) (hb : EvM tb σ H ys) (hz : xs.length + ys.length ≤ 100000) : EvL (tOp rCat ta tb) σ H (xs ++ ys) := fun H1 e _ q =>
  ha H1 e _ fun p H2 e2 hp => hb H2 (e.trans e2) _ fun p2 H3 e3 hp2 => ⟨p, p2, xs, ys, rfl, rfl, e3 p _ hp, hp2, sz_of hz, fun l hl => q l _ (fresh_back (e2.trans e3) hl) ((e2.trans e3).trans (Ex.new hl)) upd_same⟩
theorem el_rep {k : Int} (ha : EvM ta σ H [v]) (hb : Ev tb σ H (.int k)) (hz : -100000 ≤ k ∧ k ≤ 100000) : EvL (tOp rRep ta tb) σ H (List.replicate k.toNat v) := fun H1 e _ q =>
  ha H1 e _ fun p H2 e2 hp => hb H2 (e.trans e2) _ fun H3 e3 => ⟨p, k, [v], rfl, rfl, e3 p _ hp, by omega, by omega, sz_of (by simp; omega), fun l hl => by
    refine q l _ (fresh_back (e2.trans e3) hl) ((e2.trans e3).trans (Ex.new hl)) ?_
    rw [upd_same]
    congr 2
    have : ∀ n : Nat, (List.replicate n [v]).flatten = List.replicate n v := fun n => by
      induction n with
      | zero => rfl
      | succ n ih => rw [List.replicate_succ, List.flatten_cons, ih, List.replicate_succ]; rfl
    exact this _⟩
theorem el_nil : EvL (tLst tNil) σ H [] := el_lst ea_nil (by simp)

/-! ### == of data -/
mutual
/-- data without dicts, texts of any size -/
def okD : PyData → Bool
  | .none | .bool _ | .int _ => true
  | .str _ => false
  | .list xs | .tuple xs => okDs xs
  | .dict _ => false
def okDs : List PyData → Bool
  | [] => true
  | x :: xs => okD x && okDs xs
end
theorem canLay_ints : ∀ ns : List Int, PyData.canLayAll0 (ns.map PyData.int) = true
  | [] => rfl
  | n :: ns => by
    show (PyData.canLay0 (.int n) && PyData.canLayAll0 (ns.map PyData.int)) = true
    rw [canLay_ints ns]
    rfl
theorem depth_ints : ∀ ns : List Int, PyData.depthAll (ns.map PyData.int) = 0
  | [] => rfl
  | n :: ns => by
    show max (PyData.depth (.int n)) (PyData.depthAll (ns.map PyData.int)) = 0
    rw [depth_ints ns]
    rfl
theorem canLay_bools : ∀ ns : List Bool, PyData.canLayAll0 (ns.map PyData.bool) = true
  | [] => rfl
  | n :: ns => by
    show (PyData.canLay0 (.bool n) && PyData.canLayAll0 (ns.map PyData.bool)) = true
    rw [canLay_bools ns]
    rfl
theorem depth_bools : ∀ ns : List Bool, PyData.depthAll (ns.map PyData.bool) = 0
  | [] => rfl
  | n :: ns => by
    show max (PyData.depth (.bool n)) (PyData.depthAll (ns.map PyData.bool)) = 0
    rw [depth_bools ns]
    rfl
theorem shaped_ints (ns : List Int) : SeqAt.shaped (.list (ns.map PyData.int)) = true := by
  show (PyData.canLayAll0 (ns.map PyData.int) && decide (PyData.depthAll (ns.map PyData.int) + 1 ≤ 64)) = true
  rw [canLay_ints, depth_ints]
  rfl
theorem shaped_bools (ns : List Bool) : SeqAt.shaped (.list (ns.map PyData.bool)) = true := by
  show (PyData.canLayAll0 (ns.map PyData.bool) && decide (PyData.depthAll (ns.map PyData.bool) + 1 ≤ 64)) = true
  rw [canLay_bools, depth_bools]
  rfl
theorem eqv_ints : ∀ xs ys : List Int, PyData.eqvAll (xs.map PyData.int) (ys.map PyData.int) = decide (xs = ys)
  | [], [] => rfl
  | [], _ :: _ => rfl
  | _ :: _, [] => rfl
  | x :: xs, y :: ys => by
    show ((x == y) && PyData.eqvAll (xs.map PyData.int) (ys.map PyData.int)) = _
    rw [eqv_ints xs ys]
    by_cases h : x = y <;> by_cases h2 : xs = ys <;> simp [h, h2]
theorem eqv_bools : ∀ xs ys : List Bool, PyData.eqvAll (xs.map PyData.bool) (ys.map PyData.bool) = decide (xs = ys)
  | [], [] => rfl
  | [], _ :: _ => rfl
  | _ :: _, [] => rfl
  | x :: xs, y :: ys => by
    show ((x == y) && PyData.eqvAll (xs.map PyData.bool) (ys.map PyData.bool)) = _
    rw [eqv_bools xs ys]
    by_cases h : x = y <;> by_cases h2 : xs = ys <;> simp [h, h2]
theorem dpAll_ints {K : PySem.W.Frag} {H : Hp} : ∀ ns : List Int, DpAll K H (ns.map V.int) (ns.map PyData.int)
  | [] => .nil
  | n :: ns => .cons (.int n) (dpAll_ints ns)
theorem dpAll_bools {K : PySem.W.Frag} {H : Hp} : ∀ ns : List Bool, DpAll K H (ns.map V.bl) (ns.map PyData.bool)
  | [] => .nil
  | n :: ns => .cons (.bl n) (dpAll_bools ns)
theorem dp_ints {a : Addr} {ns : List Int} (h : SqL K H a (il ns)) : Dp K H (.ref a) (.list (ns.map PyData.int)) := .lst h (dpAll_ints ns)
theorem dp_bools {a : Addr} {ns : List Bool} (h : SqL K H a (bls ns)) : Dp K H (.ref a) (.list (ns.map PyData.bool)) := .lst h (dpAll_bools ns)
theorem ev_eqL {ms ns : List Int} (ha : EvR K ta σ H (il ms)) (hb : EvR K tb σ H (il ns)) : Ev (tOp (rEqD K) ta tb) σ H (.bl (decide (ms = ns))) := fun H1 e Q q =>
  ha H1 e _ fun p H2 e2 hp => hb H2 (e.trans e2) _ fun p2 H3 e3 hp2 => ⟨_, _, dp_ints (ex_l e3 hp), dp_ints hp2, shaped_ints _, shaped_ints _, by
    show Q (.bl (PyData.eqvAll _ _)) H3
    rw [eqv_ints]
    exact q H3 (e2.trans e3)⟩
theorem ev_neL {ms ns : List Int} (ha : EvR K ta σ H (il ms)) (hb : EvR K tb σ H (il ns)) : Ev (tOp (rNeD K) ta tb) σ H (.bl (!decide (ms = ns))) := fun H1 e Q q =>
  ha H1 e _ fun p H2 e2 hp => hb H2 (e.trans e2) _ fun p2 H3 e3 hp2 => ⟨_, _, dp_ints (ex_l e3 hp), dp_ints hp2, shaped_ints _, shaped_ints _, by
    show Q (.bl (!(PyData.eqvAll _ _))) H3
    rw [eqv_ints]
    exact q H3 (e2.trans e3)⟩
theorem ev_eqBs {ms ns : List Bool} (ha : EvR K ta σ H (bls ms)) (hb : EvR K tb σ H (bls ns)) : Ev (tOp (rEqD K) ta tb) σ H (.bl (decide (ms = ns))) := fun H1 e Q q =>
  ha H1 e _ fun p H2 e2 hp => hb H2 (e.trans e2) _ fun p2 H3 e3 hp2 => ⟨_, _, dp_bools (ex_l e3 hp), dp_bools hp2, shaped_bools _, shaped_bools _, by
    show Q (.bl (PyData.eqvAll _ _)) H3
    rw [eqv_bools]
    exact q H3 (e2.trans e3)⟩

/-! ### a < b < c; isinstance; a field -/
theorem ev_chain {b c : Bool} (ha : Ev ta σ H x) (hb : Ev tb σ H y) (h1 : RV r x y H (.bl b)) (hc : b = true → Ev tc σ H z) (h2 : b = true → RV r' y z H (.bl c)) : Ev (tChain r r' ta tb tc) σ H (.bl (b && c)) := fun H1 e Q q =>
  ha H1 e _ fun H2 e2 => hb H2 (e.trans e2) _ fun H3 e3 => h1 H3 ((e.trans e2).trans e3) _ fun H4 e4 => ⟨b, rfl, by
    have E : Ex H H4 := ((e.trans e2).trans e3).trans e4
    have E1 : Ex H1 H4 := (e2.trans e3).trans e4
    cases b with
    | true =>
      show tc σ H4 _
      exact hc rfl H4 E _ fun H5 e5 => h2 rfl H5 (E.trans e5) Q fun H6 e6 => q H6 ((E1.trans e5).trans e6)
    | false =>
      show Q (.bl false) H4
      exact q H4 E1⟩
theorem ev_isi {b : Bool} {t' : Value} {n : String} (ha : Ev ta σ H x) (hx : TyX K H x t') (hk : PySem.W.kitOne K t' (.type n) = some b) (hty : ∀ {H1 : Hp}, Ex H H1 → TyX K H1 x t') : Ev (tCB (rIsi K) (tCons ta (tCons (tC (.ty n)) tNil))) σ H (.bl b) := fun H1 e Q q =>
  ha H1 e _ fun H2 e2 => ⟨x, .ty n, t', .type n, b, rfl, .ty n, hty (e.trans e2), hk, q H2 e2⟩
theorem ev_isiInt {b : Bool} {i : Int} {n : String} (ha : Ev ta σ H (.int i)) (hk : PySem.W.kitOne K (.type "int") (.type n) = some b) : Ev (tCB (rIsi K) (tCons ta (tCons (tC (.ty n)) tNil))) σ H (.bl b) :=
  ev_isi ha (.base (.int i)) hk fun _ => .base (.int i)
theorem ev_isiBl {b : Bool} {i : Bool} {n : String} (ha : Ev ta σ H (.bl i)) (hk : PySem.W.kitOne K (.type "bool") (.type n) = some b) : Ev (tCB (rIsi K) (tCons ta (tCons (tC (.ty n)) tNil))) σ H (.bl b) :=
  ev_isi ha (.base (.bl i)) hk fun _ => .base (.bl i)
theorem ev_isiL {b : Bool} {n : String} (ha : EvR K ta σ H xs) (hk : PySem.W.kitOne K (.type "list") (.type n) = some b) : Ev (tCB (rIsi K) (tCons ta (tCons (tC (.ty n)) tNil))) σ H (.bl b) := fun H1 e Q q =>
  ha H1 e _ fun p H2 e2 hp => ⟨.ref p, .ty n, .type "list", .type n, b, rfl, .ty n, tyx_sql hp, hk, q H2 e2⟩
theorem ev_fld {C dx : Addr} {fs : List (Str × V)} {f : Str} (ha : Ev ta σ H (.ref a)) (hi : H a = some (.ins C dx fs)) (cl : Cls K C) (na : NoAttr K C f) (hl : fs.lookup f = some v) : Ev (tFld K ta f) σ H v := fun H1 e Q q =>
  ha H1 e _ fun H2 e2 => ⟨a, C, dx, fs, v, rfl, e2 a _ (e a _ hi), cl, na, hl, q H2 e2⟩

/-! ### arguments -/
/-- an argument as it is wanted: a value; a list that is read; a list that may be written -/
inductive Ag where
  | v (x : V)
  | l (xs : List V)
  | m (xs : List V)
def AgOk (K : PySem.W.Frag) (H : Hp) : Ag → V → Prop
  | .v x, y => y = x
  | .l xs, y => ∃ p, y = .ref p ∧ SqL K H p xs
  | .m xs, y => ∃ p, y = .ref p ∧ H p = some (.lst xs)
def AgsOk (K : PySem.W.Frag) (H : Hp) : List Ag → List V → Prop
  | [], vs => vs = []
  | g :: gs, vs => ∃ y ys, vs = y :: ys ∧ AgOk K H g y ∧ AgsOk K H gs ys
theorem AgOk.up {g : Ag} {y : V} (h : AgOk K H g y) (e : Ex H H') : AgOk K H' g y := by
  cases g with
  | v x => exact h
  | l xs => obtain ⟨p, h1, h2⟩ := h; exact ⟨p, h1, ex_l e h2⟩
  | m xs => obtain ⟨p, h1, h2⟩ := h; exact ⟨p, h1, e _ _ h2⟩
theorem AgsOk.up : ∀ {gs : List Ag} {vs : List V}, AgsOk K H gs vs → Ex H H' → AgsOk K H' gs vs
  | [], _, h, _ => h
  | _ :: _, _, ⟨y, ys, h1, h2, h3⟩, e => ⟨y, ys, h1, h2.up e, AgsOk.up h3 e⟩
theorem AgsOk.len : ∀ {gs : List Ag} {vs : List V}, AgsOk K H gs vs → vs.length = gs.length
  | [], _, h => by rw [show _ = [] from h]; rfl
  | _ :: _, _, ⟨y, ys, h1, h2, h3⟩ => by rw [h1, List.length_cons, List.length_cons, AgsOk.len h3]
def EvAs (K : PySem.W.Frag) (ta : TA) (σ : L2.St) (H : Hp) (gs : List Ag) : Prop := ∀ H1, Ex H H1 → ∀ Q : List V → Hp → Prop, (∀ vs H2, Ex H1 H2 → AgsOk K H2 gs vs → Q vs H2) → ta σ H1 Q
theorem eas_nil : EvAs K tNil σ H [] := fun H1 _ _ q => q [] H1 (Ex.refl H1) rfl
theorem eas_v {tr : TA} {gs : List Ag} (h : Ev te σ H x) (hr : EvAs K tr σ H gs) : EvAs K (tCons te tr) σ H (.v x :: gs) := fun H1 e Q q =>
  h H1 e _ fun H2 e2 => hr H2 (e.trans e2) _ fun vs H3 e3 ok => q (x :: vs) H3 (e2.trans e3) ⟨x, vs, rfl, rfl, ok⟩
theorem eas_l {tr : TA} {gs : List Ag} (h : EvR K te σ H xs) (hr : EvAs K tr σ H gs) : EvAs K (tCons te tr) σ H (.l xs :: gs) := fun H1 e Q q =>
  h H1 e _ fun p H2 e2 hp => hr H2 (e.trans e2) _ fun vs H3 e3 ok => q (.ref p :: vs) H3 (e2.trans e3) ⟨.ref p, vs, rfl, ⟨p, rfl, ex_l e3 hp⟩, ok⟩
theorem eas_m {tr : TA} {gs : List Ag} (h : EvM te σ H xs) (hr : EvAs K tr σ H gs) : EvAs K (tCons te tr) σ H (.m xs :: gs) := fun H1 e Q q =>
  h H1 e _ fun p H2 e2 hp => hr H2 (e.trans e2) _ fun vs H3 e3 ok => q (.ref p :: vs) H3 (e2.trans e3) ⟨.ref p, vs, rfl, ⟨p, rfl, e3 p _ hp⟩, ok⟩

/-! ### promises: a value back, a new list back -/
/-- α what the promise is about; args its arguments; pre what must hold; res what comes back -/
def spV (K : PySem.W.Frag) {α : Type} (args : α → List Ag) (pre : α → Prop) (res : α → V) : Sp := fun vs H Q _ => ∃ a, AgsOk K H (args a) vs ∧ pre a ∧ RetV (res a) H Q
def spL (K : PySem.W.Frag) {α : Type} (args : α → List Ag) (pre : α → Prop) (res : α → List V) : Sp := fun vs H Q _ => ∃ a, AgsOk K H (args a) vs ∧ pre a ∧ RetL (res a) H Q
theorem ev_callV {α : Type} {args : α → List Ag} {pre : α → Prop} {res : α → V} {E : XK} {ta : TA} (a : α) (h : EvAs K ta σ H (args a)) (hp : pre a) : Ev (tCall (spV K args pre res) [] E ta) σ H (res a) := fun H1 e Q q =>
  h H1 e _ fun vs H2 e2 ok => ⟨a, by rw [List.append_nil]; exact ok, hp, fun H3 e3 => q H3 (e2.trans e3)⟩
theorem el_callL {α : Type} {args : α → List Ag} {pre : α → Prop} {res : α → List V} {E : XK} {ta : TA} (a : α) (h : EvAs K ta σ H (args a)) (hp : pre a) : EvL (tCall (spL K args pre res) [] E ta) σ H (res a) := fun H1 e Q q =>
  h H1 e _ fun vs H2 e2 ok => ⟨a, by rw [List.append_nil]; exact ok, hp, fun p H3 hn e3 h3 => q p H3 (fresh_back e2 hn) (e2.trans e3) h3⟩

/-! ### comprehensions -/
theorem given_all (n : Nat) (v : Nat → V) : given n (fun _ => true) v = (List.range n).map v := by
  unfold given
  rw [List.filter_eq_self.mpr (fun _ _ => rfl)]
/-- over a list of numbers -/
theorem el_lcI {ns : List Int} {j : Nat} {vs : List Nat} (f : Int → V) (h : EvR K tl σ H (il ns)) (hz : ns.length ≤ 40000) (hw : ∀ x, wipe ((wipe σ vs).set j (some x)) vs = wipe σ vs)
    (he : ∀ x H1, Ex H H1 → x ∈ ns → Ev te ((wipe σ vs).set j (some (.int x))) H1 (f x)) : EvL (tLc (iList K tl) (gName j) tYes te vs) σ H (ns.map f) := fun H0 e Q q => h H0 e _ fun a H1 e1 hx => ⟨a, rfl, ⟨_, hx⟩, fun Dl hD =>
  lc_list (xs := il ns) (Cw H1 (fun _ => true) (fun i => f (g ns i)) Dl) ⟨hD, Ex.new hD, upd_same⟩ (fun i H' _ p => ex_l p.2.1 hx) (fun i x H' hi p => by
      have hi2 : i < ns.length := by
        have := (List.getElem?_eq_some_iff.mp hi).1
        rw [List.length_map] at this
        exact this
      have ex : x = .int (g ns i) := by
        rw [List.getElem?_map, g_in hi2] at hi
        exact (Option.some.inj hi).symm
      subst ex
      exact ⟨hw _, cw_turn p (by omega) (fun H2 _ Q q => q H2 (Ex.refl H2)) (fun _ => he _ H1 (e.trans e1) (g_mem hi2))⟩) (fun H' p => q Dl H' (fresh_back e1 p.1) (e1.trans p.2.1) (by
      have := p.2.2
      rw [given_all, List.length_map] at this
      rw [this]
      congr 2
      apply List.ext_getElem?
      intro i
      rw [List.getElem?_map, List.getElem?_map]
      by_cases hi : i < ns.length
      · rw [List.getElem?_range hi, g_in hi]
        rfl
      · rw [List.getElem?_eq_none (by simp; omega), List.getElem?_eq_none (by omega)]
        rfl))⟩
/-- over enumerate of a list of numbers -/
theorem el_lcE {ns : List Int} {j l : Nat} {vs : List Nat} (f : Nat → V) (h : EvR K tl σ H (il ns)) (hz : ns.length ≤ 40000) (hw : ∀ x y, wipe (((wipe σ vs).set j (some x)).set l (some y)) vs = wipe σ vs)
    (he : ∀ (i : Nat) H1, Ex H H1 → i < ns.length → Ev te (((wipe σ vs).set j (some (.int i))).set l (some (.int (g ns i)))) H1 (f i)) :
    EvL (tLc (iEnum K (tCons tl tNil)) (gTup K 2 (gCons (gName j) (gCons (gName l) gNil))) tYes te vs) σ H ((List.range ns.length).map f) := fun H0 e Q q => h H0 e _ fun a H1 e1 hx => ⟨a, _, rfl, hx, fun Dl hD =>
  lc_it (walk_enum (xs := il ns)) (Cw H1 (fun _ => true) f Dl) ⟨hD, Ex.new hD, upd_same⟩ (fun i H' _ p => ex_l p.2.1 hx) (fun i x H2 H' hi p y => by
      rw [List.length_map] at hi
      obtain ⟨T, x1, x2, rfl, hT, rfl, e3, e4⟩ := y
      have ex1 : x1 = .int (i : Int) := (Option.some.inj e3).symm
      have ex2 : x2 = .int (g ns i) := by
        have e4 : (ns.map V.int)[i]? = some x2 := e4
        rw [List.getElem?_map, g_in hi] at e4
        exact (Option.some.inj e4).symm
      subst ex1 ex2
      refine ⟨T, _, rfl, st_of upd_same, rfl, _, _, rfl, _, _, rfl, rfl, hw _ _, ?_⟩
      have hDT : Dl ≠ T := ne_of_none p.2.2 hT
      have p' : Cw H1 (fun _ => true) f Dl i (upd H2 T (.tup [.int (i : Int), .int (g ns i)])) := ⟨p.1, p.2.1.trans (Ex.new hT), by rw [upd_ne hDT]; exact p.2.2⟩
      exact cw_turn p' (by omega) (fun H2 _ Q q => q H2 (Ex.refl H2)) (fun _ => he i H1 (e.trans e1) hi)) (fun H' p => q Dl H' (fresh_back e1 p.1) (e1.trans p.2.1) (by
      have := p.2.2
      rw [given_all, List.length_map] at this
      exact this))⟩
/-- over range(n) -/
theorem el_lcN {ta' : TA} {j : Nat} {vs : List Nat} {n : Int} (v : Nat → V) (h : EvA ta' σ H [.int n]) (hn : -40000 ≤ n ∧ n ≤ 40000) (hw : ∀ x, wipe ((wipe σ vs).set j (some x)) vs = wipe σ vs)
    (he : ∀ (i : Nat) H1, Ex H H1 → (i : Int) < n → Ev te ((wipe σ vs).set j (some (.int (i : Int)))) H1 (v i)) : EvL (tLc (iRng1 ta') (gName j) tYes te vs) σ H ((List.range n.toNat).map v) := fun H0 e Q q => h H0 e _ fun H1 e1 => ⟨n, rfl, by omega, by omega, fun Dl hD =>
  lc_range (lo := 0) (n := n.toNat) (Cw H1 (fun _ => true) v Dl) ⟨hD, Ex.new hD, upd_same⟩ (fun i H' hi p => by
    have e0 : (0 : Int) + (i : Int) = (i : Int) := Int.zero_add _
    rw [e0]
    exact ⟨hw _, cw_turn p (by omega) (fun H2 _ Q q => q H2 (Ex.refl H2)) (fun _ => he i H1 (e.trans e1) (by omega))⟩) (fun H' p => q Dl H' (fresh_back e1 p.1) (e1.trans p.2.1) (by rw [p.2.2, given_all]))⟩
/-- over range(lo, hi), an if -/
theorem el_lcR {ta' : TA} {j : Nat} {vs : List Nat} {lo hi : Int} (f : Nat → Bool) (v : Nat → V) (h : EvA ta' σ H [.int lo, .int hi]) (hn : -40000 ≤ lo ∧ lo ≤ 40000 ∧ -40000 ≤ hi ∧ hi ≤ 40000) (hz : (hi - lo).toNat ≤ 40000) (hw : ∀ x, wipe ((wipe σ vs).set j (some x)) vs = wipe σ vs)
    (ht : ∀ (i : Nat) H1, Ex H H1 → lo + (i : Int) < hi → EvT t ((wipe σ vs).set j (some (.int (lo + i)))) H1 (f i))
    (he : ∀ (i : Nat) H1, Ex H H1 → lo + (i : Int) < hi → f i = true → Ev te ((wipe σ vs).set j (some (.int (lo + (i : Int))))) H1 (v i)) : EvL (tLc (iRng2 ta') (gName j) t te vs) σ H (given (hi - lo).toNat f v) := fun H0 e Q q => h H0 e _ fun H1 e1 => ⟨lo, hi, rfl, ⟨by omega, by omega, by omega, by omega⟩, fun Dl hD =>
  lc_range (lo := lo) (n := (hi - lo).toNat) (Cw H1 f v Dl) ⟨hD, Ex.new hD, upd_same⟩ (fun i H' hi p => 
    ⟨hw _, cw_turn p (by omega) (ht i H1 (e.trans e1) (by omega)) (fun hf => he i H1 (e.trans e1) (by omega) hf)⟩) (fun H' p => q Dl H' (fresh_back e1 p.1) (e1.trans p.2.1) p.2.2)⟩
theorem et_yes : EvT tYes σ H true := fun H1 _ _ q => q H1 (Ex.refl H1)
/-- over range(lo, hi) -/
theorem el_lcRy {ta' : TA} {j : Nat} {vs : List Nat} {lo hi : Int} (v : Nat → V) (h : EvA ta' σ H [.int lo, .int hi]) (hn : -40000 ≤ lo ∧ lo ≤ 40000 ∧ -40000 ≤ hi ∧ hi ≤ 40000) (hz : (hi - lo).toNat ≤ 40000) (hw : ∀ x, wipe ((wipe σ vs).set j (some x)) vs = wipe σ vs)
    (he : ∀ (i : Nat) H1, Ex H H1 → lo + (i : Int) < hi → Ev te ((wipe σ vs).set j (some (.int (lo + (i : Int))))) H1 (v i)) : EvL (tLc (iRng2 ta') (gName j) tYes te vs) σ H ((List.range (hi - lo).toNat).map v) :=
  el_is (el_lcR (fun _ => true) v h hn hz hw (fun _ _ _ _ => et_yes) (fun i H1 e hi _ => he i H1 e hi)) (given_all _ _)
end
/-! ### the same, operand by operand -/
section
variable {K : PySem.W.Frag} {σ : L2.St} {H H' : Hp} {ta tb tc te tl : TE} {t u : TT} {x y z v : V} {xs ys : List V} {i j : Int} {a : Addr}
theorem ev_add (ha : Ev ta σ H (.int i)) (hb : Ev tb σ H (.int j)) : Ev (tOp (rI0 fun i j => .int (i + j)) ta tb) σ H (.int (i + j)) := ev_op ha hb rv_add
theorem ev_sub (ha : Ev ta σ H (.int i)) (hb : Ev tb σ H (.int j)) : Ev (tOp (rI0 fun i j => .int (i - j)) ta tb) σ H (.int (i - j)) := ev_op ha hb rv_sub
theorem ev_band (ha : Ev ta σ H (.int i)) (hb : Ev tb σ H (.int j)) : Ev (tOp (rI0 fun i j => .int (Builtin.bitAnd i j)) ta tb) σ H (.int (Builtin.bitAnd i j)) := ev_op ha hb rv_and
theorem ev_mul (ha : Ev ta σ H (.int i)) (hb : Ev tb σ H (.int j)) (hc : (-(2 ^ 64) < i ∧ i < 2 ^ 64) ∨ (-(2 ^ 64) < j ∧ j < 2 ^ 64)) : Ev (tOp (rI CMul fun i j => .int (i * j)) ta tb) σ H (.int (i * j)) := ev_op ha hb (rv_I (C := CMul) hc)
theorem ev_mod (ha : Ev ta σ H (.int i)) (hb : Ev tb σ H (.int j)) (hc : 0 < j) : Ev (tOp (rI (fun _ j => 0 < j) fun i j => .int (i % j)) ta tb) σ H (.int (i % j)) := ev_op ha hb (rv_mod hc)
theorem ev_div (ha : Ev ta σ H (.int i)) (hb : Ev tb σ H (.int j)) (hc : 0 < j ∧ j < 1073741824) : Ev (tOp (rI CDiv fun i j => .int (i / j)) ta tb) σ H (.int (i / j)) := ev_op ha hb (rv_div hc)
theorem ev_shr (ha : Ev ta σ H (.int i)) (hb : Ev tb σ H (.int j)) (hc : 0 ≤ j) : Ev (tOp (rI (fun _ j => 0 ≤ j) fun i j => .int (i / 2 ^ j.toNat)) ta tb) σ H (.int (i / 2 ^ j.toNat)) := ev_op ha hb (rv_shr hc)
theorem ev_pow (ha : Ev ta σ H (.int i)) (hb : Ev tb σ H (.int j)) (hc : 0 ≤ j ∧ j ≤ 1000000 ∧ i.natAbs < 2 ^ 64) : Ev (tOp (rI CPow fun i j => .int (i ^ j.toNat)) ta tb) σ H (.int (i ^ j.toNat)) := ev_op ha hb (rv_pow hc)
theorem ev_lt (ha : Ev ta σ H (.int i)) (hb : Ev tb σ H (.int j)) : Ev (tOp (rI0 fun i j => .bl (decide (i < j))) ta tb) σ H (.bl (decide (i < j))) := ev_op ha hb rv_lt
theorem ev_le (ha : Ev ta σ H (.int i)) (hb : Ev tb σ H (.int j)) : Ev (tOp (rI0 fun i j => .bl (decide (i ≤ j))) ta tb) σ H (.bl (decide (i ≤ j))) := ev_op ha hb rv_le
theorem ev_gt (ha : Ev ta σ H (.int i)) (hb : Ev tb σ H (.int j)) : Ev (tOp (rI0 fun i j => .bl (decide (j < i))) ta tb) σ H (.bl (decide (j < i))) := ev_op ha hb rv_gt
theorem ev_ge (ha : Ev ta σ H (.int i)) (hb : Ev tb σ H (.int j)) : Ev (tOp (rI0 fun i j => .bl (decide (j ≤ i))) ta tb) σ H (.bl (decide (j ≤ i))) := ev_op ha hb rv_ge
theorem ev_neg (ha : Ev ta σ H (.int i)) : Ev (tUn (rU fun i => .int (-i)) ta) σ H (.int (-i)) := ev_un ha ru_neg
theorem ev_abs (ha : Ev ta σ H (.int i)) : Ev (tCB (fun xs H Q => ∃ i, xs = [V.int i] ∧ Q (.int (if i < 0 then -i else i)) H) (tCons ta tNil)) σ H (.int (if i < 0 then -i else i)) := fun H1 e Q q => ha H1 e _ fun H2 e2 => ⟨i, rfl, q H2 e2⟩
/-- == of what is alike or not: two numbers, two truths, two texts -/
inductive Sc : V → V → Bool → Prop where
  | int (i j : Int) : Sc (.int i) (.int j) (decide (i = j))
  | bl (i j : Bool) : Sc (.bl i) (.bl j) (decide (i = j))
  | str (i j : Str) : Sc (.str i) (.str j) (decide (i = j))
theorem ev_eq {b : Bool} (ha : Ev ta σ H x) (hb : Ev tb σ H y) (s : Sc x y b) : Ev (tOp rEq ta tb) σ H (.bl b) := by
  cases s with
  | int i j => exact ev_op ha hb rv_eqI
  | bl i j => exact ev_op ha hb rv_eqB
  | str i j => exact ev_op ha hb rv_eqS
theorem ev_ne {b : Bool} (ha : Ev ta σ H x) (hb : Ev tb σ H y) (s : Sc x y b) : Ev (tOp rNe ta tb) σ H (.bl (!b)) := by
  cases s with
  | int i j => exact ev_op ha hb rv_neI
  | bl i j => exact ev_op ha hb rv_neB
  | str i j => exact ev_op ha hb rv_neS
theorem ev_isB {b c : Bool} (ha : Ev ta σ H (.bl b)) (hb : Ev tb σ H (.bl c)) : Ev (tOp rIsB ta tb) σ H (.bl (decide (b = c))) := ev_op ha hb rv_isB
theorem ev_notB {b c : Bool} (ha : Ev ta σ H (.bl b)) (hb : Ev tb σ H (.bl c)) : Ev (tOp rNotB ta tb) σ H (.bl (!decide (b = c))) := ev_op ha hb rv_notB
theorem er_var {n : Nat} (h : σ[n]? = some (some (.ref a))) (hx : SqL K H a xs) : EvR K (tVar n) σ H xs := er_v (ev_var h) hx
theorem em_var {n : Nat} (h : σ[n]? = some (some (.ref a))) (hx : H a = some (.lst xs)) : EvM (tVar n) σ H xs := em_v (ev_var h) hx
theorem ev_ixTvar {n : Nat} (h : σ[n]? = some (some (.ref a))) (ht : SqT K H a xs) (hi : Ev tb σ H (.int i)) (hv : atI xs i = some v) : Ev (tOp (rIxT K) (tVar n) tb) σ H v := ev_ixTv (ev_var h) ht hi hv
end

/-! ### comprehensions of numbers, of truths -/
section
variable {K : PySem.W.Frag} {σ : L2.St} {H H' : Hp} {ta tb tc te tl : TE} {t u : TT} {ns : List Int} {j l : Nat} {vs : List Nat}
theorem el_lcIi (f : Int → Int) (h : EvR K tl σ H (il ns)) (hz : ns.length ≤ 40000) (hw : ∀ x, wipe ((wipe σ vs).set j (some x)) vs = wipe σ vs)
    (he : ∀ x H1, Ex H H1 → x ∈ ns → Ev te ((wipe σ vs).set j (some (.int x))) H1 (.int (f x))) : EvL (tLc (iList K tl) (gName j) tYes te vs) σ H (il (ns.map f)) :=
  el_is (el_lcI (fun x => .int (f x)) h hz hw he) (by unfold il; rw [List.map_map]; rfl)
theorem el_lcIb (f : Int → Bool) (h : EvR K tl σ H (il ns)) (hz : ns.length ≤ 40000) (hw : ∀ x, wipe ((wipe σ vs).set j (some x)) vs = wipe σ vs)
    (he : ∀ x H1, Ex H H1 → x ∈ ns → Ev te ((wipe σ vs).set j (some (.int x))) H1 (.bl (f x))) : EvL (tLc (iList K tl) (gName j) tYes te vs) σ H (bls (ns.map f)) :=
  el_is (el_lcI (fun x => .bl (f x)) h hz hw he) (by unfold bls; rw [List.map_map]; rfl)
theorem el_lcEi (f : Nat → Int) (h : EvR K tl σ H (il ns)) (hz : ns.length ≤ 40000) (hw : ∀ x y, wipe (((wipe σ vs).set j (some x)).set l (some y)) vs = wipe σ vs)
    (he : ∀ (i : Nat) H1, Ex H H1 → i < ns.length → Ev te (((wipe σ vs).set j (some (.int i))).set l (some (.int (g ns i)))) H1 (.int (f i))) :
    EvL (tLc (iEnum K (tCons tl tNil)) (gTup K 2 (gCons (gName j) (gCons (gName l) gNil))) tYes te vs) σ H (il ((List.range ns.length).map f)) :=
  el_is (el_lcE (fun i => .int (f i)) h hz hw he) (by unfold il; rw [List.map_map]; rfl)
theorem el_lcNi {ta' : TA} {n : Int} (f : Nat → Int) (h : EvA ta' σ H [.int n]) (hn : -40000 ≤ n ∧ n ≤ 40000) (hw : ∀ x, wipe ((wipe σ vs).set j (some x)) vs = wipe σ vs)
    (he : ∀ (i : Nat) H1, Ex H H1 → (i : Int) < n → Ev te ((wipe σ vs).set j (some (.int (i : Int)))) H1 (.int (f i))) : EvL (tLc (iRng1 ta') (gName j) tYes te vs) σ H (il ((List.range n.toNat).map f)) :=
  el_is (el_lcN (fun i => .int (f i)) h hn hw he) (by unfold il; rw [List.map_map]; rfl)
theorem el_lcRb {ta' : TA} {lo hi : Int} (f : Nat → Bool) (h : EvA ta' σ H [.int lo, .int hi]) (hn : -40000 ≤ lo ∧ lo ≤ 40000 ∧ -40000 ≤ hi ∧ hi ≤ 40000) (hz : (hi - lo).toNat ≤ 40000) (hw : ∀ x, wipe ((wipe σ vs).set j (some x)) vs = wipe σ vs)
    (he : ∀ (i : Nat) H1, Ex H H1 → lo + (i : Int) < hi → Ev te ((wipe σ vs).set j (some (.int (lo + (i : Int))))) H1 (.bl (f i))) : EvL (tLc (iRng2 ta') (gName j) tYes te vs) σ H (bls ((List.range (hi - lo).toNat).map f)) :=
  el_is (el_lcRy (fun i => .bl (f i)) h hn hz hw he) (by unfold bls; rw [List.map_map]; rfl)
theorem el_lcRbt {ta' : TA} {lo hi : Int} (ft : Nat → Bool) (f : Nat → Bool) (h : EvA ta' σ H [.int lo, .int hi]) (hn : -40000 ≤ lo ∧ lo ≤ 40000 ∧ -40000 ≤ hi ∧ hi ≤ 40000) (hz : (hi - lo).toNat ≤ 40000) (hw : ∀ x, wipe ((wipe σ vs).set j (some x)) vs = wipe σ vs)
    (ht : ∀ (i : Nat) H1, Ex H H1 → lo + (i : Int) < hi → EvT t ((wipe σ vs).set j (some (.int (lo + i)))) H1 (ft i))
    (he : ∀ (i : Nat) H1, Ex H H1 → lo + (i : Int) < hi → ft i = true → Ev te ((wipe σ vs).set j (some (.int (lo + (i : Int))))) H1 (.bl (f i))) : EvL (tLc (iRng2 ta') (gName j) t te vs) σ H (bls (((List.range (hi - lo).toNat).filter ft).map f)) :=
  el_is (el_lcR ft (fun i => .bl (f i)) h hn hz hw ht he) (by unfold given bls; rw [List.map_map]; rfl)
theorem ev_isiV {x : V} {b : Bool} {t' : Value} {n : String} (ha : Ev ta σ H x) (hty : ∀ {H1 : Hp}, Ex H H1 → TyX K H1 x t') (hk : PySem.W.kitOne K t' (.type n) = some b) : Ev (tCB (rIsi K) (tCons ta (tCons (tC (.ty n)) tNil))) σ H (.bl b) :=
  ev_isi ha (hty (Ex.refl H)) hk hty
/-- an own class's instance and an own class -/
theorem ev_isiO {a C dx C2 : Addr} {fs : List (Str × V)} {b : Bool} (ha : Ev ta σ H (.ref a)) (hi : H a = some (.ins C dx fs)) (cl : Cls K C) (h1 : PySem.W.findIn K (.ref C) "__class__" = some (some (.builtin "object.__class__")))
    (h2 : PySem.W.specialIn K (.builtin "object.__class__") "__get__" = some (some (.builtin "getset_descriptor.__get__"))) (h3 : PySem.W.takesIn K (.builtin "object.__class__") = some true) (h4 : PySem.W.mroIn K C (.type "object") = some true)
    (hk : PySem.W.kitOne K (.ref C) (.ref C2) = some b) : Ev (tCB (rIsi K) (tCons ta (tCons (tC (.ref C2)) tNil))) σ H (.bl b) := fun H1 e Q q =>
  ha H1 e _ fun H2 e2 => ⟨.ref a, .ref C2, .ref C, .ref C2, b, rfl, .own C2, .base (.ins (e2 a _ (e a _ hi)) cl h1 h2 h3 h4), hk, q H2 e2⟩
end
end RK
/-! RrTerm: the layer's terms with the written part K told, so that a reading bears K itself. -/
namespace RK
open PySem L2 Evl RR PyProof.Rows
section
variable {X : Cx} {e a b elt tg iter : Expr} {es ifs : List Expr} {ta tb te tl : TE} {tr : TA} {t u : TS} {pos cpos apos p1 p2 pos' : Pos} {x f : Str} {k : Nat}
theorem x_len (K : PySem.W.Frag) (hK : X.K = K) (hm : X.mg "len" = none) (hg : Gl X "len") (ha : PA X [e] tr)
    (he : starEach [e] X.env = (false, eval e X.env) :: starEach [] X.env := by rfl) (hpl : (backTo pos (starEach [] X.env)).any (·.1) = false := by rfl) : PE X (.Call (.Name "len" p1) [e] [] pos) (tCB (rLenS K) tr) := by
  subst hK; exact pe_callB (r := rLenS X.K) call_len_seq hg hm PySem.boot_len ha (he := he) (hpl := hpl)
theorem x_sum (K : PySem.W.Frag) (hK : X.K = K) (hc : X.calm = true) (hm : X.mg "sum" = none) (hg : Gl X "sum") (ha : PA X [e] tr)
    (he : starEach [e] X.env = (false, eval e X.env) :: starEach [] X.env := by rfl) (hpl : (backTo pos (starEach [] X.env)).any (·.1) = false := by rfl) : PE X (.Call (.Name "sum" p1) [e] [] pos) (tCB (rSum K) tr) := by
  subst hK; exact pe_callB (cr_sum hc) hg hm PyProof.Rows.boot_sum ha (he := he) (hpl := hpl)
theorem x_all (K : PySem.W.Frag) (hK : X.K = K) (hc : X.calm = true) (hm : X.mg "all" = none) (hg : Gl X "all") (ha : PA X [e] tr)
    (he : starEach [e] X.env = (false, eval e X.env) :: starEach [] X.env := by rfl) (hpl : (backTo pos (starEach [] X.env)).any (·.1) = false := by rfl) : PE X (.Call (.Name "all" p1) [e] [] pos) (tCB (rAll K) tr) := by
  subst hK; exact pe_callB (cr_all hc) hg hm (by decide +kernel) ha (he := he) (hpl := hpl)
theorem x_any (K : PySem.W.Frag) (hK : X.K = K) (hc : X.calm = true) (hm : X.mg "any" = none) (hg : Gl X "any") (ha : PA X [e] tr)
    (he : starEach [e] X.env = (false, eval e X.env) :: starEach [] X.env := by rfl) (hpl : (backTo pos (starEach [] X.env)).any (·.1) = false := by rfl) : PE X (.Call (.Name "any" p1) [e] [] pos) (tCB (rAny K) tr) := by
  subst hK; exact pe_callB (cr_any hc) hg hm (by decide +kernel) ha (he := he) (hpl := hpl)
theorem x_list (K : PySem.W.Frag) (hK : X.K = K) (hm : X.mg "list" = none) (hg : Gl X "list") (ha : PA X [e] tr)
    (he : starEach [e] X.env = (false, eval e X.env) :: starEach [] X.env := by rfl) (hpl : (backTo pos (starEach [] X.env)).any (·.1) = false := by rfl) : PE X (.Call (.Name "list" p1) [e] [] pos) (tCB (rListS K) tr) := by
  subst hK; exact pe_callTy (r := rListS X.K) call_list_of hg hm (by decide +kernel) ha (he := he) (hpl := hpl)
theorem x_max2 (hc : X.calm = true) (hm : X.mg "max" = none) (hg : Gl X "max") (ha : PA X [a, b] tr)
    (he : starEach [a, b] X.env = (false, eval a X.env) :: starEach [b] X.env := by rfl) (hpl : (backTo pos (starEach [b] X.env)).any (·.1) = false := by rfl) : PE X (.Call (.Name "max" p1) [a, b] [] pos) (tCB rMax2 tr) :=
  pe_callB (r := rMax2) (call_max2 hc) hg hm (by decide +kernel) ha (he := he) (hpl := hpl)
def rAbs : List V → Hp → VK → Prop := fun xs H Q => ∃ i, xs = [.int i] ∧ Q (.int (if i < 0 then -i else i)) H
theorem x_abs (hm : X.mg "abs" = none) (hg : Gl X "abs") (ha : PA X [e] tr)
    (he : starEach [e] X.env = (false, eval e X.env) :: starEach [] X.env := by rfl) (hpl : (backTo pos (starEach [] X.env)).any (·.1) = false := by rfl) : PE X (.Call (.Name "abs" p1) [e] [] pos) (tCB rAbs tr) :=
  pe_callB (r := rAbs) call_abs hg hm (by decide +kernel) ha (he := he) (hpl := hpl)
theorem x_isi (K : PySem.W.Frag) (hK : X.K = K) (hm : X.mg "isinstance" = none) (hg : Gl X "isinstance") (ha : PA X [a, b] tr)
    (he : starEach [a, b] X.env = (false, eval a X.env) :: starEach [b] X.env := by rfl) (hpl : (backTo pos (starEach [b] X.env)).any (·.1) = false := by rfl) : PE X (.Call (.Name "isinstance" p1) [a, b] [] pos) (tCB (rIsi K) tr) := by
  subst hK; exact pe_callB call_isi hg hm (by decide +kernel) ha (he := he) (hpl := hpl)
/-- a built-in class by its name -/
theorem x_ty (n : String) (hm : X.mg x = none) (hg : Gl X x) (hv : bootBuiltins x = some (.type n)) (hn : x ≠ "__name__" := by decide) (hd : (x == ("__debug__" : Str)) = false := by decide) : PE X (.Name x pos) (tC (.ty n)) := pe_bltn hg hm hv rfl hn hd
theorem x_ixL (K : PySem.W.Frag) (hK : X.K = K) (ha : PE X a ta) (hb : PE X b tb) (hs : PlainIx b) : PE X (.Subscript a b pos) (tOp (rIxL K) ta tb) := by subst hK; exact pe_ix ix_list ha hb hs
theorem x_ixT (K : PySem.W.Frag) (hK : X.K = K) (ha : PE X a ta) (hb : PE X b tb) (hs : PlainIx b) : PE X (.Subscript a b pos) (tOp (rIxT K) ta tb) := by subst hK; exact pe_ix ix_tup ha hb hs
theorem x_sl {lo hi : Option Expr} {t1 t2 : TO} (K : PySem.W.Frag) (hK : X.K = K) (ha : PE X a ta) (hl : PO X lo t1) (hu : PO X hi t2) : PE X (.Subscript a (.Slice lo hi none p2) pos) (tSl (rSlL K) ta t1 t2) := by subst hK; exact pe_slice sl_list ha hl hu
theorem x_rev {p3 : Pos} (K : PySem.W.Frag) (hK : X.K = K) (he : PE X e te) : PE X (.Subscript e (.Slice none none (some (.UnaryOp .USub (.Constant (.int 1) k p1) p2)) p3) pos) (tRevL K te) := by subst hK; exact pe_revL he
theorem x_eqD (K : PySem.W.Frag) (hK : X.K = K) (hu : X.A.units + 64 < cLine) (ha : PE X a ta) (hb : PE X b tb) : PE X (.Compare a [.Eq] [b] pos) (tOp (rEqD K) ta tb) := by subst hK; exact pe_cmpR (op_eqD hu) ha hb (nomark _)
theorem x_neD (K : PySem.W.Frag) (hK : X.K = K) (hu : X.A.units + 64 < cLine) (ha : PE X a ta) (hb : PE X b tb) : PE X (.Compare a [.NotEq] [b] pos) (tOp (rNeD K) ta tb) := by subst hK; exact pe_cmpR (op_neD hu) ha hb (nomark _)
theorem x_eqDt (K : PySem.W.Frag) (hK : X.K = K) (hu : X.A.units + 64 < cLine) (ha : PE X a ta) (hb : PE X b tb) : PT X (.Compare a [.Eq] [b] pos) (tTest (tOp (rEqD K) ta tb)) := by subst hK; exact pt_cmpR (op_eqD hu) ha hb (nomark _)
theorem x_neDt (K : PySem.W.Frag) (hK : X.K = K) (hu : X.A.units + 64 < cLine) (ha : PE X a ta) (hb : PE X b tb) : PT X (.Compare a [.NotEq] [b] pos) (tTest (tOp (rNeD K) ta tb)) := by subst hK; exact pt_cmpR (op_neD hu) ha hb (nomark _)
theorem x_fld (K : PySem.W.Frag) (hK : X.K = K) (he : PE X e ta) (hb : attributeBase e f X.env (eval e X.env) = eval e X.env) : PE X (.Attribute e f pos) (tFld K ta f) := by subst hK; exact pe_fld he hb
theorem x_sfld {value o : Expr} {tv : TE} (K : PySem.W.Frag) (hK : X.K = K) (ha : PE X o ta) (hv : PE X value tv) (hs : swapsWith value (some (.Attribute o f pos')) pos.line X.env = pure false) : PS X (.Assign [.Attribute o f pos'] value pos) (sFld K ta tv f) := by subst hK; exact ps_fld ha hv hs
theorem xi_list (K : PySem.W.Frag) (hK : X.K = K) (hl : PE X e te) : PI X tg e (iList K te) := by subst hK; exact pi_list hl
theorem xi_tup (K : PySem.W.Frag) (hK : X.K = K) (hl : PE X e te) : PI X tg e (iTup K te) := by subst hK; exact pi_tup hl
theorem xi_enum {elts : List Expr} {kk : Nat} {tpos : Pos} (K : PySem.W.Frag) (hK : X.K = K) (hm : X.mg "enumerate" = none) (hg : Gl X "enumerate") (ha : PA X [e] tr) (hs : starEach [e] X.env = [(false, eval e X.env)] := by rfl) :
    PI X (.Tuple elts kk tpos) (.Call (.Name "enumerate" p1) [e] [] pos) (iEnum K tr) := by subst hK; exact pi_enum hg hm ha hs
theorem xg_tup {g : TGs} (K : PySem.W.Frag) (hK : X.K = K) (n : Nat) (hc : X.calm = true) (h : PGs X es g)
    (hn : (assignEach es X.env).length = n := by rfl) (hst : (assignEach es X.env).findIdx? (·.1) = none := by rfl) : PG X (.Tuple es k pos) (gTup K n g) := by subst hK; exact pg_tup hc h hn hst
/-- a method of a list that changes it -/
theorem x_append {o : Expr} {to : TE} (K : PySem.W.Frag) (hK : X.K = K) (ho : PE X o to) (ha : PA X [e] tr)
    (hbase : attributeBase o "append" X.env (eval o X.env) = eval o X.env := by rfl)
    (hfew : ((backTo cpos (starEach (e :: []) X.env)).all (fun x => !x.1) && (backToKw cpos (keywordEach [] X.env)).all (fun x => x.1.isSome)
      && decide ((e :: ([] : List Expr)).length + ([] : List Keyword).length + (if ([] : List Keyword).isEmpty then 0 else 1) < 30)) = true := by rfl)
    (hline : (apos.endLine == cpos.line) = true := by rfl) (hs : starEach (e :: []) X.env = (false, eval e X.env) :: starEach [] X.env := by rfl) (hplain : (backTo cpos (starEach [] X.env)).any (·.1) = false := by rfl) :
    PE X (.Call (.Attribute o "append" apos) [e] [] cpos) (tBM K "list" rAppend to tr) := by
  subst hK; exact pe_bm PySem.F.plainAttrs_list PySem.F.slot_list_append PySem.F.type_list_append mt_append ho ha hbase hfew hline hs hplain
end
end RK
/-! RrKit2: slices, loops over enumerate, several targets, new instances, stores. -/
namespace RK
open PySem L2 Evl RR

/-! ### slices as they come -/
theorem cut_from {xs : List V} {k : Nat} : cutV xs (some (k : Int)) none = xs.drop k := by
  unfold cutV
  rw [HT.sIx_nat, HT.sIx_none]
  by_cases h : k ≤ xs.length
  · rw [show min k xs.length = k by omega]
    exact List.take_of_length_le (by simp)
  · rw [show min k xs.length = xs.length by omega]
    rw [List.drop_eq_nil_of_le (Nat.le_refl _), List.drop_eq_nil_of_le (by omega)]
    exact List.take_nil
theorem cut_to {xs : List V} {k : Nat} : cutV xs none (some (k : Int)) = xs.take k := by
  unfold cutV
  rw [HT.sIx_nat, HT.sIx_none]
  show List.take (min k xs.length - 0) (xs.drop 0) = _
  rw [List.drop_zero, Nat.sub_zero]
  by_cases h : k ≤ xs.length
  · rw [show min k xs.length = k by omega]
  · rw [show min k xs.length = xs.length by omega, List.take_length, List.take_of_length_le (by omega)]
theorem cut_fromI {xs : List V} {i : Int} (h : 0 ≤ i) : cutV xs (some i) none = xs.drop i.toNat := by
  rw [show i = ((i.toNat : Nat) : Int) by omega]; exact cut_from
theorem cut_toI {xs : List V} {i : Int} (h : 0 ≤ i) : cutV xs none (some i) = xs.take i.toNat := by
  rw [show i = ((i.toNat : Nat) : Int) by omega]; exact cut_to
theorem cut_but {xs : List V} : cutV xs none (some (-1)) = xs.dropLast := by
  unfold cutV
  rw [show HT.sIx xs.length xs.length (some (-1)) = xs.length - 1 by
    show (if (-1 : Int) < 0 then ((-1 : Int) + (xs.length : Int)).toNat else min (-1 : Int).toNat xs.length) = _
    rw [if_pos (by decide)]; omega, HT.sIx_none]
  show List.take (xs.length - 1 - 0) (xs.drop 0) = _
  rw [List.drop_zero, Nat.sub_zero, List.dropLast_eq_take]
theorem il_take (xs : List Int) (k : Nat) : (il xs).take k = il (xs.take k) := (List.map_take ..).symm
theorem il_drop (xs : List Int) (k : Nat) : (il xs).drop k = il (xs.drop k) := (List.map_drop ..).symm
theorem il_dropLast (xs : List Int) : (il xs).dropLast = il xs.dropLast := (List.map_dropLast ..).symm
theorem il_reverse (xs : List Int) : (il xs).reverse = il xs.reverse := List.map_reverse.symm
theorem il_append (xs ys : List Int) : il xs ++ il ys = il (xs ++ ys) := List.map_append.symm
theorem il_set (xs : List Int) (i : Nat) (v : Int) : (il xs).set i (.int v) = il (xs.set i v) := (List.map_set ..).symm
theorem il_len (xs : List Int) : (il xs).length = xs.length := List.length_map ..
theorem il_rep (n : Nat) (v : Int) : List.replicate n (V.int v) = il (List.replicate n v) := (List.map_replicate ..).symm
section
variable {K : PySem.W.Frag} {σ : L2.St} {H H' : Hp} {ta tb tc te tl : TE} {t u : TT} {x y z v : V} {xs ys : List V} {ns : List Int} {i j : Int} {a : Addr} {D : Ends} {tu tw tz : TS} {g' : TG}
theorem el_slFrom {t1 : TO} (h : EvR K te σ H (il ns)) (h1 : EvO t1 σ H (some i)) (hi : 0 ≤ i) : EvL (tSl (rSlL K) te t1 tNoPart) σ H (il (ns.drop i.toNat)) :=
  el_is (el_slR h h1 eo_none) (by rw [cut_fromI hi, il_drop])
theorem el_slTo {t1 : TO} (h : EvR K te σ H (il ns)) (h1 : EvO t1 σ H (some i)) (hi : 0 ≤ i) : EvL (tSl (rSlL K) te tNoPart t1) σ H (il (ns.take i.toNat)) :=
  el_is (el_slR h eo_none h1) (by rw [cut_toI hi, il_take])
theorem el_slBut {t1 : TO} (h : EvR K te σ H (il ns)) (h1 : EvO t1 σ H (some (-1))) : EvL (tSl (rSlL K) te tNoPart t1) σ H (il ns.dropLast) :=
  el_is (el_slR h eo_none h1) (by rw [cut_but, il_dropLast])
theorem el_revI (h : EvR K te σ H (il ns)) : EvL (tRevL K te) σ H (il ns.reverse) := el_is (el_revR h) (il_reverse ns)
theorem el_catI {ms : List Int} (ha : EvM ta σ H (il ms)) (hb : EvM tb σ H (il ns)) (hz : ms.length + ns.length ≤ 100000) : EvL (tOp rCat ta tb) σ H (il (ms ++ ns)) :=
  el_is (el_cat ha hb (by rw [il_len, il_len]; exact hz)) (il_append ms ns)
theorem ev_lenI (h : EvR K te σ H (il ns)) : Ev (tCB (rLenS K) (tCons te tNil)) σ H (.int (ns.length : Int)) := by
  have := ev_lenR h
  rw [il_len] at this
  exact this
theorem el_one {n : Int} (h : Ev te σ H (.int n)) : EvL (tLst (tCons te tNil)) σ H (il [n]) := el_lst (ea_cons h ea_nil) (by simp)
theorem el_repI {k n : Int} (h : Ev te σ H (.int n)) (hk : Ev tb σ H (.int k)) (hz : -100000 ≤ k ∧ k ≤ 100000) : EvL (tOp rRep (tLst (tCons te tNil)) tb) σ H (il (List.replicate k.toNat n)) :=
  el_is (el_rep (em_of_l (el_lst (ea_cons h ea_nil) (by simp))) hk hz) (il_rep _ _)
theorem el_nilI : EvL (tLst tNil) σ H (il []) := el_nil
theorem el_listI (h : EvR K te σ H (il ns)) : EvL (tCB (rListS K) (tCons te tNil)) σ H (il ns) := el_listR h

/-! ### for over enumerate -/
theorem s_forE {k l : Nat} (h : Ev tl σ H (.ref a)) (hx : SqL K H a (il ns)) (Pv : Nat → L2.St → Hp → Prop) (h0 : ∀ H1, Ex H H1 → Pv 0 σ H1) (hl : ∀ i σ' H', i ≤ ns.length → Pv i σ' H' → SqL K H' a (il ns))
    (hs : ∀ (i : Nat) σ' H' H'', i < ns.length → Pv i σ' H' → Ex H' H'' → tu { D with nx := Pv (i + 1), ct := Pv (i + 1), bk := D.nx } ((σ'.set k (some (.int i))).set l (some (.int (g ns i)))) H'') (hd : ∀ σ' H', Pv ns.length σ' H' → D.nx σ' H') :
    tFor (iEnum K (tCons tl tNil)) (gTup K 2 (gCons (gName k) (gCons (gName l) gNil))) tu D σ H :=
  h H (Ex.refl H) _ fun H1 e => ⟨a, _, rfl, ex_l e hx, for_it (walk_enum (xs := il ns)) Pv (h0 H1 e) (fun i σ' H' hi p => hl i σ' H' (by rw [il_len] at hi; exact hi) p) (fun i y σ' H2 H3 hi p yy => by
    rw [il_len] at hi
    obtain ⟨T, x1, x2, rfl, hT, rfl, e3, e4⟩ := yy
    have ex1 : x1 = .int (i : Int) := (Option.some.inj e3).symm
    have ex2 : x2 = .int (g ns i) := by
      have e4 : (ns.map V.int)[i]? = some x2 := e4
      rw [List.getElem?_map, g_in hi] at e4
      exact (Option.some.inj e4).symm
    subst ex1 ex2
    exact ⟨T, _, rfl, st_of upd_same, rfl, _, _, rfl, _, _, rfl, rfl, hs i σ' H2 _ hi p (Ex.new hT)⟩) (by rw [il_len]; exact hd)⟩
theorem q_forE {k l : Nat} (h : Ev tl σ H (.ref a)) (hx : SqL K H a (il ns)) (Pv : Nat → L2.St → Hp → Prop) (h0 : ∀ H1, Ex H H1 → Pv 0 σ H1) (hl : ∀ i σ' H', i ≤ ns.length → Pv i σ' H' → SqL K H' a (il ns))
    (hs : ∀ (i : Nat) σ' H' H'', i < ns.length → Pv i σ' H' → Ex H' H'' → tu { D with nx := Pv (i + 1), ct := Pv (i + 1), bk := tz D } ((σ'.set k (some (.int i))).set l (some (.int (g ns i)))) H'') (hd : ∀ σ' H', Pv ns.length σ' H' → tz D σ' H') :
    tSeq (tFor (iEnum K (tCons tl tNil)) (gTup K 2 (gCons (gName k) (gCons (gName l) gNil))) tu) tz D σ H := s_forE (D := { D with nx := tz D }) h hx Pv h0 hl hs hd

/-! ### several targets -/
theorem q_parUU {k l : Nat} (h1 : EvU ta σ H xs) (h2 : EvU tb σ H ys) (q : ∀ p p' H1, Ex H H1 → H1 p = some (.tup xs) → H1 p' = some (.tup ys) → tz D ((σ.set k (some (.ref p))).set l (some (.ref p'))) H1) :
    tSeq (tPar k l (tCons ta (tCons tb tNil))) tz D σ H :=
  h1 H (Ex.refl H) _ fun p H1 hn e1 hp => h2 H1 e1 _ fun p' H2 hn2 e2 hp2 => ⟨_, _, rfl, q p p' H2 (e1.trans e2) (e2 _ _ hp) hp2⟩
theorem s_parVU {k l : Nat} (h1 : Ev ta σ H x) (h2 : EvU tb σ H ys) (q : ∀ p' H1, Ex H H1 → H1 p' = some (.tup ys) → D.nx ((σ.set k (some x)).set l (some (.ref p'))) H1) :
    tPar k l (tCons ta (tCons tb tNil)) D σ H :=
  h1 H (Ex.refl H) _ fun H1 e1 => h2 H1 e1 _ fun p' H2 hn2 e2 hp2 => ⟨_, _, rfl, q p' H2 (e1.trans e2) hp2⟩
theorem q_parVV {k l : Nat} (h1 : Ev ta σ H x) (h2 : Ev tb σ H y) (q : ∀ H1, Ex H H1 → tz D ((σ.set k (some x)).set l (some y)) H1) :
    tSeq (tPar k l (tCons ta (tCons tb tNil))) tz D σ H :=
  h1 H (Ex.refl H) _ fun H1 e1 => h2 H1 e1 _ fun H2 e2 => ⟨_, _, rfl, q H2 (e1.trans e2)⟩
theorem q_parVM {k l : Nat} (h1 : Ev ta σ H x) (h2 : EvL tb σ H ys) (q : ∀ p' H1, H p' = none → Ex H H1 → H1 p' = some (.lst ys) → tz D ((σ.set k (some x)).set l (some (.ref p'))) H1) :
    tSeq (tPar k l (tCons ta (tCons tb tNil))) tz D σ H :=
  h1 H (Ex.refl H) _ fun H1 e1 => h2 H1 e1 _ fun p' H2 hn2 e2 hp2 => ⟨_, _, rfl, q p' H2 (fresh_back e1 hn2) (e1.trans e2) hp2⟩
theorem q_par3L {k l m : Nat} (h1 : EvL ta σ H xs) (h2 : Ev tb σ H y) (h3 : Ev tc σ H z) (q : ∀ p H1, H p = none → Ex H H1 → H1 p = some (.lst xs) → tz D (((σ.set k (some (.ref p))).set l (some y)).set m (some z)) H1) :
    tSeq (tPar3 k l m (tCons ta (tCons tb (tCons tc tNil)))) tz D σ H :=
  h1 H (Ex.refl H) _ fun p H1 hn e1 hp => h2 H1 e1 _ fun H2 e2 => h3 H2 (e1.trans e2) _ fun H3 e3 => ⟨_, _, _, rfl, q p H3 hn ((e1.trans e2).trans e3) (e3 _ _ (e2 _ _ hp))⟩
theorem s_par3V {k l m : Nat} (h1 : Ev ta σ H x) (h2 : Ev tb σ H y) (h3 : Ev tc σ H z) (q : ∀ H1, Ex H H1 → D.nx (((σ.set k (some x)).set l (some y)).set m (some z)) H1) :
    tPar3 k l m (tCons ta (tCons tb (tCons tc tNil))) D σ H :=
  h1 H (Ex.refl H) _ fun H1 e1 => h2 H1 e1 _ fun H2 e2 => h3 H2 (e1.trans e2) _ fun H3 e3 => ⟨_, _, _, rfl, q H3 ((e1.trans e2).trans e3)⟩
/-- xs[i] = e, i a whole number -/
theorem s_setI {l : Addr} {n : Int} (hl : H l = some (.lst (il ns))) (h : Ev te σ H (.int n)) (ho : Ev ta σ H (.ref l)) (hi : Ev tb σ H (.int i)) (hj : 0 ≤ i ∧ i < ns.length) (k : ∀ H1, Ex H H1 → D.nx σ (upd H1 l (.lst (il (ns.set i.toNat n))))) :
    tAsg te (gSub ta tb rSetL) D σ H := by
  have e : i = ((i.toNat : Nat) : Int) := by omega
  rw [e] at hi
  exact s_setL hl h ho hi (by rw [il_len]; omega) fun H1 e1 => by
    rw [il_set]
    exact k H1 e1
/-- an if, both ways shown at the very heap -/
theorem q_when' {b : Bool} (h : EvT t σ H b) (h1 : b = true → ∀ H1, Ex H H1 → tu { D with nx := tz D } σ H1) (h2 : b = false → ∀ H1, Ex H H1 → tz D σ H1) : tSeq (tIfS t tu tNext) tz D σ H := q_when h h1 h2
theorem q_skip {b : Bool} (h : EvT t σ H b) (hb : b = false) (h2 : ∀ H1, Ex H H1 → tz D σ H1) : tSeq (tIfS t tu tNext) tz D σ H := q_when h (fun z => by rw [hb] at z; cases z) (fun _ => h2)
theorem s_skip {b : Bool} (h : EvT t σ H b) (hb : b = false) (h2 : ∀ H1, Ex H H1 → D.nx σ H1) : tIfS t tu tNext D σ H := s_when h (fun z => by rw [hb] at z; cases z) (fun _ => h2)
/-- four names from a call that gives four things in a tuple: by the call's own promise -/
theorem tRet_ref {n : Nat} {p : Addr} (h : σ[n]? = some (some (.ref p))) (k : D.rt (.ref p) H) : tRet (tVar n) D σ H := ⟨_, h, k⟩
theorem ex_m {H H1 : Hp} {p : Addr} {o : HO} (e : Ex H H1) (h : H p = some o) : H1 p = some o := e p o h
theorem ne_new {H H1 : Hp} {p q : Addr} {o : HO} (h : H p = some o) (hq : H q = none) : p ≠ q := ne_of_none h hq
end

/-! ### instances -/
section
variable {K : PySem.W.Frag} {σ : L2.St} {H H' : Hp} {ta tb tc te tl tv : TE} {x y z v : V} {xs ys : List V} {ns : List Int} {a C dx : Addr} {fs : List (Str × V)} {f : Str} {D : Ends} {tu tw tz : TS}
theorem sq_upd {o : HO} (h : SqL K H a xs) (hx : H dx = some o) (ho : ∀ l, o ≠ .lst l) (hf : ∀ q l, o ≠ .frz q l) {u : HO} : SqL K (upd H dx u) a xs := by
  rcases h with (h | ⟨q, h⟩) | h
  · have : a ≠ dx := by
      intro z
      rw [z, hx] at h
      exact ho _ (Option.some.inj h)
    exact .inl (.inl (by rw [upd_ne this]; exact h))
  · have : a ≠ dx := by
      intro z
      rw [z, hx] at h
      exact hf _ _ (Option.some.inj h)
    exact .inl (.inr ⟨q, by rw [upd_ne this]; exact h⟩)
  · exact .inr h
theorem q_sfld (hv : Ev tv σ H v) (ho : Ev ta σ H (.ref a)) (hi : H a = some (.ins C dx fs)) (cl : Cls K C) (na : NoAttr K C f) (hl : fs.length < 1000) (k : ∀ H1, Ex H H1 → tz D σ (upd H1 a (.ins C dx (putF f v fs)))) : tSeq (sFld K ta tv f) tz D σ H :=
  hv H (Ex.refl H) _ fun H1 e1 => ho H1 e1 _ fun H2 e2 => ⟨a, C, dx, fs, rfl, e2 _ _ (e1 _ _ hi), cl, na, hl, k H2 (e1.trans e2)⟩
theorem s_sfld (hv : Ev tv σ H v) (ho : Ev ta σ H (.ref a)) (hi : H a = some (.ins C dx fs)) (cl : Cls K C) (na : NoAttr K C f) (hl : fs.length < 1000) (k : ∀ H1, Ex H H1 → D.nx σ (upd H1 a (.ins C dx (putF f v fs)))) : sFld K ta tv f D σ H :=
  hv H (Ex.refl H) _ fun H1 e1 => ho H1 e1 _ fun H2 e2 => ⟨a, C, dx, fs, rfl, e2 _ _ (e1 _ _ hi), cl, na, hl, k H2 (e1.trans e2)⟩
theorem q_sfldL (hv : EvL tv σ H xs) (ho : Ev ta σ H (.ref a)) (hi : H a = some (.ins C dx fs)) (cl : Cls K C) (na : NoAttr K C f) (hl : fs.length < 1000) (k : ∀ p H1, H p = none → Ex H H1 → H1 p = some (.lst xs) → tz D σ (upd H1 a (.ins C dx (putF f (.ref p) fs)))) : tSeq (sFld K ta tv f) tz D σ H :=
  hv H (Ex.refl H) _ fun p H1 hn e1 hp => ho H1 e1 _ fun H2 e2 => ⟨a, C, dx, fs, rfl, e2 _ _ (e1 _ _ hi), cl, na, hl, k p H2 hn (e1.trans e2) (e2 _ _ hp)⟩
theorem er_fld (h : Ev (tFld K ta f) σ H (.ref a)) (hx : SqL K H a xs) : EvR K (tFld K ta f) σ H xs := er_v h hx
theorem em_fld (h : Ev (tFld K ta f) σ H (.ref a)) (hx : H a = some (.lst xs)) : EvM (tFld K ta f) σ H xs := em_v h hx
/-- a method's call: its promise is asked at the instance -/
theorem ev_methV {m : Str} {sp : Sp} {E : XK} {ta' : TA} {gs : List Ag} (ho : Ev ta σ H (.ref a)) (hi : H a = some (.ins C dx fs)) (hm : fs.lookup m = none) (h : EvAs K ta' σ H gs)
    (hs : ∀ vs H1, Ex H H1 → AgsOk K H1 gs vs → ∀ Q : VK, (∀ H2, Ex H1 H2 → Q v H2) → sp (.ref a :: (vs ++ [])) H1 Q E) : Ev (tMeth C m sp [] E ta ta') σ H v := fun H1 e Q q =>
  ho H1 e _ fun H2 e2 => ⟨a, dx, fs, rfl, e2 _ _ (e _ _ hi), hm, h H2 (e.trans e2) _ fun vs H3 e3 ok => hs vs H3 ((e.trans e2).trans e3) ok Q fun H4 e4 => q H4 ((e2.trans e3).trans e4)⟩
/-- three attributes: a rule, a shorter one, a place -/
def fl3 (r s : Addr) (pl : Int) : List (Str × V) := putF "place" (.int pl) (putF "shorter" (.ref s) (putF "rule" (.ref r) []))
theorem fl3_rule (r s : Addr) (pl : Int) : (fl3 r s pl).lookup ("rule" : Str) = some (V.ref r) := by
  unfold fl3
  rw [lookup_putF, if_neg (by decide +kernel), lookup_putF, if_neg (by decide +kernel), lookup_putF, if_pos rfl]
theorem fl3_shorter (r s : Addr) (pl : Int) : (fl3 r s pl).lookup ("shorter" : Str) = some (V.ref s) := by
  unfold fl3
  rw [lookup_putF, if_neg (by decide +kernel), lookup_putF, if_pos rfl]
theorem fl3_place (r s : Addr) (pl : Int) : (fl3 r s pl).lookup ("place" : Str) = some (V.int pl) := by
  unfold fl3
  rw [lookup_putF, if_pos rfl]
theorem fl3_no (r s : Addr) (pl : Int) {m : Str} (h1 : ¬ m = "place") (h2 : ¬ m = "shorter") (h3 : ¬ m = "rule") : (fl3 r s pl).lookup m = none := by
  unfold fl3
  rw [lookup_putF, if_neg h1, lookup_putF, if_neg h2, lookup_putF, if_neg h3]
  rfl
theorem fl3_shows (r s : Addr) (pl : Int) : (fl3 r s pl).lookup ("shows" : Str) = none := fl3_no r s pl (by decide +kernel) (by decide +kernel) (by decide +kernel)
theorem len_putF (f : Str) (v : V) : ∀ fs : List (Str × V), (putF f v fs).length ≤ fs.length + 1
  | [] => by simp [putF]
  | (g, x) :: r => by
    unfold putF
    split
    · simp
    · simp only [List.length_cons]
      have := len_putF f v r
      omega
/-- four names from a tuple that a call gives: by an own promise -/
def gFour (K : PySem.W.Frag) (i j k l : Nat) : TG := gTup K 4 (gCons (gName i) (gCons (gName j) (gCons (gName k) (gCons (gName l) gNil))))
end
end RK
/-! RrKit3: loops over written tuples and lists, written tuples by a reckoned place, pop, if as an expression. -/
namespace RK
open PySem L2 Evl RR
section
variable {X : Cx} {e : Expr} {cpos apos : Pos}
theorem x_pop {o : Expr} {to : TE} (K : PySem.W.Frag) (hK : X.K = K) (ho : PE X o to)
    (hbase : attributeBase o "pop" X.env (eval o X.env) = eval o X.env := by rfl)
    (hline : (apos.endLine == cpos.line) = true := by rfl) :
    PE X (.Call (.Attribute o "pop" apos) [] [] cpos) (tBM0 K "list" rPop to) := by
  subst hK; exact pe_bm0 PySem.F.plainAttrs_list PySem.F.slot_list_pop PySem.F.type_list_pop mt_pop ho hbase hline
end
section
variable {K : PySem.W.Frag} {σ : L2.St} {H H' : Hp} {ta' : TA} {ta tb tc te tl : TE} {t u : TT} {x y z v : V} {xs ys : List V} {ns : List Int} {i j : Int} {a : Addr} {D : Ends} {tu tw tz : TS}
theorem ea_is {vs ws : List V} (h : EvA ta' σ H vs) (e : vs = ws) : EvA ta' σ H ws := e ▸ h
theorem eu_is (h : EvU te σ H xs) (e : xs = ys) : EvU te σ H ys := e ▸ h
theorem ev_ixTi {n : Nat} (h : σ[n]? = some (some (.ref a))) (ht : SqT K H a (il ns)) (hi : Ev tb σ H (.int i)) (hv : 0 ≤ i ∧ i < ns.length) : Ev (tOp (rIxT K) (tVar n) tb) σ H (.int (g ns i.toNat)) := ev_ixTv (ev_var h) ht hi (g_at hv)
theorem ev_ixUi (h : EvU ta σ H (il ns)) (hi : Ev tb σ H (.int i)) (hv : 0 ≤ i ∧ i < ns.length) : Ev (tOp (rIxT K) ta tb) σ H (.int (g ns i.toNat)) := ev_ixU h hi (g_at hv)
theorem ev_ifI {b : Bool} (h : EvT t σ H b) (h1 : b = true → Ev ta σ H (.int i)) (h2 : b = false → Ev tb σ H (.int j)) : Ev (tIf t ta tb) σ H (.int (if b = true then i else j)) :=
  ev_if h (fun hb => by rw [if_pos hb]; exact h1 hb) (fun hb => by rw [if_neg (by rw [hb]; decide)]; exact h2 hb)
theorem q_pop {l : Addr} (hl : H l = some (.lst (xs ++ [v]))) (ha : Ev ta σ H (.ref l)) (k : ∀ H1, Ex H H1 → tz D σ (upd H1 l (.lst xs))) : tSeq (tDrop (tBM0 K "list" rPop ta)) tz D σ H := ha H (Ex.refl H) _ fun H1 e1 =>
  ⟨.inl ⟨rfl, _, sq_of (e1 l _ hl)⟩, l, xs ++ [v], v, rfl, rfl, e1 l _ hl, by simp, by rw [List.dropLast_concat]; exact k H1 e1⟩
theorem q_appI {l : Addr} {n : Int} (hl : H l = some (.lst (il ns))) (ha : Ev ta σ H (.ref l)) (h : Ev te σ H (.int n)) (hz : ns.length < 100000) (k : ∀ H1, Ex H H1 → tz D σ (upd H1 l (.lst (il (ns ++ [n]))))) :
    tSeq (tDrop (tBM K "list" rAppend ta (tCons te tNil))) tz D σ H := q_app hl ha h (by rw [il_len]; exact hz) fun H1 e1 => by
  have := k H1 e1
  rw [← il_append] at this
  exact this
theorem s_appI {l : Addr} {n : Int} (hl : H l = some (.lst (il ns))) (ha : Ev ta σ H (.ref l)) (h : Ev te σ H (.int n)) (hz : ns.length < 100000) (k : ∀ H1, Ex H H1 → D.nx σ (upd H1 l (.lst (il (ns ++ [n]))))) :
    tDrop (tBM K "list" rAppend ta (tCons te tNil)) D σ H := s_app hl ha h (by rw [il_len]; exact hz) fun H1 e1 => by
  have := k H1 e1
  rw [← il_append] at this
  exact this
theorem q_popI {l : Addr} {n : Int} (hl : H l = some (.lst (il (ns ++ [n])))) (ha : Ev ta σ H (.ref l)) (k : ∀ H1, Ex H H1 → tz D σ (upd H1 l (.lst (il ns)))) : tSeq (tDrop (tBM0 K "list" rPop ta)) tz D σ H :=
  q_pop (xs := il ns) (v := .int n) (by rw [hl, ← il_append]; rfl) ha k
/-- for over what is written in brackets: each item as it is wanted; the items stand as they were made -/
theorem s_forAs {gs : List Ag} {k : Nat} (h : EvAs K ta' σ H gs) (hz : gs.length ≤ 100000) (Pv : Hp → Nat → L2.St → Hp → Prop) (h0 : ∀ H1, Ex H H1 → Pv H1 0 σ H1) (hE : ∀ H1 i σ' H', Pv H1 i σ' H' → Ex H1 H')
    (hs : ∀ H1 i gg y σ' H', Ex H H1 → gs[i]? = some gg → AgOk K H1 gg y → Pv H1 i σ' H' → tu { D with nx := Pv H1 (i + 1), ct := Pv H1 (i + 1), bk := D.nx } (σ'.set k (some y)) H') (hd : ∀ H1 σ' H', Ex H H1 → Pv H1 gs.length σ' H' → D.nx σ' H') :
    tFor (iTup K (tTup ta')) (gName k) tu D σ H := h H (Ex.refl H) _ fun vs H1 e1 ok => by
  have hl := ok.len
  refine ⟨sz_of (by omega), fun p hp => ⟨p, rfl, ⟨vs, st_of upd_same⟩, ?_⟩⟩
  have e2 : Ex H1 (upd H1 p (.tup vs)) := Ex.new hp
  refine for_tup (xs := vs) (Pv (upd H1 p (.tup vs))) (h0 _ (e1.trans e2)) (fun i σ' H' _ q => st_of (hE _ _ _ _ q p _ upd_same)) (fun i y σ' H' hy q => ?_) (by rw [hl]; exact fun σ' H' q => hd _ σ' H' (e1.trans e2) q)
  have ok' := ok.up e2
  have : ∀ (gs : List Ag) (vs : List V) (i : Nat), AgsOk K (upd H1 p (.tup vs)) gs vs → vs[i]? = some y → ∃ gg, gs[i]? = some gg := fun gs vs i o hy => by
    have hl := o.len
    have := (List.getElem?_eq_some_iff.mp hy).1
    exact ⟨gs[i]'(by omega), List.getElem?_eq_getElem _⟩
  have key : ∀ (H2 : Hp) (gs : List Ag) (vs : List V) (i : Nat), AgsOk K H2 gs vs → vs[i]? = some y → ∃ gg, gs[i]? = some gg ∧ AgOk K H2 gg y := fun H2 gs => by
    induction gs with
    | nil =>
      intro vs i o hy
      rw [show vs = [] from o] at hy
      simp at hy
    | cons gg gs ih =>
      intro vs i o hy
      obtain ⟨z, zs, rfl, o1, o2⟩ := o
      cases i with
      | zero =>
        have : z = y := Option.some.inj hy
        subst this
        exact ⟨gg, rfl, o1⟩
      | succ i => exact ih zs i o2 hy
  obtain ⟨gg, e3, e4⟩ := key _ gs vs i ok' hy
  exact hs _ i gg y σ' H' (e1.trans e2) e3 e4 q
theorem q_forAs {gs : List Ag} {k : Nat} (h : EvAs K ta' σ H gs) (hz : gs.length ≤ 100000) (Pv : Hp → Nat → L2.St → Hp → Prop) (h0 : ∀ H1, Ex H H1 → Pv H1 0 σ H1) (hE : ∀ H1 i σ' H', Pv H1 i σ' H' → Ex H1 H')
    (hs : ∀ H1 i gg y σ' H', Ex H H1 → gs[i]? = some gg → AgOk K H1 gg y → Pv H1 i σ' H' → tu { D with nx := Pv H1 (i + 1), ct := Pv H1 (i + 1), bk := tz D } (σ'.set k (some y)) H') (hd : ∀ H1 σ' H', Ex H H1 → Pv H1 gs.length σ' H' → tz D σ' H') :
    tSeq (tFor (iTup K (tTup ta')) (gName k) tu) tz D σ H := s_forAs (D := { D with nx := tz D }) h hz Pv h0 hE hs hd
end
/-- an own class by another one -/
theorem kit_self {K : PySem.W.Frag} {C : Addr} : PySem.W.kitOne K (.ref C) (.ref C) = some true := if_pos (beq_self_eq_true _)
theorem kit_own {K : PySem.W.Frag} {C D : Addr} {b : Bool} (h1 : PySem.W.isClsIn K D = true) (h2 : PySem.W.typeIn K (.ref D) = some (.type "type")) (h3 : PySem.W.subIn K (.ref C) (.ref D) = some b) (h4 : b = true ∨ C ≠ D) : PySem.W.kitOne K (.ref C) (.ref D) = some b := by
  unfold PySem.W.kitOne
  by_cases e : (Value.ref C == Value.ref D) = true
  · rw [if_pos e]
    have : C = D := by
      have := eq_of_beq e
      injection this
    rcases h4 with h4 | h4
    · rw [h4]
    · exact absurd this h4
  · rw [if_neg e]
    unfold PySem.W.kitCls
    have h1' : (PySem.W.clsIn K D).isSome = true := h1
    have z : ((PySem.W.clsIn K D).isSome && PySem.W.typeIn K (.ref D) == some (.type "type")) = true := by
      rw [h1', h2]
      exact beq_self_eq_true _
    simp only [z, if_true]
    exact h3
end RK
/-! RrKit4: one of two terms for an expression; four attributes; stores from behind. -/
namespace RK
open PySem L2 Evl RR
def tAlt (t u : TE) : TE := fun σ H Q => t σ H Q ∨ u σ H Q
section
variable {X : Cx} {e : Expr} {t u : TE}
theorem pe_alt (h1 : PE X e t) (h2 : PE X e u) : PE X e (tAlt t u) := ⟨fun pins s σ H Q I h => h.elim (h1.run pins s σ H Q I) (h2.run pins s σ H Q I)⟩
end
section
variable {K : PySem.W.Frag} {σ : L2.St} {H H' : Hp} {ta' : TA} {ta tb tc te tl : TE} {t u : TT} {x y z v : V} {xs ys : List V} {ns : List Int} {i j : Int} {a : Addr} {D : Ends} {tu tw tz : TS}
theorem ev_alt1 (h : Ev ta σ H v) : Ev (tAlt ta tb) σ H v := fun H1 e Q q => .inl (h H1 e Q q)
theorem ev_alt2 (h : Ev tb σ H v) : Ev (tAlt ta tb) σ H v := fun H1 e Q q => .inr (h H1 e Q q)
theorem er_ifT (h : EvT t σ H true) (h1 : EvR K ta σ H xs) : EvR K (tIf t ta tb) σ H xs := fun H1 e Q q => h H1 e _ fun H2 e2 => by
  show ta σ H2 Q
  exact h1 H2 (e.trans e2) Q fun p H3 e3 hp => q p H3 (e2.trans e3) hp
theorem er_ifF (h : EvT t σ H false) (h1 : EvR K tb σ H xs) : EvR K (tIf t ta tb) σ H xs := fun H1 e Q q => h H1 e _ fun H2 e2 => by
  show tb σ H2 Q
  exact h1 H2 (e.trans e2) Q fun p H3 e3 hp => q p H3 (e2.trans e3) hp
theorem ev_ifT (h : EvT t σ H true) (h1 : Ev ta σ H v) : Ev (tIf t ta tb) σ H v := ev_if h (fun _ => h1) (fun z => by cases z)
theorem ev_ifF (h : EvT t σ H false) (h1 : Ev tb σ H v) : Ev (tIf t ta tb) σ H v := ev_if h (fun z => by cases z) (fun _ => h1)
/-- the last number -/
theorem ev_ixLast (h : EvR K ta σ H (il ns)) (hi : Ev tb σ H (.int (-1))) (hv : 0 < ns.length) : Ev (tOp (rIxL K) ta tb) σ H (.int (g ns (ns.length - 1))) := ev_ixR h hi (by
  unfold atI ixN
  rw [if_neg (by decide), if_pos (by rw [il_len]; omega)]
  show (ns.map V.int)[((-1 : Int) + ((il ns).length : Int)).toNat]? = _
  rw [il_len, show ((-1 : Int) + (ns.length : Int)).toNat = ns.length - 1 by omega, List.getElem?_map, g_in (by omega)]
  rfl)
/-- xs[-1] = e -/
theorem s_setLast {l : Addr} {n : Int} (hl : H l = some (.lst (il ns))) (h : Ev te σ H (.int n)) (ho : Ev ta σ H (.ref l)) (hi : Ev tb σ H (.int (-1))) (hj : 0 < ns.length) (k : ∀ H1, Ex H H1 → D.nx σ (upd H1 l (.lst (il (ns.set (ns.length - 1) n))))) :
    tAsg te (gSub ta tb rSetL) D σ H := h H (Ex.refl H) _ fun H1 e1 => ho H1 e1 _ fun H2 e2 => hi H2 (e1.trans e2) _ fun H3 e3 =>
  ⟨l, _, (-1 : Int), ns.length - 1, rfl, rfl, ((e1.trans e2).trans e3) l _ hl, by
    unfold ixN
    rw [if_neg (by decide), if_pos (by rw [il_len]; omega), il_len]
    congr 1
    omega, by
    rw [il_set]
    exact k H3 ((e1.trans e2).trans e3)⟩
theorem q_setI {l : Addr} {n : Int} (hl : H l = some (.lst (il ns))) (h : Ev te σ H (.int n)) (ho : Ev ta σ H (.ref l)) (hi : Ev tb σ H (.int i)) (hj : 0 ≤ i ∧ i < ns.length) (k : ∀ H1, Ex H H1 → tz D σ (upd H1 l (.lst (il (ns.set i.toNat n))))) :
    tSeq (tAsg te (gSub ta tb rSetL)) tz D σ H := s_setI (D := { D with nx := tz D }) hl h ho hi hj k
/-- four attributes -/
def fl4 (r o s : Addr) (pl : Int) : List (Str × V) := putF "place" (.int pl) (putF "shorter" (.ref s) (putF "other" (.ref o) (putF "one" (.ref r) [])))
theorem fl4_one (r o s : Addr) (pl : Int) : (fl4 r o s pl).lookup ("one" : Str) = some (V.ref r) := by
  unfold fl4
  rw [lookup_putF, if_neg (by decide +kernel), lookup_putF, if_neg (by decide +kernel), lookup_putF, if_neg (by decide +kernel), lookup_putF, if_pos rfl]
theorem fl4_other (r o s : Addr) (pl : Int) : (fl4 r o s pl).lookup ("other" : Str) = some (V.ref o) := by
  unfold fl4
  rw [lookup_putF, if_neg (by decide +kernel), lookup_putF, if_neg (by decide +kernel), lookup_putF, if_pos rfl]
theorem fl4_shorter (r o s : Addr) (pl : Int) : (fl4 r o s pl).lookup ("shorter" : Str) = some (V.ref s) := by
  unfold fl4
  rw [lookup_putF, if_neg (by decide +kernel), lookup_putF, if_pos rfl]
theorem fl4_place (r o s : Addr) (pl : Int) : (fl4 r o s pl).lookup ("place" : Str) = some (V.int pl) := by
  unfold fl4
  rw [lookup_putF, if_pos rfl]
theorem fl4_shows (r o s : Addr) (pl : Int) : (fl4 r o s pl).lookup ("shows" : Str) = none := by
  unfold fl4
  rw [lookup_putF, if_neg (by decide +kernel), lookup_putF, if_neg (by decide +kernel), lookup_putF, if_neg (by decide +kernel), lookup_putF, if_neg (by decide +kernel)]
  rfl
theorem len_two (f g : Str) (v w : V) : (putF f v (putF g w [])).length ≤ 2 := len_putF f v (putF g w [])
theorem len_three (f g h : Str) (v w x : V) : (putF f v (putF g w (putF h x []))).length ≤ 3 := Nat.le_trans (len_putF f v _) (Nat.succ_le_succ (len_two g h w x))
end
/-! ### all but one object is kept -/
def Ko (x : Addr) (H G : Hp) : Prop := ∀ b o, H b = some o → b ≠ x → G b = some o
section
variable {K : PySem.W.Frag} {H G H' : Hp} {x p a C dx : Addr} {o : HO} {xs : List V} {fs : List (Str × V)}
theorem Ko.refl : Ko x H H := fun _ _ h _ => h
theorem Ko.step (k : Ko x H G) (e : Ex G H') : Ko x H (upd H' x o) := fun b u h hb => by rw [upd_ne hb]; exact e b u (k b u h hb)
theorem Ko.ex (k : Ko x H G) (e : Ex G H') : Ko x H H' := fun b u h hb => e b u (k b u h hb)
theorem Ko.free (k : Ko x H G) (h : G p = none) (hx : p ≠ x) : H p = none := by
  cases q : H p with
  | none => rfl
  | some u =>
    rw [k p u q hx] at h
    cases h
theorem sq_ko (h : SqL K H a xs) (hx : H x = some (.ins C dx fs)) (k : Ko x H G) : SqL K G a xs := by
  rcases h with (h | ⟨q, h⟩) | h
  · exact .inl (.inl (k _ _ h (fun z => by rw [z, hx] at h; cases h)))
  · exact .inl (.inr ⟨q, k _ _ h (fun z => by rw [z, hx] at h; cases h)⟩)
  · exact .inr h
end
end RK
/-! RrKit5: what evaluates to something of which a word holds; lists of new lists; either way of an if as a value. -/
namespace RK
open PySem L2 Evl RR
/-- a word of a value that stays when objects are added -/
abbrev Wd := V → Hp → Prop
def Mono (φ : Wd) : Prop := ∀ v H H', Ex H H' → φ v H → φ v H'
def EvP (te : TE) (σ : L2.St) (H : Hp) (φ : Wd) : Prop := ∀ H1, Ex H H1 → ∀ Q : VK, (∀ v H2, Ex H1 H2 → φ v H2 → Q v H2) → te σ H1 Q
def AllW (H : Hp) : List Wd → List V → Prop
  | [], vs => vs = []
  | φ :: φs, vs => ∃ y ys, vs = y :: ys ∧ φ y H ∧ AllW H φs ys
def EvPs (ta : TA) (σ : L2.St) (H : Hp) (φs : List Wd) : Prop := ∀ H1, Ex H H1 → ∀ Q : List V → Hp → Prop, (∀ vs H2, Ex H1 H2 → AllW H2 φs vs → Q vs H2) → ta σ H1 Q
section
variable {K : PySem.W.Frag} {σ : L2.St} {H H' : Hp} {ta' tb' : TA} {ta tb tc te tl : TE} {t u : TT} {x y z v : V} {xs ys zs : List V} {ns : List Int} {i j : Int} {a : Addr} {D : Ends} {tu tw tz : TS} {φ : Wd} {φs : List Wd}
def wIs (v : V) : Wd := fun y _ => y = v
def wL (K : PySem.W.Frag) (xs : List V) : Wd := fun y H => ∃ p, y = .ref p ∧ SqL K H p xs
def wM (xs : List V) : Wd := fun y H => ∃ p, y = .ref p ∧ H p = some (.lst xs)
def wT (φs : List Wd) : Wd := fun y H => ∃ T vs, y = .ref T ∧ H T = some (.tup vs) ∧ AllW H φs vs
theorem mono_is : Mono (wIs v) := fun _ _ _ _ h => h
theorem mono_l : Mono (wL K xs) := fun _ _ _ e ⟨p, h1, h2⟩ => ⟨p, h1, ex_l e h2⟩
theorem mono_m : Mono (wM xs) := fun _ _ _ e ⟨p, h1, h2⟩ => ⟨p, h1, e _ _ h2⟩
theorem allW_up : ∀ {φs : List Wd} {vs : List V}, (∀ φ ∈ φs, Mono φ) → AllW H φs vs → Ex H H' → AllW H' φs vs
  | [], _, _, h, _ => h
  | φ :: φs, _, m, ⟨y, ys, h1, h2, h3⟩, e => ⟨y, ys, h1, m φ List.mem_cons_self y H H' e h2, allW_up (fun ψ hψ => m ψ (List.mem_cons_of_mem _ hψ)) h3 e⟩
theorem mono_t (m : ∀ φ ∈ φs, Mono φ) : Mono (wT φs) := fun _ _ _ e ⟨T, vs, h1, h2, h3⟩ => ⟨T, vs, h1, e _ _ h2, allW_up m h3 e⟩
theorem allW_len : ∀ {φs : List Wd} {vs : List V}, AllW H φs vs → vs.length = φs.length
  | [], _, h => by rw [show _ = [] from h]; rfl
  | _ :: _, _, ⟨y, ys, h1, h2, h3⟩ => by rw [h1, List.length_cons, List.length_cons, allW_len h3]
theorem allW_at : ∀ {φs : List Wd} {vs : List V} {k : Nat} {y : V}, AllW H φs vs → vs[k]? = some y → ∃ φ, φs[k]? = some φ ∧ φ y H
  | [], _, k, y, h, e => by rw [show _ = [] from h] at e; simp at e
  | φ :: φs, _, 0, y, ⟨z, zs, h1, h2, h3⟩, e => by
    rw [h1] at e
    have : z = y := Option.some.inj e
    subst this
    exact ⟨φ, rfl, h2⟩
  | φ :: φs, _, k + 1, y, ⟨z, zs, h1, h2, h3⟩, e => by
    rw [h1] at e
    exact allW_at (k := k) h3 e
theorem ep_v (h : Ev te σ H v) : EvP te σ H (wIs v) := fun H1 e Q q => h H1 e Q fun H2 e2 => q v H2 e2 rfl
theorem ep_l (h : EvR K te σ H xs) : EvP te σ H (wL K xs) := fun H1 e Q q => h H1 e Q fun p H2 e2 hp => q _ H2 e2 ⟨p, rfl, hp⟩
theorem ep_m (h : EvM te σ H xs) : EvP te σ H (wM xs) := fun H1 e Q q => h H1 e Q fun p H2 e2 hp => q _ H2 e2 ⟨p, rfl, hp⟩
theorem eps_nil : EvPs tNil σ H [] := fun H1 _ _ q => q [] H1 (Ex.refl H1) rfl
theorem eps_cons {tr : TA} (m : Mono φ) (h : EvP te σ H φ) (hr : EvPs tr σ H φs) : EvPs (tCons te tr) σ H (φ :: φs) := fun H1 e Q q =>
  h H1 e _ fun y H2 e2 hy => hr H2 (e.trans e2) _ fun vs H3 e3 hv => q (y :: vs) H3 (e2.trans e3) ⟨y, vs, rfl, m _ _ _ e3 hy, hv⟩
theorem ep_t (m : ∀ φ ∈ φs, Mono φ) (h : EvPs ta' σ H φs) (hz : φs.length ≤ 100000) : EvP (tTup ta') σ H (wT φs) := fun H1 e Q q =>
  h H1 e _ fun vs H2 e2 hv => ⟨sz_of (by rw [allW_len hv]; exact hz), fun p hp => q (.ref p) _ (e2.trans (Ex.new hp)) ⟨p, vs, rfl, upd_same, allW_up m hv (Ex.new hp)⟩⟩
/-- a new list of such things -/
theorem q_asgLW {k : Nat} (m : ∀ φ ∈ φs, Mono φ) (h : EvPs ta' σ H φs) (hz : φs.length ≤ 100000) (q : ∀ l vs H1, H l = none → Ex H H1 → H1 l = some (.lst vs) → AllW H1 φs vs → tz D (σ.set k (some (.ref l))) H1) :
    tSeq (tAsg (tLst ta') (gName k)) tz D σ H := h H (Ex.refl H) _ fun vs H1 e1 hv => ⟨sz_of (by rw [allW_len hv]; exact hz), fun p hp => q p vs _ (fresh_back e1 hp) (e1.trans (Ex.new hp)) upd_same (allW_up m hv (Ex.new hp))⟩
/-- append of such a thing -/
theorem q_appW {l : Addr} (hl : H l = some (.lst xs)) (ha : Ev ta σ H (.ref l)) (h : EvP te σ H φ) (hz : xs.length < 100000) (k : ∀ y H1, Ex H H1 → φ y H1 → tz D σ (upd H1 l (.lst (xs ++ [y])))) :
    tSeq (tDrop (tBM K "list" rAppend ta (tCons te tNil))) tz D σ H := ha H (Ex.refl H) _ fun H1 e1 =>
  ⟨.inl ⟨rfl, _, sq_of (e1 l _ hl)⟩, h H1 e1 _ fun y H2 e2 hy => ⟨l, xs, y, rfl, rfl, e2 l _ (e1 l _ hl), sz_lt hz, k y H2 (e1.trans e2) hy⟩⟩
/-- a new list of two, of three new lists -/
theorem q_asgL2 {k : Nat} (h1 : EvL ta σ H xs) (h2 : EvL tb σ H ys) (q : ∀ l p1 p2 H1, H l = none → H p1 = none → H p2 = none → p1 ≠ p2 → l ≠ p1 → l ≠ p2 → Ex H H1 → H1 l = some (.lst [.ref p1, .ref p2]) → H1 p1 = some (.lst xs) → H1 p2 = some (.lst ys) → tz D (σ.set k (some (.ref l))) H1) :
    tSeq (tAsg (tLst (tCons ta (tCons tb tNil))) (gName k)) tz D σ H :=
  h1 H (Ex.refl H) _ fun p1 H1 n1 e1 g1 => h2 H1 e1 _ fun p2 H2 n2 e2 g2 => ⟨sz_of (by simp), fun l nl => by
    have l1 : l ≠ p1 := (ne_of_none (e2 _ _ g1) nl).symm
    have l2 : l ≠ p2 := (ne_of_none g2 nl).symm
    exact q l p1 p2 _ (fresh_back (e1.trans e2) nl) n1 (fresh_back e1 n2) (ne_of_none g1 n2) l1 l2 ((e1.trans e2).trans (Ex.new nl)) upd_same (by rw [upd_ne l1.symm]; exact e2 _ _ g1) (by rw [upd_ne l2.symm]; exact g2)⟩
theorem q_asgL3 {k : Nat} (h1 : EvL ta σ H xs) (h2 : EvL tb σ H ys) (h3 : EvL tc σ H zs) (q : ∀ l p1 p2 p3 H1, H l = none → H p1 = none → H p2 = none → H p3 = none → p1 ≠ p2 → p1 ≠ p3 → p2 ≠ p3 → l ≠ p1 → l ≠ p2 → l ≠ p3 → Ex H H1 → H1 l = some (.lst [.ref p1, .ref p2, .ref p3]) →
      H1 p1 = some (.lst xs) → H1 p2 = some (.lst ys) → H1 p3 = some (.lst zs) → tz D (σ.set k (some (.ref l))) H1) :
    tSeq (tAsg (tLst (tCons ta (tCons tb (tCons tc tNil)))) (gName k)) tz D σ H :=
  h1 H (Ex.refl H) _ fun p1 H1 n1 e1 g1 => h2 H1 e1 _ fun p2 H2 n2 e2 g2 => h3 H2 (e1.trans e2) _ fun p3 H3 n3 e3 g3 => ⟨sz_of (by simp), fun l nl => by
    have g1' := e3 _ _ (e2 _ _ g1)
    have g2' := e3 _ _ g2
    have l1 : l ≠ p1 := (ne_of_none g1' nl).symm
    have l2 : l ≠ p2 := (ne_of_none g2' nl).symm
    have l3 : l ≠ p3 := (ne_of_none g3 nl).symm
    exact q l p1 p2 p3 _ (fresh_back ((e1.trans e2).trans e3) nl) n1 (fresh_back e1 n2) (fresh_back (e1.trans e2) n3) (ne_of_none g1 n2) (ne_of_none (e2 _ _ g1) n3) (ne_of_none g2 n3) l1 l2 l3 (((e1.trans e2).trans e3).trans (Ex.new nl)) upd_same
      (by rw [upd_ne l1.symm]; exact g1') (by rw [upd_ne l2.symm]; exact g2') (by rw [upd_ne l3.symm]; exact g3)⟩
/-- x = a if t else b, the test known -/
theorem q_asgIfT {k : Nat} (h : EvT t σ H true) (q : ∀ H1, Ex H H1 → ta σ H1 fun y H2 => tz D (σ.set k (some y)) H2) : tSeq (tAsg (tIf t ta tb) (gName k)) tz D σ H := h H (Ex.refl H) _ fun H1 e1 => by
  show ta σ H1 _
  exact q H1 e1
theorem q_asgIfF {k : Nat} (h : EvT t σ H false) (q : ∀ H1, Ex H H1 → tb σ H1 fun y H2 => tz D (σ.set k (some y)) H2) : tSeq (tAsg (tIf t ta tb) (gName k)) tz D σ H := h H (Ex.refl H) _ fun H1 e1 => by
  show tb σ H1 _
  exact q H1 e1
theorem q_parLL {k l : Nat} (h1 : EvL ta σ H xs) (h2 : EvL tb σ H ys) (q : ∀ p1 p2 H1, H p1 = none → H p2 = none → p1 ≠ p2 → Ex H H1 → H1 p1 = some (.lst xs) → H1 p2 = some (.lst ys) → tz D ((σ.set k (some (.ref p1))).set l (some (.ref p2))) H1) :
    tSeq (tPar k l (tCons ta (tCons tb tNil))) tz D σ H :=
  h1 H (Ex.refl H) _ fun p1 H1 n1 e1 g1 => h2 H1 e1 _ fun p2 H2 n2 e2 g2 => ⟨_, _, rfl, q p1 p2 H2 n1 (fresh_back e1 n2) (ne_of_none g1 n2) (e1.trans e2) (e2 _ _ g1) g2⟩
theorem q_par3V {k l m : Nat} (h1 : Ev ta σ H x) (h2 : Ev tb σ H y) (h3 : Ev tc σ H z) (q : ∀ H1, Ex H H1 → tz D (((σ.set k (some x)).set l (some y)).set m (some z)) H1) :
    tSeq (tPar3 k l m (tCons ta (tCons tb (tCons tc tNil)))) tz D σ H := s_par3V (D := { D with nx := tz D }) h1 h2 h3 q
theorem q_asgB {k : Nat} {b : Bool} (h : Ev te σ H (.bl b)) (q : ∀ H1, Ex H H1 → tz D (σ.set k (some (.bl b))) H1) : tSeq (tAsg te (gName k)) tz D σ H := q_asg h q
theorem er_ix (h : EvR K ta σ H xs) (hi : Ev tb σ H (.int i)) (hv : atI xs i = some (.ref a)) (hx : SqL K H a ys) : EvR K (tOp (rIxL K) ta tb) σ H ys := er_v (ev_ixR h hi hv) hx
theorem q_asgT {k : Nat} (h : ta σ H fun y H2 => tz D (σ.set k (some y)) H2) : tSeq (tAsg ta (gName k)) tz D σ H := h
theorem q_asgEx {k : Nat} {P : Addr → Prop} (h : ∃ o, Ev te σ H (.ref o) ∧ P o) (q : ∀ o, P o → ∀ H1, Ex H H1 → tz D (σ.set k (some (.ref o))) H1) : tSeq (tAsg te (gName k)) tz D σ H := by
  obtain ⟨o, h1, h2⟩ := h
  exact q_asg h1 fun H1 e1 => q o h2 H1 e1
theorem ea_nilI : EvA tNil σ H (il []) := ea_nil
theorem ea_consI {tr : TA} {n : Int} (h : Ev te σ H (.int n)) (hr : EvA tr σ H (il ns)) : EvA (tCons te tr) σ H (il (n :: ns)) := ea_cons h hr
theorem el_lstI (h : EvA ta' σ H (il ns)) (hz : ns.length ≤ 100000) : EvL (tLst ta') σ H (il ns) := el_lst h (by rw [il_len]; exact hz)
end
end RK
/-! RrLaw: what the laws draw out of a script: a prime, rests, a row. -/
namespace RR
def PR : List Int := [1000003, 1000033, 1000037, 1000039, 1000081, 1000099, 1000117, 1000121, 1000133, 1000151, 1000159, 1000171, 1000183, 1000187, 1000193, 1000199]
theorem PR_pos (k : Int) : 0 < g PR (k % 16).toNat := by
  have h1 : 0 ≤ k % 16 := Int.emod_nonneg _ (by decide)
  have h2 : k % 16 < 16 := Int.emod_lt_of_pos _ (by decide)
  have : ∀ i : Nat, i < 16 → 0 < g PR i := by decide
  exact this _ (by omega)
def draw (c k m : Int) : Int := (c * 48271 + k * 69621) % g PR (k % 16).toNat % m
theorem draw_in {c k m : Int} (h : 0 < m) : 0 ≤ draw c k m ∧ draw c k m < m := ⟨Int.emod_nonneg _ (by omega), Int.emod_lt_of_pos _ h⟩
def PL : List Int := [2, 3, 2, 5, 7, 2, 997, 11, 31, 3]
def lawPrime (ns : List Int) : Int := g PL (draw (g ns 0) 6 10).toNat
/-- a prime, by trying -/
def good (n : Nat) : Bool := decide (2 ≤ n) && decide (n ≤ 997) && (List.range (n + 1)).all fun e => decide (e = 0) || decide (e = 1) || decide (e = n) || decide (n % e ≠ 0)
theorem good_of {n : Nat} (h : good n = true) : Good (n : Int) := by
  unfold good at h
  simp only [Bool.and_eq_true, decide_eq_true_eq, List.all_eq_true, List.mem_range, Bool.or_eq_true] at h
  obtain ⟨⟨h1, h2⟩, h3⟩ := h
  refine ⟨by omega, by omega, fun e he hd => ?_⟩
  have hle : e ≤ n := Int.le_of_dvd (by omega) hd
  obtain ⟨m, rfl⟩ : ∃ m : Nat, e = m := ⟨e.toNat, by omega⟩
  rcases h3 m (by omega) with ((w | w) | w) | w
  · omega
  · left; omega
  · right; omega
  · exact absurd (Nat.mod_eq_zero_of_dvd (Int.natCast_dvd_natCast.mp hd)) w
theorem PL_good : ∀ i : Nat, i < 10 → Good (g PL i) := fun i hi => by
  have h2 : Good 2 := good_of (n := 2) (by decide +kernel)
  have h3 : Good 3 := good_of (n := 3) (by decide +kernel)
  have h5 : Good 5 := good_of (n := 5) (by decide +kernel)
  have h7 : Good 7 := good_of (n := 7) (by decide +kernel)
  have h11 : Good 11 := good_of (n := 11) (by decide +kernel)
  have h31 : Good 31 := good_of (n := 31) (by decide +kernel)
  have h997 : Good 997 := good_of (n := 997) (by decide +kernel)
  match i, hi with
  | 0, _ => exact h2
  | 1, _ => exact h3
  | 2, _ => exact h2
  | 3, _ => exact h5
  | 4, _ => exact h7
  | 5, _ => exact h2
  | 6, _ => exact h997
  | 7, _ => exact h11
  | 8, _ => exact h31
  | 9, _ => exact h3
theorem lawPrime_good (ns : List Int) : Good (lawPrime ns) := by
  have := draw_in (c := g ns 0) (k := 6) (m := 10) (by decide)
  exact PL_good _ (by omega)
def lawRests (ns : List Int) (by_ p m : Int) : List Int := (List.range m.toNat).map fun k => draw (g ns k) ((k : Int) % 5 + by_) p
theorem lawRests_len (ns : List Int) (by_ p m : Int) : (lawRests ns by_ p m).length = m.toNat := by simp [lawRests]
theorem lawRests_rs {ns : List Int} {by_ p m : Int} (hp : 0 < p) : Rs p (lawRests ns by_ p m) := fun x hx => by
  obtain ⟨k, _, rfl⟩ := List.mem_map.mp hx
  exact draw_in hp
/-- numbers made by a rule set in their places, from lo on -/
def fillF (p : Int) (rule l : List Int) (lo : Nat) : Nat → List Int
  | 0 => l
  | i + 1 => (fillF p rule l lo i).set (lo + i) (due p rule (fillF p rule l lo i) (lo + i))
theorem fillF_len (p : Int) (rule l : List Int) (lo : Nat) : ∀ i, (fillF p rule l lo i).length = l.length
  | 0 => rfl
  | i + 1 => by unfold fillF; rw [List.length_set, fillF_len p rule l lo i]
theorem fillF_rs {p : Int} (hp : 0 < p) {rule l : List Int} (hl : Rs p l) (lo : Nat) : ∀ i, Rs p (fillF p rule l lo i)
  | 0 => hl
  | i + 1 => fun x hx => by
    unfold fillF at hx
    rcases List.mem_or_eq_of_mem_set hx with h | h
    · exact fillF_rs hp hl lo i x h
    · rw [h]
      exact ⟨Int.emod_nonneg _ (by omega), Int.emod_lt_of_pos _ hp⟩
def OFF : List Int := [0, 0, 0, 2]
def lawKind (ns : List Int) : Int := draw (g ns 1) 7 5
def lawRule (ns : List Int) (p : Int) : List Int := lawRests (ns.drop 1) 3 p (1 + draw (g ns 2) 8 6)
def lawRow (ns : List Int) (p : Int) : List Int :=
  if decide (lawKind ns = 0) = true then (List.range ns.length).map fun k => if decide (draw (g ns k) 9 5 = 0) = true then g (lawRests ns 1 p ns.length) k else 0
  else if decide (lawKind ns < 4) = true then fillF p (lawRule ns p) (lawRests ns 1 p ns.length) (lawRule ns p).length (ns.length - g OFF (lawKind ns).toNat - (lawRule ns p).length).toNat
  else lawRests ns 1 p ns.length
theorem lawRow_len (ns : List Int) (p : Int) : (lawRow ns p).length = ns.length := by
  unfold lawRow
  split
  · simp
  · split
    · rw [fillF_len, lawRests_len]; simp
    · rw [lawRests_len]; simp
theorem lawRow_rs {ns : List Int} {p : Int} (hp : 0 < p) : Rs p (lawRow ns p) := by
  have h1 : Rs p (lawRests ns 1 p ns.length) := lawRests_rs hp
  unfold lawRow
  split
  · intro x hx
    obtain ⟨k, _, rfl⟩ := List.mem_map.mp hx
    split
    · exact h1.g hp k
    · omega
  · split
    · exact fillF_rs hp h1 _ _
    · exact h1
theorem Rs.reverse {p : Int} {l : List Int} (h : Rs p l) : Rs p l.reverse := fun x hx => h x (List.mem_reverse.mp hx)
theorem Rs.drop {p : Int} {l : List Int} (h : Rs p l) (n : Nat) : Rs p (l.drop n) := fun x hx => h x (List.mem_of_mem_drop hx)
theorem Rs.take {p : Int} {l : List Int} (h : Rs p l) (n : Nat) : Rs p (l.take n) := fun x hx => h x (List.mem_of_mem_take hx)
/-- the two ends of law 1 -/
theorem shortest_nil (p : Int) : (shortest p []).rule = [] := rfl
theorem shortest_two {p : Int} (hp : Good p) : (shortest p [0, 0, 1]).place = 2 := by
  have h1 := hp.two
  have e0 : (0 : Int) % p = 0 := Int.zero_emod p
  have e1 : (1 : Int) % p = 1 := Int.emod_eq_of_lt (by omega) (by omega)
  have s1 : bm p [0, 0, 1] 1 = ⟨[], [], -1, 1⟩ := by
    show bmStep p [0, 0, 1] ⟨[], [], -1, 1⟩ 0 = _
    unfold bmStep
    rw [if_neg]
    rintro ⟨_, h⟩
    exact h (by show (0 - 0 % p) % p = 0; rw [e0]; exact e0)
  have s2 : bm p [0, 0, 1] 2 = ⟨[], [], -1, 1⟩ := by
    show bmStep p [0, 0, 1] (bm p [0, 0, 1] 1) 1 = _
    rw [s1]
    unfold bmStep
    rw [if_neg]
    rintro ⟨_, h⟩
    exact h (by show (0 - 0 % p) % p = 0; rw [e0]; exact e0)
  show (bmStep p [0, 0, 1] (bm p [0, 0, 1] 2) 2).place = 2
  rw [s2]
  unfold bmStep
  rw [if_pos ⟨by show 0 ≤ 2; omega, by show (1 - 0 % p) % p ≠ 0; rw [e0, Int.sub_zero, e1]; decide⟩]
  rw [if_pos (by show 2 + 1 - 0 > 0; decide)]
  rfl
/-! ### law 5: rests with something changed -/
def bentAt (l : List Int) (c : Int) : Int := draw c 2 (if (l.length : Int) > 1 then (l.length : Int) else 1)
theorem bentAt_in {l : List Int} {c : Int} : 0 ≤ bentAt l c ∧ (l ≠ [] → bentAt l c < l.length) := by
  unfold bentAt
  have h : 0 < (if (l.length : Int) > 1 then (l.length : Int) else 1) := by split <;> omega
  have := draw_in (c := c) (k := 2) h
  refine ⟨this.1, fun hn => ?_⟩
  have hl : 0 < l.length := List.length_pos_iff.mpr hn
  have h2 : (if (l.length : Int) > 1 then (l.length : Int) else 1) = l.length := by split <;> omega
  rw [h2] at this ⊢
  exact this.2
def bent (l : List Int) (c p : Int) : List Int :=
  if (decide (draw c 1 9 = 1) && !decide (l = [])) = true then l.take (bentAt l c).toNat ++ [(g l (bentAt l c).toNat + 1) % p] ++ l.drop (bentAt l c + 1).toNat
  else if decide (draw c 1 9 = 2) = true then l ++ [draw c 3 2]
  else if decide (draw c 1 9 = 3) = true then l.dropLast
  else if decide (draw c 1 9 = 4) = true then l.reverse
  else if (decide (draw c 1 9 = 5) && !decide (l = [])) = true then l.take (bentAt l c).toNat ++ [g l (bentAt l c).toNat + g [p, -p] (draw c 4 2).toNat] ++ l.drop (bentAt l c + 1).toNat
  else if decide (draw c 1 9 = 6) = true then []
  else l
theorem bent_len (l : List Int) (c p : Int) : (bent l c p).length ≤ l.length + 1 := by
  unfold bent
  repeat' split
  all_goals (try simp only [List.length_append, List.length_take, List.length_drop, List.length_cons, List.length_nil, List.length_dropLast, List.length_reverse])
  all_goals omega
def SPOT : List Int := [0, 0, 0, 1, -1]
end RR
namespace RP
open PySem PySem.Spec PyProof.Rows L2 Evl RR RK
/-! own short tactics, under the walk's word: ev (what an expression evaluates to), sd (a side condition), sq (a list that stands) -/
local macro_rules | `(tactic| walk_at "sq") => `(tactic| first
  | assumption
  | exact sq_of (by assumption)
  | exact Has.at (by assumption) (List.Mem.head _)
  | exact Has.at (by assumption) (List.Mem.tail _ (List.Mem.head _))
  | exact Has.at (by assumption) (List.Mem.tail _ (List.Mem.tail _ (List.Mem.head _)))
  | exact Has.at (by assumption) (List.Mem.tail _ (List.Mem.tail _ (List.Mem.tail _ (List.Mem.head _))))
  | exact Has.at (by assumption) (List.Mem.tail _ (List.Mem.tail _ (List.Mem.tail _ (List.Mem.tail _ (List.Mem.head _)))))
  | exact Has.at (by assumption) (List.Mem.tail _ (List.Mem.tail _ (List.Mem.tail _ (List.Mem.tail _ (List.Mem.tail _ (List.Mem.head _)))))))
local macro_rules | `(tactic| walk_at "hb") => `(tactic| (with_reducible intro hb; try simp only [Bool.and_eq_true, Bool.or_eq_true, Bool.not_eq_true', Bool.not_eq_false', Bool.and_eq_false_iff, Bool.or_eq_false_iff, decide_eq_true_eq, decide_eq_false_iff_not] at hb))
local macro_rules | `(tactic| walk_at "sd") => `(tactic| first | assumption | omega | (constructor <;> omega) | exact trivial | (simp only [List.length_cons, List.length_nil, List.length_map, List.length_take, List.length_drop, List.length_append, List.length_reverse]; omega) | skip)
/-- no def of the text: the newest rows stand further on -/
local macro_rules | `(tactic| walk_at "own") => `(tactic| fail "no own def")
local macro_rules | `(tactic| walk_at "fl") => `(tactic| first | exact fl3_rule _ _ _ | exact fl3_shorter _ _ _ | exact fl3_place _ _ _ | exact fl4_one _ _ _ _ | exact fl4_other _ _ _ _ | exact fl4_shorter _ _ _ _ | exact fl4_place _ _ _ _)
local macro_rules | `(tactic| walk_at "ev") => `(tactic| first
  | with_reducible exact ev_c
  | ((with_reducible apply ev_var); rfl)
  | ((with_reducible apply em_var); rfl; assumption)
  | ((with_reducible apply er_var); rfl; walk_at "sq")
  | ((with_reducible apply er_ix); walk_at "ev"; walk_at "ev"; rfl; walk_at "sq")
  | ((with_reducible apply em_fld); walk_at "ev"; assumption)
  | ((with_reducible apply er_fld); walk_at "ev"; walk_at "sq")
  | ((with_reducible apply ev_fld); walk_at "ev"; assumption; assumption; assumption; walk_at "fl")
  | ((with_reducible apply ev_add) <;> walk_at "ev")
  | ((with_reducible apply ev_sub) <;> walk_at "ev")
  | ((with_reducible apply ev_mul) <;> walk_at "ev")
  | ((with_reducible apply ev_mod) <;> walk_at "ev")
  | ((with_reducible apply ev_div) <;> walk_at "ev")
  | ((with_reducible apply ev_lt) <;> walk_at "ev")
  | ((with_reducible apply ev_le) <;> walk_at "ev")
  | ((with_reducible apply ev_gt) <;> walk_at "ev")
  | ((with_reducible apply ev_ge) <;> walk_at "ev")
  | ((with_reducible apply ev_eq) <;> walk_at "ev")
  | ((with_reducible apply ev_ne) <;> walk_at "ev")
  | ((with_reducible apply ev_neg) <;> walk_at "ev")
  | ((with_reducible apply ev_isB) <;> walk_at "ev")
  | ((with_reducible apply ev_notB) <;> walk_at "ev")
  | ((with_reducible apply ev_ixLast) <;> walk_at "ev")
  | ((with_reducible apply ev_ixI) <;> walk_at "ev")
  | ((with_reducible apply ev_ixR); walk_at "ev"; walk_at "ev"; rfl)
  | ((with_reducible apply ev_eqL) <;> walk_at "ev")
  | ((with_reducible apply ev_neL) <;> walk_at "ev")
  | ((with_reducible apply ev_ixTvar); rfl; (exact st_of (by assumption)); walk_at "ev"; rfl)
  | ((with_reducible apply ev_ixTi); rfl; (exact st_of (by assumption)); walk_at "ev"; walk_at "sd")
  | ((with_reducible apply ev_ixUi) <;> walk_at "ev")
  | ((with_reducible apply er_ifT) <;> walk_at "ev")
  | ((with_reducible apply er_ifF) <;> walk_at "ev")
  | ((with_reducible apply ev_ifI) <;> walk_at "ev")
  | ((with_reducible apply ev_ifT) <;> walk_at "ev")
  | ((with_reducible apply ev_ifF) <;> walk_at "ev")
  | ((with_reducible apply ev_alt1) <;> walk_at "ev")
  | ((with_reducible apply ev_alt2) <;> walk_at "ev")
  | ((with_reducible apply ev_isiO); walk_at "ev"; assumption; assumption; assumption; assumption; assumption; assumption; assumption)
  | ((with_reducible apply ev_lenI) <;> walk_at "ev")
  | ((with_reducible apply ev_lenR) <;> walk_at "ev")
  | ((with_reducible apply ev_sumR) <;> walk_at "ev")
  | ((with_reducible apply ev_allR) <;> walk_at "ev")
  | ((with_reducible apply ev_anyR) <;> walk_at "ev")
  | ((with_reducible apply ev_max2) <;> walk_at "ev")
  | ((with_reducible apply ev_isiV) <;> walk_at "ev")
  | with_reducible exact fun _ => TyX.base (TyOf.int _)
  | with_reducible exact fun _ => TyX.base (TyOf.bl _)
  | exact fun e => tyx_sql (ex_l e (by walk_at "sq"))
  | with_reducible exact kit_ty (r := true) (by decide +kernel)
  | with_reducible exact kit_ty (r := false) (by decide +kernel)
  | with_reducible exact Sc.int _ _
  | with_reducible exact Sc.bl _ _
  | with_reducible exact Sc.str _ _
  | ((with_reducible apply ev_andV) <;> walk_at "ev")
  | ((with_reducible apply ev_orV) <;> walk_at "ev")
  | ((with_reducible apply ev_notV) <;> walk_at "ev")
  | ((with_reducible apply ev_chain) <;> walk_at "ev")
  | ((with_reducible apply et_and) <;> walk_at "ev")
  | ((with_reducible apply et_or) <;> walk_at "ev")
  | ((with_reducible apply et_not) <;> walk_at "ev")
  | ((with_reducible apply et_test) <;> walk_at "ev")
  | ((with_reducible apply et_B) <;> walk_at "ev")
  | with_reducible exact et_yes
  | with_reducible exact rv_lt
  | with_reducible exact rv_le
  | with_reducible exact rv_eqI
  | with_reducible exact ea_nilI
  | with_reducible exact ea_nil
  | ((with_reducible apply ea_consI) <;> walk_at "ev")
  | ((with_reducible apply ea_cons) <;> walk_at "ev")
  | with_reducible exact eas_nil
  | ((with_reducible apply eas_v) <;> walk_at "ev")
  | ((with_reducible apply eas_l) <;> walk_at "ev")
  | ((with_reducible apply eas_m) <;> walk_at "ev")
  | with_reducible exact eo_none
  | ((with_reducible apply eo_some) <;> walk_at "ev")
  | ((with_reducible apply el_catI) <;> walk_at "ev")
  | ((with_reducible apply el_repI) <;> walk_at "ev")
  | ((with_reducible apply el_slBut) <;> walk_at "ev")
  | ((with_reducible apply el_slFrom) <;> walk_at "ev")
  | ((with_reducible apply el_slTo) <;> walk_at "ev")
  | ((with_reducible apply el_slR) <;> walk_at "ev")
  | ((with_reducible apply el_listR) <;> walk_at "ev")
  | ((with_reducible apply el_revI) <;> walk_at "ev")
  | with_reducible exact el_nilI
  | with_reducible exact el_nil
  | ((with_reducible apply el_one) <;> walk_at "ev")
  | ((with_reducible apply el_lstI) <;> walk_at "ev")
  | ((with_reducible apply el_lst) <;> walk_at "ev")
  | ((with_reducible apply eu_tup) <;> walk_at "ev")
  | walk_at "own"
  | ((with_reducible apply er_of_l) <;> walk_at "ev")
  | ((with_reducible apply em_of_l) <;> walk_at "ev")
  | (walk_at "hb"; walk_at "ev")
  | ((with_reducible show EvL (tLc _ _ _ _ _) _ _ _); skip)
  | ((with_reducible first | show List _ | show Int | show Bool | show V | show Nat | show Addr | show Str | show Value); skip)
  | (((fail_if_success with_reducible first | show Ev _ _ _ _ | show EvR _ _ _ _ _ | show EvM _ _ _ _ | show EvL _ _ _ _ | show EvT _ _ _ _ | show EvA _ _ _ _ | show EvAs _ _ _ _ _ | show EvU _ _ _ _ | show EvO _ _ _ _)); walk_at "sd"))
def topS (i : Nat) : Stmt := PySem.Challenge.pw_rulerow_k05_answers_by_hand.main.body.getD i (.Pass ⟨0, 0, 0, 0⟩)
abbrev s_is_whole : Stmt := topS 6
abbrev s_check_prime : Stmt := topS 7
abbrev s_are_rests : Stmt := topS 8
abbrev s_check_row : Stmt := topS 9
abbrev s_inverse : Stmt := topS 10
abbrev s_due_at : Stmt := topS 12
abbrev s_makes_all : Stmt := topS 13
abbrev s_turned : Stmt := topS 14
abbrev s_told_back : Stmt := topS 15
abbrev s_is_least : Stmt := topS 18
abbrev s_taken_off : Stmt := topS 23
abbrev s_shortest : Stmt := topS 24
abbrev s_Least___init__ : Stmt := inClass (topS 19) 0
abbrev s_Least_shows : Stmt := inClass (topS 19) 1
abbrev s_Only___init__ : Stmt := inClass (topS 20) 0
abbrev s_Only_shows : Stmt := inClass (topS 20) 1
abbrev s_Another___init__ : Stmt := inClass (topS 21) 0
abbrev s_Another_shows : Stmt := inClass (topS 21) 1
abbrev s_unlike : Stmt := topS 26
abbrev s_least : Stmt := topS 25
abbrev s__law_cell_at : Stmt := topS 28
abbrev s__law_draw : Stmt := topS 29
abbrev s__law_prime : Stmt := topS 30
abbrev s__law_rests : Stmt := topS 31
abbrev s__law_due : Stmt := topS 33
abbrev s__law_made : Stmt := topS 34
abbrev s__law_rested : Stmt := topS 35
abbrev s__law_least : Stmt := topS 36
abbrev s__law_row : Stmt := topS 32
abbrev s__law_says : Stmt := topS 37
abbrev s__law_bent : Stmt := topS 38
abbrev s__law_right : Stmt := topS 39
abbrev s__law_another_right : Stmt := topS 40
abbrev s_law : Stmt := topS 41
theorem sc_is_whole : FnScope ["thing"] ["thing"] (defScope s_is_whole) := ⟨rfl, rfl, rfl, by decide +kernel, rfl, by decide +kernel, by decide +kernel⟩
theorem sc_check_prime : FnScope ["prime", "at"] ["prime"] (defScope s_check_prime) := ⟨rfl, rfl, rfl, by decide +kernel, rfl, by decide +kernel, by decide +kernel⟩
theorem sc_are_rests : FnScope ["prime", "thing", "one"] ["prime", "thing"] (defScope s_are_rests) := ⟨rfl, rfl, rfl, by decide +kernel, rfl, by decide +kernel, by decide +kernel⟩
theorem sc_check_row : FnScope ["prime", "row"] ["prime", "row"] (defScope s_check_row) := ⟨rfl, rfl, rfl, by decide +kernel, rfl, by decide +kernel, by decide +kernel⟩
theorem sc_inverse : FnScope ["prime", "rest", "here", "there", "times"] ["prime", "rest"] (defScope s_inverse) := ⟨rfl, rfl, rfl, by decide +kernel, rfl, by decide +kernel, by decide +kernel⟩
theorem sc_due_at : FnScope ["prime", "rule", "row", "place", "k", "rest"] ["prime", "rule", "row", "place"] (defScope s_due_at) := ⟨rfl, rfl, rfl, by decide +kernel, rfl, by decide +kernel, by decide +kernel⟩
theorem sc_makes_all : FnScope ["prime", "rule", "row", "place"] ["prime", "rule", "row"] (defScope s_makes_all) := ⟨rfl, rfl, rfl, by decide +kernel, rfl, by decide +kernel, by decide +kernel⟩
theorem sc_turned : FnScope ["prime", "rule", "rest"] ["prime", "rule"] (defScope s_turned) := ⟨rfl, rfl, rfl, by decide +kernel, rfl, by decide +kernel, by decide +kernel⟩
theorem sc_told_back : FnScope ["prime", "rests", "rest"] ["prime", "rests"] (defScope s_told_back) := ⟨rfl, rfl, rfl, by decide +kernel, rfl, by decide +kernel, by decide +kernel⟩
theorem sc_is_least : FnScope ["prime", "row", "rule", "shorter", "place"] ["prime", "row", "rule", "shorter", "place"] (defScope s_is_least) := ⟨rfl, rfl, rfl, by decide +kernel, rfl, by decide +kernel, by decide +kernel⟩
theorem sc_taken_off : FnScope ["prime", "one", "other", "by", "ahead", "length", "found", "k", "rest"] ["prime", "one", "other", "by", "ahead", "length"] (defScope s_taken_off) := ⟨rfl, rfl, rfl, by decide +kernel, rfl, by decide +kernel, by decide +kernel⟩
theorem sc_shortest : FnScope ["prime", "row", "rule", "shorter", "place", "miss", "at", "number", "gap", "by", "length", "rests"] ["prime", "row"] (defScope s_shortest) := ⟨rfl, rfl, rfl, by decide +kernel, rfl, by decide +kernel, by decide +kernel⟩
theorem sc_Least___init__ : FnScope ["self", "rule", "shorter", "place"] ["self", "rule", "shorter", "place"] (defScope s_Least___init__) := ⟨rfl, rfl, rfl, by decide +kernel, rfl, by decide +kernel, by decide +kernel⟩
theorem sc_Least_shows : FnScope ["self", "prime", "row"] ["self", "prime", "row"] (defScope s_Least_shows) := ⟨rfl, rfl, rfl, by decide +kernel, rfl, by decide +kernel, by decide +kernel⟩
theorem sc_Only___init__ : FnScope ["self", "rule", "shorter", "place"] ["self", "rule", "shorter", "place"] (defScope s_Only___init__) := ⟨rfl, rfl, rfl, by decide +kernel, rfl, by decide +kernel, by decide +kernel⟩
theorem sc_Only_shows : FnScope ["self", "prime", "row"] ["self", "prime", "row"] (defScope s_Only_shows) := ⟨rfl, rfl, rfl, by decide +kernel, rfl, by decide +kernel, by decide +kernel⟩
theorem sc_Another___init__ : FnScope ["self", "one", "other", "shorter", "place"] ["self", "one", "other", "shorter", "place"] (defScope s_Another___init__) := ⟨rfl, rfl, rfl, by decide +kernel, rfl, by decide +kernel, by decide +kernel⟩
theorem sc_Another_shows : FnScope ["self", "prime", "row"] ["self", "prime", "row"] (defScope s_Another_shows) := ⟨rfl, rfl, rfl, by decide +kernel, rfl, by decide +kernel, by decide +kernel⟩
theorem sc_unlike : FnScope ["prime", "row", "rule", "shorter", "place", "miss", "rests"] ["prime", "row"] (defScope s_unlike) := ⟨rfl, rfl, rfl, by decide +kernel, rfl, by decide +kernel, by decide +kernel⟩
theorem sc_least : FnScope ["prime", "row", "rule", "shorter", "place", "miss"] ["prime", "row"] (defScope s_least) := ⟨rfl, rfl, rfl, by decide +kernel, rfl, by decide +kernel, by decide +kernel⟩
theorem sc__law_cell_at : FnScope ["_law_script", "_law_k"] ["_law_script", "_law_k"] (defScope s__law_cell_at) := ⟨rfl, rfl, rfl, by decide +kernel, rfl, by decide +kernel, by decide +kernel⟩
theorem sc__law_draw : FnScope ["_law_cell", "_law_k", "_law_many", "_law_primes"] ["_law_cell", "_law_k", "_law_many"] (defScope s__law_draw) := ⟨rfl, rfl, rfl, by decide +kernel, rfl, by decide +kernel, by decide +kernel⟩
theorem sc__law_prime : FnScope ["_law_script"] ["_law_script"] (defScope s__law_prime) := ⟨rfl, rfl, rfl, by decide +kernel, rfl, by decide +kernel, by decide +kernel⟩
theorem sc__law_rests : FnScope ["_law_script", "_law_by", "_law_prime_here", "_law_many", "_law_k"] ["_law_script", "_law_by", "_law_prime_here", "_law_many"] (defScope s__law_rests) := ⟨rfl, rfl, rfl, by decide +kernel, rfl, by decide +kernel, by decide +kernel⟩
theorem sc__law_due : FnScope ["_law_prime_here", "_law_rule", "_law_row_here", "_law_place", "_law_k", "_law_rest"] ["_law_prime_here", "_law_rule", "_law_row_here", "_law_place"] (defScope s__law_due) := ⟨rfl, rfl, rfl, by decide +kernel, rfl, by decide +kernel, by decide +kernel⟩
theorem sc__law_made : FnScope ["_law_prime_here", "_law_rule", "_law_row_here", "_law_place"] ["_law_prime_here", "_law_rule", "_law_row_here"] (defScope s__law_made) := ⟨rfl, rfl, rfl, by decide +kernel, rfl, by decide +kernel, by decide +kernel⟩
theorem sc__law_rested : FnScope ["_law_prime_here", "_law_found", "_law_one"] ["_law_prime_here", "_law_found"] (defScope s__law_rested) := ⟨rfl, rfl, rfl, by decide +kernel, rfl, by decide +kernel, by decide +kernel⟩
theorem sc__law_least : FnScope ["_law_prime_here", "_law_row_here", "_law_rule", "_law_shorter", "_law_place"] ["_law_prime_here", "_law_row_here", "_law_rule", "_law_shorter", "_law_place"] (defScope s__law_least) := ⟨rfl, rfl, rfl, by decide +kernel, rfl, by decide +kernel, by decide +kernel⟩
theorem sc__law_row : FnScope ["_law_script", "_law_prime_here", "_law_kind", "_law_many", "_law_drawn", "_law_rule", "_law_place", "_law_k", "_law_number"] ["_law_script", "_law_prime_here"] (defScope s__law_row) := ⟨rfl, rfl, rfl, by decide +kernel, rfl, by decide +kernel, by decide +kernel⟩
theorem sc__law_says : FnScope ["_law_said", "_law_due_here"] ["_law_said", "_law_due_here"] (defScope s__law_says) := ⟨rfl, rfl, rfl, by decide +kernel, rfl, by decide +kernel, by decide +kernel⟩
theorem sc__law_bent : FnScope ["_law_some", "_law_cell", "_law_prime_here", "_law_kind", "_law_at"] ["_law_some", "_law_cell", "_law_prime_here"] (defScope s__law_bent) := ⟨rfl, rfl, rfl, by decide +kernel, rfl, by decide +kernel, by decide +kernel⟩
theorem sc__law_right : FnScope ["_law_prime_here", "_law_row_here", "_law_rule", "_law_shorter", "_law_place", "_law_good", "_law_which", "_law_handed", "_law_answer"] ["_law_prime_here", "_law_row_here", "_law_rule", "_law_shorter", "_law_place"] (defScope s__law_right) := ⟨rfl, rfl, rfl, by decide +kernel, rfl, by decide +kernel, by decide +kernel⟩
theorem sc__law_another_right : FnScope ["_law_prime_here", "_law_row_here", "_law_one", "_law_other", "_law_shorter", "_law_place", "_law_handed", "_law_answer", "_law_some", "_law_due_here"] ["_law_prime_here", "_law_row_here", "_law_one", "_law_other", "_law_shorter", "_law_place"] (defScope s__law_another_right) := ⟨rfl, rfl, rfl, by decide +kernel, rfl, by decide +kernel, by decide +kernel⟩
theorem sc_law : FnScope ["_law_script", "_law_prime_here", "_law_row_here", "_law_found", "_law_more", "_law_rule", "_law_shorter", "_law_place", "_law_other", "_law_k", "_law_cell", "_law_spot", "_law_mine", "_law_bent_here", "_law_theirs", "_law_some", "_law_rests_here", "_law_due_here"] ["_law_script"] (defScope s_law) := ⟨rfl, rfl, rfl, by decide +kernel, rfl, by decide +kernel, by decide +kernel⟩
/-- what the top has written -/
structure Txt (K : PySem.W.Frag) (mg : Str → Option Value) where
  a_is_whole : Addr
  f_is_whole : FuncData
  F_is_whole : Fun K "is_whole" "is_whole" s_is_whole a_is_whole f_is_whole
  b_is_whole : Binds K f_is_whole ["thing"] []
  g_is_whole : mg "is_whole" = some (.ref a_is_whole)
  a_check_prime : Addr
  f_check_prime : FuncData
  F_check_prime : Fun K "check_prime" "check_prime" s_check_prime a_check_prime f_check_prime
  b_check_prime : Binds K f_check_prime ["prime"] []
  g_check_prime : mg "check_prime" = some (.ref a_check_prime)
  a_are_rests : Addr
  f_are_rests : FuncData
  F_are_rests : Fun K "are_rests" "are_rests" s_are_rests a_are_rests f_are_rests
  b_are_rests : Binds K f_are_rests ["prime", "thing"] []
  g_are_rests : mg "are_rests" = some (.ref a_are_rests)
  a_check_row : Addr
  f_check_row : FuncData
  F_check_row : Fun K "check_row" "check_row" s_check_row a_check_row f_check_row
  b_check_row : Binds K f_check_row ["prime", "row"] []
  g_check_row : mg "check_row" = some (.ref a_check_row)
  a_inverse : Addr
  f_inverse : FuncData
  F_inverse : Fun K "inverse" "inverse" s_inverse a_inverse f_inverse
  b_inverse : Binds K f_inverse ["prime", "rest"] []
  g_inverse : mg "inverse" = some (.ref a_inverse)
  a_due_at : Addr
  f_due_at : FuncData
  F_due_at : Fun K "due_at" "due_at" s_due_at a_due_at f_due_at
  b_due_at : Binds K f_due_at ["prime", "rule", "row", "place"] []
  g_due_at : mg "due_at" = some (.ref a_due_at)
  a_makes_all : Addr
  f_makes_all : FuncData
  F_makes_all : Fun K "makes_all" "makes_all" s_makes_all a_makes_all f_makes_all
  b_makes_all : Binds K f_makes_all ["prime", "rule", "row"] []
  g_makes_all : mg "makes_all" = some (.ref a_makes_all)
  a_turned : Addr
  f_turned : FuncData
  F_turned : Fun K "turned" "turned" s_turned a_turned f_turned
  b_turned : Binds K f_turned ["prime", "rule"] []
  g_turned : mg "turned" = some (.ref a_turned)
  a_told_back : Addr
  f_told_back : FuncData
  F_told_back : Fun K "told_back" "told_back" s_told_back a_told_back f_told_back
  b_told_back : Binds K f_told_back ["prime", "rests"] []
  g_told_back : mg "told_back" = some (.ref a_told_back)
  a_is_least : Addr
  f_is_least : FuncData
  F_is_least : Fun K "is_least" "is_least" s_is_least a_is_least f_is_least
  b_is_least : Binds K f_is_least ["prime", "row", "rule", "shorter", "place"] []
  g_is_least : mg "is_least" = some (.ref a_is_least)
  a_taken_off : Addr
  f_taken_off : FuncData
  F_taken_off : Fun K "taken_off" "taken_off" s_taken_off a_taken_off f_taken_off
  b_taken_off : Binds K f_taken_off ["prime", "one", "other", "by", "ahead", "length"] []
  g_taken_off : mg "taken_off" = some (.ref a_taken_off)
  a_shortest : Addr
  f_shortest : FuncData
  F_shortest : Fun K "shortest" "shortest" s_shortest a_shortest f_shortest
  b_shortest : Binds K f_shortest ["prime", "row"] []
  g_shortest : mg "shortest" = some (.ref a_shortest)
  a_Least___init__ : Addr
  f_Least___init__ : FuncData
  F_Least___init__ : Fun K "__init__" "Least.__init__" s_Least___init__ a_Least___init__ f_Least___init__
  b_Least___init__ : Binds K f_Least___init__ ["self", "rule", "shorter", "place"] []
  a_Least_shows : Addr
  f_Least_shows : FuncData
  F_Least_shows : Fun K "shows" "Least.shows" s_Least_shows a_Least_shows f_Least_shows
  b_Least_shows : Binds K f_Least_shows ["self", "prime", "row"] []
  a_Only___init__ : Addr
  f_Only___init__ : FuncData
  F_Only___init__ : Fun K "__init__" "Only.__init__" s_Only___init__ a_Only___init__ f_Only___init__
  b_Only___init__ : Binds K f_Only___init__ ["self", "rule", "shorter", "place"] []
  a_Only_shows : Addr
  f_Only_shows : FuncData
  F_Only_shows : Fun K "shows" "Only.shows" s_Only_shows a_Only_shows f_Only_shows
  b_Only_shows : Binds K f_Only_shows ["self", "prime", "row"] []
  a_Another___init__ : Addr
  f_Another___init__ : FuncData
  F_Another___init__ : Fun K "__init__" "Another.__init__" s_Another___init__ a_Another___init__ f_Another___init__
  b_Another___init__ : Binds K f_Another___init__ ["self", "one", "other", "shorter", "place"] []
  a_Another_shows : Addr
  f_Another_shows : FuncData
  F_Another_shows : Fun K "shows" "Another.shows" s_Another_shows a_Another_shows f_Another_shows
  b_Another_shows : Binds K f_Another_shows ["self", "prime", "row"] []
  a_unlike : Addr
  f_unlike : FuncData
  F_unlike : Fun K "unlike" "unlike" s_unlike a_unlike f_unlike
  b_unlike : Binds K f_unlike ["prime", "row"] []
  g_unlike : mg "unlike" = some (.ref a_unlike)
  a_least : Addr
  f_least : FuncData
  F_least : Fun K "least" "least" s_least a_least f_least
  b_least : Binds K f_least ["prime", "row"] []
  g_least : mg "least" = some (.ref a_least)
  a__law_cell_at : Addr
  f__law_cell_at : FuncData
  F__law_cell_at : Fun K "_law_cell_at" "_law_cell_at" s__law_cell_at a__law_cell_at f__law_cell_at
  b__law_cell_at : Binds K f__law_cell_at ["_law_script", "_law_k"] []
  g__law_cell_at : mg "_law_cell_at" = some (.ref a__law_cell_at)
  a__law_draw : Addr
  f__law_draw : FuncData
  F__law_draw : Fun K "_law_draw" "_law_draw" s__law_draw a__law_draw f__law_draw
  b__law_draw : Binds K f__law_draw ["_law_cell", "_law_k", "_law_many"] []
  g__law_draw : mg "_law_draw" = some (.ref a__law_draw)
  a__law_prime : Addr
  f__law_prime : FuncData
  F__law_prime : Fun K "_law_prime" "_law_prime" s__law_prime a__law_prime f__law_prime
  b__law_prime : Binds K f__law_prime ["_law_script"] []
  g__law_prime : mg "_law_prime" = some (.ref a__law_prime)
  a__law_rests : Addr
  f__law_rests : FuncData
  F__law_rests : Fun K "_law_rests" "_law_rests" s__law_rests a__law_rests f__law_rests
  b__law_rests : Binds K f__law_rests ["_law_script", "_law_by", "_law_prime_here", "_law_many"] []
  g__law_rests : mg "_law_rests" = some (.ref a__law_rests)
  a__law_due : Addr
  f__law_due : FuncData
  F__law_due : Fun K "_law_due" "_law_due" s__law_due a__law_due f__law_due
  b__law_due : Binds K f__law_due ["_law_prime_here", "_law_rule", "_law_row_here", "_law_place"] []
  g__law_due : mg "_law_due" = some (.ref a__law_due)
  a__law_made : Addr
  f__law_made : FuncData
  F__law_made : Fun K "_law_made" "_law_made" s__law_made a__law_made f__law_made
  b__law_made : Binds K f__law_made ["_law_prime_here", "_law_rule", "_law_row_here"] []
  g__law_made : mg "_law_made" = some (.ref a__law_made)
  a__law_rested : Addr
  f__law_rested : FuncData
  F__law_rested : Fun K "_law_rested" "_law_rested" s__law_rested a__law_rested f__law_rested
  b__law_rested : Binds K f__law_rested ["_law_prime_here", "_law_found"] []
  g__law_rested : mg "_law_rested" = some (.ref a__law_rested)
  a__law_least : Addr
  f__law_least : FuncData
  F__law_least : Fun K "_law_least" "_law_least" s__law_least a__law_least f__law_least
  b__law_least : Binds K f__law_least ["_law_prime_here", "_law_row_here", "_law_rule", "_law_shorter", "_law_place"] []
  g__law_least : mg "_law_least" = some (.ref a__law_least)
  a__law_row : Addr
  f__law_row : FuncData
  F__law_row : Fun K "_law_row" "_law_row" s__law_row a__law_row f__law_row
  b__law_row : Binds K f__law_row ["_law_script", "_law_prime_here"] []
  g__law_row : mg "_law_row" = some (.ref a__law_row)
  a__law_says : Addr
  f__law_says : FuncData
  F__law_says : Fun K "_law_says" "_law_says" s__law_says a__law_says f__law_says
  b__law_says : Binds K f__law_says ["_law_said", "_law_due_here"] []
  g__law_says : mg "_law_says" = some (.ref a__law_says)
  a__law_bent : Addr
  f__law_bent : FuncData
  F__law_bent : Fun K "_law_bent" "_law_bent" s__law_bent a__law_bent f__law_bent
  b__law_bent : Binds K f__law_bent ["_law_some", "_law_cell", "_law_prime_here"] []
  g__law_bent : mg "_law_bent" = some (.ref a__law_bent)
  a__law_right : Addr
  f__law_right : FuncData
  F__law_right : Fun K "_law_right" "_law_right" s__law_right a__law_right f__law_right
  b__law_right : Binds K f__law_right ["_law_prime_here", "_law_row_here", "_law_rule", "_law_shorter", "_law_place"] []
  g__law_right : mg "_law_right" = some (.ref a__law_right)
  a__law_another_right : Addr
  f__law_another_right : FuncData
  F__law_another_right : Fun K "_law_another_right" "_law_another_right" s__law_another_right a__law_another_right f__law_another_right
  b__law_another_right : Binds K f__law_another_right ["_law_prime_here", "_law_row_here", "_law_one", "_law_other", "_law_shorter", "_law_place"] []
  g__law_another_right : mg "_law_another_right" = some (.ref a__law_another_right)
  a_law : Addr
  f_law : FuncData
  F_law : Fun K "law" "law" s_law a_law f_law
  b_law : Binds K f_law ["_law_script"] []
  g_law : mg "law" = some (.ref a_law)
  a_Answer : Addr
  g_Answer : mg "Answer" = some (.ref a_Answer)
  a_Least : Addr
  g_Least : mg "Least" = some (.ref a_Least)
  a_Only : Addr
  g_Only : mg "Only" = some (.ref a_Only)
  a_Another : Addr
  g_Another : mg "Another" = some (.ref a_Another)
  cl_Least : Cls K a_Least
  M_Least : Mk K a_Least a_Least___init__
  i1_Least : PySem.W.findIn K (.ref a_Least) "__class__" = some (some (.builtin "object.__class__"))
  i4_Least : PySem.W.mroIn K a_Least (.type "object") = some true
  m_Least_shows : Meth K a_Least "shows" a_Least_shows
  na_Least_rule : NoAttr K a_Least "rule"
  na_Least_shorter : NoAttr K a_Least "shorter"
  na_Least_place : NoAttr K a_Least "place"
  isa_Least_Answer : PySem.W.kitOne K (.ref a_Least) (.ref a_Answer) = some true
  isa_Least_Least : PySem.W.kitOne K (.ref a_Least) (.ref a_Least) = some true
  isa_Least_Only : PySem.W.kitOne K (.ref a_Least) (.ref a_Only) = some false
  isa_Least_Another : PySem.W.kitOne K (.ref a_Least) (.ref a_Another) = some false
  cl_Only : Cls K a_Only
  M_Only : Mk K a_Only a_Only___init__
  i1_Only : PySem.W.findIn K (.ref a_Only) "__class__" = some (some (.builtin "object.__class__"))
  i4_Only : PySem.W.mroIn K a_Only (.type "object") = some true
  m_Only_shows : Meth K a_Only "shows" a_Only_shows
  na_Only_rule : NoAttr K a_Only "rule"
  na_Only_shorter : NoAttr K a_Only "shorter"
  na_Only_place : NoAttr K a_Only "place"
  isa_Only_Answer : PySem.W.kitOne K (.ref a_Only) (.ref a_Answer) = some true
  isa_Only_Least : PySem.W.kitOne K (.ref a_Only) (.ref a_Least) = some false
  isa_Only_Only : PySem.W.kitOne K (.ref a_Only) (.ref a_Only) = some true
  isa_Only_Another : PySem.W.kitOne K (.ref a_Only) (.ref a_Another) = some false
  cl_Another : Cls K a_Another
  M_Another : Mk K a_Another a_Another___init__
  i1_Another : PySem.W.findIn K (.ref a_Another) "__class__" = some (some (.builtin "object.__class__"))
  i4_Another : PySem.W.mroIn K a_Another (.type "object") = some true
  m_Another_shows : Meth K a_Another "shows" a_Another_shows
  na_Another_one : NoAttr K a_Another "one"
  na_Another_other : NoAttr K a_Another "other"
  na_Another_shorter : NoAttr K a_Another "shorter"
  na_Another_place : NoAttr K a_Another "place"
  isa_Another_Answer : PySem.W.kitOne K (.ref a_Another) (.ref a_Answer) = some true
  isa_Another_Least : PySem.W.kitOne K (.ref a_Another) (.ref a_Least) = some false
  isa_Another_Only : PySem.W.kitOne K (.ref a_Another) (.ref a_Only) = some false
  isa_Another_Another : PySem.W.kitOne K (.ref a_Another) (.ref a_Another) = some true
  i2 : PySem.W.specialIn K (.builtin "object.__class__") "__get__" = some (some (.builtin "getset_descriptor.__get__"))
  i3 : PySem.W.takesIn K (.builtin "object.__class__") = some true
  n_len : mg "len" = none
  n_sum : mg "sum" = none
  n_all : mg "all" = none
  n_any : mg "any" = none
  n_list : mg "list" = none
  n_max : mg "max" = none
  n_isinstance : mg "isinstance" = none
  n_range : mg "range" = none
  n_enumerate : mg "enumerate" = none
  n_int : mg "int" = none
  n_bool : mg "bool" = none
  n_abs : mg "abs" = none
  n_reversed : mg "reversed" = none
  n_str : mg "str" = none
  n_tuple : mg "tuple" = none
  t_GREATEST : Tok
  c_GREATEST : mg "GREATEST" = some (.int 997 t_GREATEST)
section
variable {P : Program} {w : World} {K : PySem.W.Frag} {mg : Str → Option Value} {base : Heap}
/-! is_whole -/
def sp_is_whole (K : PySem.W.Frag) : Sp := fun vs H Q _ => ∃ (a : Int), AgsOk K H [.v (.int a)] vs ∧ (True) ∧ RetV (.bl true) H Q
theorem ev_is_whole {K : PySem.W.Frag} {σ : L2.St} {H : Hp} {E : XK} {ta : TA} {a : Int} (h : EvAs K ta σ H [.v (.int a)]) (hp : True) : Ev (tCall (sp_is_whole K) [] E ta) σ H (.bl true) := fun H1 e Q q =>
  h H1 e _ fun vs H2 e2 ok => ⟨a, by rw [List.append_nil]; exact ok, hp, fun H3 e3 => q H3 (e2.trans e3)⟩
local macro_rules | `(tactic| walk_at "own") => `(tactic| ((with_reducible apply ev_is_whole) <;> walk_at "ev"))
theorem ok_is_whole (T : Txt K mg) : FnOk P w K mg base CX0 1 T.a_is_whole T.f_is_whole ["thing"] (sp_is_whole K) := by
  refine T.F_is_whole.ok sc_is_whole (fun vs H Q E h => ?_) (fun cdv A outer s H vs Q E hr h => ?_)
  · obtain ⟨a, h, _⟩ := h
    exact h.len
  · obtain ⟨a, ⟨_, _, rfl, rfl, rfl⟩, hp, q⟩ := h
    rw [show start ["thing"] [(.int a)] = [some (.int a)] from rfl]
    refine ⟨_, (pss_one (ps_ret (pe_and (x_isi K rfl T.n_isinstance (by rfl) (pa_cons (pv 0) (pa_cons (x_ty "int" T.n_int (by rfl) (by decide +kernel)) pa_nil))) (pe_one (pe_not (x_isi K rfl T.n_isinstance (by rfl) (pa_cons (pv 0) (pa_cons (x_ty "bool" T.n_bool (by rfl) (by decide +kernel)) pa_nil)))))))), ?_⟩
    refine s_ret (v := .bl true) ?_ q
    apply ev_is
    walk_at "ev"
    rfl
/-! check_prime -/
def sp_check_prime (K : PySem.W.Frag) : Sp := fun vs H Q _ => ∃ (p : Int), AgsOk K H [.v (.int p)] vs ∧ (Good p) ∧ RetV (.non) H Q
theorem ev_check_prime {K : PySem.W.Frag} {σ : L2.St} {H : Hp} {E : XK} {ta : TA} {p : Int} (h : EvAs K ta σ H [.v (.int p)]) (hp : Good p) : Ev (tCall (sp_check_prime K) [] E ta) σ H (.non) := fun H1 e Q q =>
  h H1 e _ fun vs H2 e2 ok => ⟨p, by rw [List.append_nil]; exact ok, hp, fun H3 e3 => q H3 (e2.trans e3)⟩
local macro_rules | `(tactic| walk_at "own") => `(tactic| ((with_reducible apply ev_check_prime) <;> walk_at "ev"))
theorem ok_check_prime (T : Txt K mg) : FnOk P w K mg base CX0 2 T.a_check_prime T.f_check_prime ["prime"] (sp_check_prime K) := by
  refine T.F_check_prime.ok sc_check_prime (fun vs H Q E h => ?_) (fun cdv A outer s H vs Q E hr h => ?_)
  · obtain ⟨p, h, _⟩ := h
    exact h.len
  · obtain ⟨p, ⟨_, _, rfl, rfl, rfl⟩, hp, q⟩ := h
    rw [show start ["prime", "at"] [(.int p)] = [some (.int p), none] from rfl]
    refine ⟨_, (pss_one (ps_if (PW.pt (pw_or (pt_not (pt_val (pe_call (ok_is_whole T) (hr.mono (by decide)) (by rfl) T.g_is_whole T.F_is_whole.kp T.b_is_whole .nil pass0 (pa_cons (pv 0) pa_nil)))) (pw_or (pt_not (pt_chain op_le op_le pe_int (pv 0) (pe_glob (v := .int 997) (by rfl) T.c_GREATEST ⟨_, rfl⟩))) (pw_or1 (pt_val (x_any K rfl rfl T.n_any (by rfl) (pa_cons (pe_lc (own := [("at", 1)]) (g := (gName 1)) rfl sc_check_prime.nd (pi_range2 (by rfl) T.n_range (pa_cons pe_int (pa_cons pe_int pa_nil))) (blkOk_by (N := ["prime", "at"]) (sc := defScope s_check_prime) (by decide +kernel)) (fun _ _ _ _ _ => (pg_name (i := 1) sc_check_prime.nd rfl (Or.inl rfl))) (fun _ _ _ _ _ => (pts_one (pt_cmpR op_lt (pv 1) (pv 0) (nomark _)))) (fun _ _ _ _ _ => (pe_cmpR op_eq (pe_op op_mod (pv 0) (pv 1)) pe_int (nomark _)))) pa_nil))))))) (pss_one ps_never) pss_nil)), ?_⟩
    have g1 := hp.two
    have g2 := hp.most
    refine s_skip (b := false) ?_ rfl fun H1 e1 => q H1 e1
    apply et_is
    walk_at "ev"
    · apply el_lcRbt (lo := 2) (hi := 32) (fun i => decide ((2 : Int) + i < p)) (fun i => decide (p % ((2 : Int) + i) = 0)) (by walk_at "ev") (by omega) (by omega) (fun _ => rfl)
      · intro i H1 e hi
        walk_at "ev"
      · intro i H1 e hi hf
        walk_at "ev"
    · have e3 : ((((List.range ((32 : Int) - 2).toNat).filter fun (i : Nat) => decide ((2 : Int) + (i : Int) < p)).map fun (i : Nat) => decide (p % ((2 : Int) + (i : Int)) = 0)).any id) = false := by
        rw [List.any_eq_false]
        intro b hb
        obtain ⟨i, hi, rfl⟩ := List.mem_map.mp hb
        obtain ⟨_, hi2⟩ := List.mem_filter.mp hi
        have hi3 : (2 : Int) + i < p := of_decide_eq_true hi2
        intro z
        have z2 : p % ((2 : Int) + i) = 0 := of_decide_eq_true z
        rcases hp.pr _ (by omega) (Int.dvd_of_emod_eq_zero z2) with w | w <;> omega
      rw [e3, decide_eq_true (show (2 : Int) ≤ p by omega), decide_eq_true (show p ≤ (997 : Int) by omega)]
      rfl
/-! are_rests -/
def sp_are_rests (K : PySem.W.Frag) : Sp := fun vs H Q _ => ∃ (p : Int) (xs : List Int), AgsOk K H [.v (.int p), .l (il xs)] vs ∧ (xs.length ≤ 2000) ∧ RetV (.bl (rs p xs)) H Q
theorem ev_are_rests {K : PySem.W.Frag} {σ : L2.St} {H : Hp} {E : XK} {ta : TA} {p : Int} {xs : List Int} (h : EvAs K ta σ H [.v (.int p), .l (il xs)]) (hp : xs.length ≤ 2000) : Ev (tCall (sp_are_rests K) [] E ta) σ H (.bl (rs p xs)) := fun H1 e Q q =>
  h H1 e _ fun vs H2 e2 ok => ⟨p, xs, by rw [List.append_nil]; exact ok, hp, fun H3 e3 => q H3 (e2.trans e3)⟩
local macro_rules | `(tactic| walk_at "own") => `(tactic| ((with_reducible apply ev_are_rests) <;> walk_at "ev"))
theorem ok_are_rests (T : Txt K mg) : FnOk P w K mg base CX0 2 T.a_are_rests T.f_are_rests ["prime", "thing"] (sp_are_rests K) := by
  refine T.F_are_rests.ok sc_are_rests (fun vs H Q E h => ?_) (fun cdv A outer s H vs Q E hr h => ?_)
  · obtain ⟨p, xs, h, _⟩ := h
    exact h.len
  · obtain ⟨p, xs, ⟨_, _, rfl, rfl, _, _, rfl, ⟨a_thing, rfl, h_thing⟩, rfl⟩, hp, q⟩ := h
    rw [show start ["prime", "thing", "one"] [(.int p), (.ref a_thing)] = [some (.int p), some (.ref a_thing), none] from rfl]
    refine ⟨_, (pss_one (ps_ret (pe_and (x_isi K rfl T.n_isinstance (by rfl) (pa_cons (pv 1) (pa_cons (x_ty "list" T.n_list (by rfl) (by decide +kernel)) pa_nil))) (pe_one (x_all K rfl rfl T.n_all (by rfl) (pa_cons (pe_lc (own := [("one", 2)]) (g := (gName 2)) (tt := tYes) rfl sc_are_rests.nd (xi_list K rfl (pv 1)) (blkOk_by (N := ["prime", "thing", "one"]) (sc := defScope s_are_rests) (by decide +kernel)) (fun _ _ _ _ _ => (pg_name (i := 2) sc_are_rests.nd rfl (Or.inl rfl))) (fun _ _ _ _ _ => pts_nil) (fun _ _ _ _ _ => (pe_and (pe_call (ok_is_whole T) (hr.mono (by decide)) (by rfl) T.g_is_whole T.F_is_whole.kp T.b_is_whole .nil pass0 (pa_cons (pv 2) pa_nil)) (pe_one (pe_chain op_le op_lt pe_int (pv 2) (pv 0)))))) pa_nil)))))), ?_⟩
    refine s_ret (v := .bl (rs p xs)) ?_ q
    apply ev_is
    walk_at "ev"
    · apply el_lcIb (fun x => decide (0 ≤ x) && decide (x < p)) (by walk_at "ev") (by omega) (fun _ => rfl)
      intro x H1 e hx
      apply ev_is
      walk_at "ev"
      simp
    · simp [rs, List.all_map]
/-! check_row -/
def sp_check_row (K : PySem.W.Frag) : Sp := fun vs H Q _ => ∃ (p : Int) (row : List Int), AgsOk K H [.v (.int p), .l (il row)] vs ∧ (Rs p row ∧ row.length ≤ 2000) ∧ RetV (.non) H Q
theorem ev_check_row {K : PySem.W.Frag} {σ : L2.St} {H : Hp} {E : XK} {ta : TA} {p : Int} {row : List Int} (h : EvAs K ta σ H [.v (.int p), .l (il row)]) (hp : Rs p row ∧ row.length ≤ 2000) : Ev (tCall (sp_check_row K) [] E ta) σ H (.non) := fun H1 e Q q =>
  h H1 e _ fun vs H2 e2 ok => ⟨p, row, by rw [List.append_nil]; exact ok, hp, fun H3 e3 => q H3 (e2.trans e3)⟩
local macro_rules | `(tactic| walk_at "own") => `(tactic| ((with_reducible apply ev_check_row) <;> walk_at "ev"))
theorem ok_check_row (T : Txt K mg) : FnOk P w K mg base CX0 3 T.a_check_row T.f_check_row ["prime", "row"] (sp_check_row K) := by
  refine T.F_check_row.ok sc_check_row (fun vs H Q E h => ?_) (fun cdv A outer s H vs Q E hr h => ?_)
  · obtain ⟨p, row, h, _⟩ := h
    exact h.len
  · obtain ⟨p, row, ⟨_, _, rfl, rfl, _, _, rfl, ⟨a_row, rfl, h_row⟩, rfl⟩, hp, q⟩ := h
    rw [show start ["prime", "row"] [(.int p), (.ref a_row)] = [some (.int p), some (.ref a_row)] from rfl]
    refine ⟨_, (pss_one (ps_if (pt_not (pt_val (pe_call (ok_are_rests T) (hr.mono (by decide)) (by rfl) T.g_are_rests T.F_are_rests.kp T.b_are_rests .nil pass0 (pa_cons (pv 0) (pa_cons (pv 1) pa_nil))))) (pss_one ps_never) pss_nil)), ?_⟩
    refine s_skip (b := false) ?_ rfl fun H1 e1 => q H1 e1
    apply et_is
    walk_at "ev"
    rw [rs_iff.mpr hp.1]
    rfl
/-! inverse -/
def sp_inverse (K : PySem.W.Frag) : Sp := fun vs H Q _ => ∃ (p r : Int), AgsOk K H [.v (.int p), .v (.int r)] vs ∧ (Good p ∧ 1 ≤ r ∧ r < p) ∧ RetV (.int (RR.inverse p r)) H Q
theorem ev_inverse {K : PySem.W.Frag} {σ : L2.St} {H : Hp} {E : XK} {ta : TA} {p r : Int} (h : EvAs K ta σ H [.v (.int p), .v (.int r)]) (hp : Good p ∧ 1 ≤ r ∧ r < p) : Ev (tCall (sp_inverse K) [] E ta) σ H (.int (RR.inverse p r)) := fun H1 e Q q =>
  h H1 e _ fun vs H2 e2 ok => ⟨p, r, by rw [List.append_nil]; exact ok, hp, fun H3 e3 => q H3 (e2.trans e3)⟩
local macro_rules | `(tactic| walk_at "own") => `(tactic| ((with_reducible apply ev_inverse) <;> walk_at "ev"))
theorem ok_inverse (T : Txt K mg) : FnOk P w K mg base CX0 1 T.a_inverse T.f_inverse ["prime", "rest"] (sp_inverse K) := by
  refine T.F_inverse.ok sc_inverse (fun vs H Q E h => ?_) (fun cdv A outer s H vs Q E hr h => ?_)
  · obtain ⟨p, r, h, _⟩ := h
    exact h.len
  · obtain ⟨p, r, ⟨_, _, rfl, rfl, _, _, rfl, rfl, rfl⟩, hp, q⟩ := h
    rw [show start ["prime", "rest", "here", "there", "times"] [(.int p), (.int r)] = [some (.int p), some (.int r), none, none, none] from rfl]
    refine ⟨_, (pss_cons (ps_par (i := 2) (j := 3) (by rfl) sc_inverse.nd rfl rfl (by decide) rfl rfl (pa_cons (pe_tup (pa_cons (pv 0) (pa_cons pe_int pa_nil))) (pa_cons (pe_tup (pa_cons (pv 1) (pa_cons pe_int pa_nil))) pa_nil)) (by rfl))
      (pss_cons (ps_while PassesOwn.never (pt_cmpR op_ne (x_ixT K rfl (pv 3) pe_int (fun _ _ => rfl)) pe_int (nomark _)) (pss_cons (ps_set (i := 4) sc_inverse.nd rfl (.inl rfl) (pe_op op_fdiv (x_ixT K rfl (pv 2) pe_int (fun _ _ => rfl)) (x_ixT K rfl (pv 3) pe_int (fun _ _ => rfl))))
      (pss_one (ps_par (i := 2) (j := 3) (by rfl) sc_inverse.nd rfl rfl (by decide) rfl rfl (pa_cons (pv 3) (pa_cons (pe_tup (pa_cons (pe_op op_sub (x_ixT K rfl (pv 2) pe_int (fun _ _ => rfl)) (pe_op op_mul (pv 4) (x_ixT K rfl (pv 3) pe_int (fun _ _ => rfl)))) (pa_cons (pe_op op_sub (x_ixT K rfl (pv 2) pe_int (fun _ _ => rfl)) (pe_op op_mul (pv 4) (x_ixT K rfl (pv 3) pe_int (fun _ _ => rfl)))) pa_nil))) pa_nil)) (by rfl)))))
      (pss_one (ps_ret (pe_op op_mod (x_ixT K rfl (pv 3) pe_int (fun _ _ => rfl)) (pv 0)))))), ?_⟩
    have g1 := hp.1.two
    have g2 := hp.1.most
    have hpp := hp.1.pos
    refine q_parUU (xs := [.int p, .int 0]) (ys := [.int r, .int 1]) (by walk_at "ev") (by walk_at "ev") fun pa pb H1 e1 hpa hpb => ?_
    refine q_while (fun m σ' H' => ∃ (a b c d : Int) (pa pb : Addr) (t : Option V), σ' = [some (.int p), some (.int r), some (.ref pa), some (.ref pb), t] ∧ Ex H H' ∧ H' pa = some (.tup [.int a, .int b]) ∧ H' pb = some (.tup [.int c, .int d]) ∧ InvI p r a b c d ∧ c ≤ m ∧ invF m a b c d = invF p.toNat p 0 r 1)
      p.toNat ⟨p, 0, r, 1, pa, pb, none, rfl, e1, hpa, hpb, invI_start hp.1 hp.2.1 hp.2.2, by omega, rfl⟩ ?_
    rintro m σ' H' ⟨a, b, c, d, pa, pb, t, rfl, e2, ha, hb, inv, hcm, hF⟩
    refine ⟨!decide (c = 1), ?_, fun hc H2 e3 => ?_, fun hc H2 e3 => ?_⟩
    · walk_at "ev"
    · have hc1 : c ≠ 1 := by simpa using hc
      obtain ⟨m, rfl⟩ : ∃ k, m = k + 1 := ⟨m - 1, by have := inv.pos; omega⟩
      have nx := inv.next hc1
      have i1 := inv.pos
      have i2 := inv.le
      have i3 := inv.most
      have t1 : 0 ≤ a / c := Int.ediv_nonneg (by omega) (by omega)
      have t2 : a / c ≤ a := Int.ediv_le_self _ (by omega)
      have ha3 := e3 _ _ ha
      have hb3 := e3 _ _ hb
      refine ⟨fun σ2 H4 => ∃ (a b c d : Int) (pa pb : Addr) (t : Option V), σ2 = [some (.int p), some (.int r), some (.ref pa), some (.ref pb), t] ∧ Ex H H4 ∧ H4 pa = some (.tup [.int a, .int b]) ∧ H4 pb = some (.tup [.int c, .int d]) ∧ InvI p r a b c d ∧ c ≤ m ∧ invF m a b c d = invF p.toNat p 0 r 1, fun σ2 H4 h4 => ⟨m, Nat.lt_succ_self m, h4⟩, ?_⟩
      refine q_asg (i := 4) (v := .int (a / c)) (by walk_at "ev") fun H4 e4 => ?_
      have ha4 := e4 _ _ ha3
      have hb4 := e4 _ _ hb3
      refine s_parVU (x := .ref pb) (ys := [.int (a - a / c * c), .int (b - a / c * d)]) (by walk_at "ev") (by walk_at "ev") fun pn H5 e5 h5 => ?_
      refine ⟨c, d, a - a / c * c, b - a / c * d, pb, pn, some (.int (a / c)), rfl, ((e2.trans e3).trans e4).trans e5, e5 _ _ hb4, h5, nx.1, by have := nx.2; omega, ?_⟩
      rw [← hF]
      show _ = if c = 1 then d else _
      rw [if_neg hc1]
    · have hc1 : c = 1 := by simpa using hc
      have hb3 := e3 _ _ hb
      have eF : d = invF p.toNat p 0 r 1 := by
        rw [← hF]
        cases m with
        | zero => rfl
        | succ m =>
          show _ = if c = 1 then d else _
          rw [if_pos hc1]
      refine s_ret (v := .int (RR.inverse p r)) ?_ fun H5 e5 => q H5 ((e2.trans e3).trans e5)
      apply ev_is
      walk_at "ev"
      rw [eF]
      rfl
/-! due_at -/
def sp_due_at (K : PySem.W.Frag) : Sp := fun vs H Q _ => ∃ (p : Int) (rule row : List Int) (n : Int), AgsOk K H [.v (.int p), .l (il rule), .l (il row), .v (.int n)] vs ∧ (Good p ∧ Rs p rule ∧ rule.length ≤ n ∧ n ≤ row.length ∧ row.length ≤ 2000) ∧ RetV (.int (due p rule row n.toNat)) H Q
theorem ev_due_at {K : PySem.W.Frag} {σ : L2.St} {H : Hp} {E : XK} {ta : TA} {p : Int} {rule row : List Int} {n : Int} (h : EvAs K ta σ H [.v (.int p), .l (il rule), .l (il row), .v (.int n)]) (hp : Good p ∧ Rs p rule ∧ rule.length ≤ n ∧ n ≤ row.length ∧ row.length ≤ 2000) : Ev (tCall (sp_due_at K) [] E ta) σ H (.int (due p rule row n.toNat)) := fun H1 e Q q =>
  h H1 e _ fun vs H2 e2 ok => ⟨p, rule, row, n, by rw [List.append_nil]; exact ok, hp, fun H3 e3 => q H3 (e2.trans e3)⟩
local macro_rules | `(tactic| walk_at "own") => `(tactic| ((with_reducible apply ev_due_at) <;> walk_at "ev"))
theorem ok_due_at (T : Txt K mg) : FnOk P w K mg base CX0 1 T.a_due_at T.f_due_at ["prime", "rule", "row", "place"] (sp_due_at K) := by
  refine T.F_due_at.ok sc_due_at (fun vs H Q E h => ?_) (fun cdv A outer s H vs Q E hr h => ?_)
  · obtain ⟨p, rule, row, n, h, _⟩ := h
    exact h.len
  · obtain ⟨p, rule, row, n, ⟨_, _, rfl, rfl, _, _, rfl, ⟨a_rule, rfl, h_rule⟩, _, _, rfl, ⟨a_row, rfl, h_row⟩, _, _, rfl, rfl, rfl⟩, hp, q⟩ := h
    rw [show start ["prime", "rule", "row", "place", "k", "rest"] [(.int p), (.ref a_rule), (.ref a_row), (.int n)] = [some (.int p), some (.ref a_rule), some (.ref a_row), some (.int n), none, none] from rfl]
    refine ⟨_, (pss_one (ps_ret (pe_op op_mod (x_sum K rfl rfl T.n_sum (by rfl) (pa_cons (pe_lc (own := [("k", 4), ("rest", 5)]) (g := (gTup K 2 (gCons (gName 4) (gCons (gName 5) gNil)))) (tt := tYes) rfl sc_due_at.nd (xi_enum K rfl T.n_enumerate (by rfl) (pa_cons (pv 1) pa_nil)) (blkOk_by (N := ["prime", "rule", "row", "place", "k", "rest"]) (sc := defScope s_due_at) (by decide +kernel)) (fun _ _ _ _ _ => (xg_tup K rfl 2 rfl (pgs_cons (pg_name (i := 4) sc_due_at.nd rfl (Or.inl rfl)) (pgs_cons (pg_name (i := 5) sc_due_at.nd rfl (Or.inl rfl)) pgs_nil)))) (fun _ _ _ _ _ => pts_nil) (fun _ _ _ _ _ => (pe_op op_mul (pv 5) (x_ixL K rfl (pv 2) (pe_op op_sub (pe_op op_sub (pv 3) pe_int) (pv 4)) (fun _ _ => rfl))))) pa_nil)) (pv 0)))), ?_⟩
    obtain ⟨hp, hr2, h1, h2, h3⟩ := hp
    have g1 := hp.two
    have g2 := hp.most
    refine s_ret (v := .int (due p rule row n.toNat)) ?_ q
    apply ev_is
    walk_at "ev"
    · apply el_lcEi (fun i => g rule i * g row (n.toNat - 1 - i)) (by walk_at "ev") (by omega) (fun _ _ => rfl)
      intro i H1 e hi
      have h_row := ex_l e h_row
      have b1 := hr2.g hp.pos i
      apply ev_is
      walk_at "ev"
      rw [show (n - 1 - (i : Int)).toNat = n.toNat - 1 - i by omega]
    · rw [S_range]
      rfl
/-! makes_all -/
def sp_makes_all (K : PySem.W.Frag) : Sp := fun vs H Q _ => ∃ (p : Int) (rule row : List Int), AgsOk K H [.v (.int p), .l (il rule), .l (il row)] vs ∧ (Good p ∧ Rs p rule ∧ rule.length ≤ 2000 ∧ row.length ≤ 2000) ∧ RetV (.bl (makesAll p rule row)) H Q
theorem ev_makes_all {K : PySem.W.Frag} {σ : L2.St} {H : Hp} {E : XK} {ta : TA} {p : Int} {rule row : List Int} (h : EvAs K ta σ H [.v (.int p), .l (il rule), .l (il row)]) (hp : Good p ∧ Rs p rule ∧ rule.length ≤ 2000 ∧ row.length ≤ 2000) : Ev (tCall (sp_makes_all K) [] E ta) σ H (.bl (makesAll p rule row)) := fun H1 e Q q =>
  h H1 e _ fun vs H2 e2 ok => ⟨p, rule, row, by rw [List.append_nil]; exact ok, hp, fun H3 e3 => q H3 (e2.trans e3)⟩
local macro_rules | `(tactic| walk_at "own") => `(tactic| ((with_reducible apply ev_makes_all) <;> walk_at "ev"))
theorem ok_makes_all (T : Txt K mg) : FnOk P w K mg base CX0 2 T.a_makes_all T.f_makes_all ["prime", "rule", "row"] (sp_makes_all K) := by
  refine T.F_makes_all.ok sc_makes_all (fun vs H Q E h => ?_) (fun cdv A outer s H vs Q E hr h => ?_)
  · obtain ⟨p, rule, row, h, _⟩ := h
    exact h.len
  · obtain ⟨p, rule, row, ⟨_, _, rfl, rfl, _, _, rfl, ⟨a_rule, rfl, h_rule⟩, _, _, rfl, ⟨a_row, rfl, h_row⟩, rfl⟩, hp, q⟩ := h
    rw [show start ["prime", "rule", "row", "place"] [(.int p), (.ref a_rule), (.ref a_row)] = [some (.int p), some (.ref a_rule), some (.ref a_row), none] from rfl]
    refine ⟨_, (pss_one (ps_ret (x_all K rfl rfl T.n_all (by rfl) (pa_cons (pe_lc (own := [("place", 3)]) (g := (gName 3)) (tt := tYes) rfl sc_makes_all.nd (pi_range2 (by rfl) T.n_range (pa_cons (x_len K rfl T.n_len (by rfl) (pa_cons (pv 1) pa_nil)) (pa_cons (x_len K rfl T.n_len (by rfl) (pa_cons (pv 2) pa_nil)) pa_nil))) (blkOk_by (N := ["prime", "rule", "row", "place"]) (sc := defScope s_makes_all) (by decide +kernel)) (fun _ _ _ _ _ => (pg_name (i := 3) sc_makes_all.nd rfl (Or.inl rfl))) (fun _ _ _ _ _ => pts_nil) (fun _ _ _ _ _ => (pe_cmpR op_eq (x_ixL K rfl (pv 2) (pv 3) (fun _ _ => rfl)) (pe_call (ok_due_at T) (hr.mono (by decide)) (by rfl) T.g_due_at T.F_due_at.kp T.b_due_at .nil pass0 (pa_cons (pv 0) (pa_cons (pv 1) (pa_cons (pv 2) (pa_cons (pv 3) pa_nil))))) (nomark _)))) pa_nil)))), ?_⟩
    obtain ⟨hp, hr2, h1, h2⟩ := hp
    refine s_ret (v := .bl (makesAll p rule row)) ?_ q
    apply ev_is
    walk_at "ev"
    · apply el_lcRb (lo := (rule.length : Int)) (hi := (row.length : Int)) (fun i => decide (g row (rule.length + i) = due p rule row (rule.length + i))) (by walk_at "ev") (by omega) (by omega) (fun _ => rfl)
      intro i H1 e hi
      have h_row := ex_l e h_row
      have h_rule := ex_l e h_rule
      apply ev_is
      walk_at "ev"
      · exact ⟨hp, hr2, by omega, by omega, by omega⟩
      · rw [show ((rule.length : Int) + (i : Int)).toNat = rule.length + i by omega]
    · unfold makesAll
      rw [List.all_map, show ((row.length : Int) - (rule.length : Int)).toNat = row.length - rule.length by omega]
      rfl
/-! turned -/
def sp_turned (K : PySem.W.Frag) : Sp := fun vs H Q _ => ∃ (p : Int) (rule : List Int), AgsOk K H [.v (.int p), .l (il rule)] vs ∧ (Good p ∧ rule.length ≤ 2000) ∧ RetL (il (RR.turned p rule)) H Q
theorem el_turned {K : PySem.W.Frag} {σ : L2.St} {H : Hp} {E : XK} {ta : TA} {p : Int} {rule : List Int} (h : EvAs K ta σ H [.v (.int p), .l (il rule)]) (hp : Good p ∧ rule.length ≤ 2000) : EvL (tCall (sp_turned K) [] E ta) σ H (il (RR.turned p rule)) := fun H1 e Q q =>
  h H1 e _ fun vs H2 e2 ok => ⟨p, rule, by rw [List.append_nil]; exact ok, hp, fun p H3 hn e3 h3 => q p H3 (fresh_back e2 hn) (e2.trans e3) h3⟩
local macro_rules | `(tactic| walk_at "own") => `(tactic| ((with_reducible apply el_turned) <;> walk_at "ev"))
theorem ok_turned (T : Txt K mg) : FnOk P w K mg base CX0 1 T.a_turned T.f_turned ["prime", "rule"] (sp_turned K) := by
  refine T.F_turned.ok sc_turned (fun vs H Q E h => ?_) (fun cdv A outer s H vs Q E hr h => ?_)
  · obtain ⟨p, rule, h, _⟩ := h
    exact h.len
  · obtain ⟨p, rule, ⟨_, _, rfl, rfl, _, _, rfl, ⟨a_rule, rfl, h_rule⟩, rfl⟩, hp, q⟩ := h
    rw [show start ["prime", "rule", "rest"] [(.int p), (.ref a_rule)] = [some (.int p), some (.ref a_rule), none] from rfl]
    refine ⟨_, (pss_one (ps_ret (pe_op op_cat (pe_lst (pa_cons pe_int pa_nil)) (pe_lc (own := [("rest", 2)]) (g := (gName 2)) (tt := tYes) rfl sc_turned.nd (xi_list K rfl (pv 1)) (blkOk_by (N := ["prime", "rule", "rest"]) (sc := defScope s_turned) (by decide +kernel)) (fun _ _ _ _ _ => (pg_name (i := 2) sc_turned.nd rfl (Or.inl rfl))) (fun _ _ _ _ _ => pts_nil) (fun _ _ _ _ _ => (pe_op op_mod (pe_un un_neg (pv 2)) (pv 0))))))), ?_⟩
    obtain ⟨hp, h1⟩ := hp
    have g1 := hp.two
    refine s_retL (xs := il (RR.turned p rule)) ?_ q
    apply el_is
    walk_at "ev"
    · apply el_lcIi (fun r => (-r) % p) (by walk_at "ev") (by omega) (fun _ => rfl)
      intro x H1 e hx
      walk_at "ev"
    · simp
      omega
    · rfl
/-! told_back -/
def sp_told_back (K : PySem.W.Frag) : Sp := fun vs H Q _ => ∃ (p : Int) (rests : List Int), AgsOk K H [.v (.int p), .l (il rests)] vs ∧ (Good p ∧ rests.length ≤ 2000) ∧ RetL (il (toldBack p rests)) H Q
theorem el_told_back {K : PySem.W.Frag} {σ : L2.St} {H : Hp} {E : XK} {ta : TA} {p : Int} {rests : List Int} (h : EvAs K ta σ H [.v (.int p), .l (il rests)]) (hp : Good p ∧ rests.length ≤ 2000) : EvL (tCall (sp_told_back K) [] E ta) σ H (il (toldBack p rests)) := fun H1 e Q q =>
  h H1 e _ fun vs H2 e2 ok => ⟨p, rests, by rw [List.append_nil]; exact ok, hp, fun p H3 hn e3 h3 => q p H3 (fresh_back e2 hn) (e2.trans e3) h3⟩
local macro_rules | `(tactic| walk_at "own") => `(tactic| ((with_reducible apply el_told_back) <;> walk_at "ev"))
theorem ok_told_back (T : Txt K mg) : FnOk P w K mg base CX0 1 T.a_told_back T.f_told_back ["prime", "rests"] (sp_told_back K) := by
  refine T.F_told_back.ok sc_told_back (fun vs H Q E h => ?_) (fun cdv A outer s H vs Q E hr h => ?_)
  · obtain ⟨p, rests, h, _⟩ := h
    exact h.len
  · obtain ⟨p, rests, ⟨_, _, rfl, rfl, _, _, rfl, ⟨a_rests, rfl, h_rests⟩, rfl⟩, hp, q⟩ := h
    rw [show start ["prime", "rests", "rest"] [(.int p), (.ref a_rests)] = [some (.int p), some (.ref a_rests), none] from rfl]
    refine ⟨_, (pss_one (ps_ret (pe_lc (own := [("rest", 2)]) (g := (gName 2)) (tt := tYes) rfl sc_told_back.nd (xi_list K rfl (x_sl K rfl (pv 1) (po_some pe_int) po_none)) (blkOk_by (N := ["prime", "rests", "rest"]) (sc := defScope s_told_back) (by decide +kernel)) (fun _ _ _ _ _ => (pg_name (i := 2) sc_told_back.nd rfl (Or.inl rfl))) (fun _ _ _ _ _ => pts_nil) (fun _ _ _ _ _ => (pe_op op_mod (pe_un un_neg (pv 2)) (pv 0)))))), ?_⟩
    obtain ⟨hp, h1⟩ := hp
    have g1 := hp.two
    refine s_retL (xs := il (toldBack p rests)) ?_ q
    apply el_lcIi (fun r => (-r) % p) (ns := rests.drop 1) ?_ (by simp; omega) (fun _ => rfl)
    · intro x H1 e hx
      walk_at "ev"
    · apply er_is
      walk_at "ev"
      rfl
/-! is_least -/
def sp_is_least (K : PySem.W.Frag) : Sp := fun vs H Q _ => ∃ (p : Int) (row rule shorter : List Int) (place : Int), AgsOk K H [.v (.int p), .l (il row), .l (il rule), .l (il shorter), .v (.int place)] vs ∧ (Good p ∧ row.length ≤ 2000 ∧ rule.length ≤ 2000 ∧ shorter.length ≤ 2000) ∧ RetV (.bl (isLeast p row rule shorter place)) H Q
theorem ev_is_least {K : PySem.W.Frag} {σ : L2.St} {H : Hp} {E : XK} {ta : TA} {p : Int} {row rule shorter : List Int} {place : Int} (h : EvAs K ta σ H [.v (.int p), .l (il row), .l (il rule), .l (il shorter), .v (.int place)]) (hp : Good p ∧ row.length ≤ 2000 ∧ rule.length ≤ 2000 ∧ shorter.length ≤ 2000) : Ev (tCall (sp_is_least K) [] E ta) σ H (.bl (isLeast p row rule shorter place)) := fun H1 e Q q =>
  h H1 e _ fun vs H2 e2 ok => ⟨p, row, rule, shorter, place, by rw [List.append_nil]; exact ok, hp, fun H3 e3 => q H3 (e2.trans e3)⟩
local macro_rules | `(tactic| walk_at "own") => `(tactic| ((with_reducible apply ev_is_least) <;> walk_at "ev"))
theorem ok_is_least (T : Txt K mg) : FnOk P w K mg base CX0 3 T.a_is_least T.f_is_least ["prime", "row", "rule", "shorter", "place"] (sp_is_least K) := by
  refine T.F_is_least.ok sc_is_least (fun vs H Q E h => ?_) (fun cdv A outer s H vs Q E hr h => ?_)
  · obtain ⟨p, row, rule, shorter, place, h, _⟩ := h
    exact h.len
  · obtain ⟨p, row, rule, shorter, place, ⟨_, _, rfl, rfl, _, _, rfl, ⟨a_row, rfl, h_row⟩, _, _, rfl, ⟨a_rule, rfl, h_rule⟩, _, _, rfl, ⟨a_shorter, rfl, h_shorter⟩, _, _, rfl, rfl, rfl⟩, hp, q⟩ := h
    rw [show start ["prime", "row", "rule", "shorter", "place"] [(.int p), (.ref a_row), (.ref a_rule), (.ref a_shorter), (.int place)] = [some (.int p), some (.ref a_row), some (.ref a_rule), some (.ref a_shorter), some (.int place)] from rfl]
    refine ⟨_, (pss_cons (ps_if (PW.pt (pw_or (pt_not (pt_val (pe_call (ok_are_rests T) (hr.mono (by decide)) (by rfl) T.g_are_rests T.F_are_rests.kp T.b_are_rests .nil pass0 (pa_cons (pv 0) (pa_cons (pv 2) pa_nil))))) (pw_or (pt_not (pt_val (pe_call (ok_are_rests T) (hr.mono (by decide)) (by rfl) T.g_are_rests T.F_are_rests.kp T.b_are_rests .nil pass0 (pa_cons (pv 0) (pa_cons (pv 3) pa_nil))))) (pw_or1 (pt_not (pt_val (pe_call (ok_makes_all T) (hr.mono (by decide)) (by rfl) T.g_makes_all T.F_makes_all.kp T.b_makes_all .nil pass0 (pa_cons (pv 0) (pa_cons (pv 2) (pa_cons (pv 1) pa_nil)))))))))) (pss_one (ps_ret pe_bl)) pss_nil)
      (pss_cons (ps_if (pt_cmpR op_eq (x_len K rfl T.n_len (by rfl) (pa_cons (pv 2) pa_nil)) pe_int (nomark _)) (pss_one (ps_ret (pe_and (pe_cmpR op_eq (x_len K rfl T.n_len (by rfl) (pa_cons (pv 3) pa_nil)) pe_int (nomark _)) (pe_one (pe_cmpR op_eq (pv 4) (pe_un un_neg pe_int) (nomark _)))))) pss_nil)
      (pss_cons (ps_if (PW.pt (pw_or (pt_not (pt_chain op_le op_lt (x_len K rfl T.n_len (by rfl) (pa_cons (pv 3) pa_nil)) (pv 4) (x_len K rfl T.n_len (by rfl) (pa_cons (pv 1) pa_nil)))) (pw_or (pt_cmpR op_ne (pe_op op_add (x_len K rfl T.n_len (by rfl) (pa_cons (pv 2) pa_nil)) (x_len K rfl T.n_len (by rfl) (pa_cons (pv 3) pa_nil))) (pe_op op_add (pv 4) pe_int) (nomark _)) (pw_or1 (pt_cmpR op_ge (x_len K rfl T.n_len (by rfl) (pa_cons (pv 3) pa_nil)) (x_len K rfl T.n_len (by rfl) (pa_cons (pv 2) pa_nil)) (nomark _)))))) (pss_one (ps_ret pe_bl)) pss_nil)
      (pss_one (ps_ret (pe_and (pe_call (ok_makes_all T) (hr.mono (by decide)) (by rfl) T.g_makes_all T.F_makes_all.kp T.b_makes_all .nil pass0 (pa_cons (pv 0) (pa_cons (pv 3) (pa_cons (x_sl K rfl (pv 1) po_none (po_some (pv 4))) pa_nil)))) (pe_one (pe_cmpR op_ne (x_ixL K rfl (pv 1) (pv 4) (fun _ _ => rfl)) (pe_call (ok_due_at T) (hr.mono (by decide)) (by rfl) T.g_due_at T.F_due_at.kp T.b_due_at .nil pass0 (pa_cons (pv 0) (pa_cons (pv 3) (pa_cons (pv 1) (pa_cons (pv 4) pa_nil))))) (nomark _))))))))), ?_⟩
    obtain ⟨hp, h1, h2, h3⟩ := hp
    refine q_when (b := !(rs p rule) || (!(rs p shorter) || !(makesAll p rule row))) ?_ (fun c H1 e1 => ?_) (fun c H1 e1 => ?_)
    · walk_at "ev"
      exact ⟨hp, rs_iff.mp (by assumption), h2, h1⟩
    · refine s_ret (v := .bl (isLeast p row rule shorter place)) ?_ fun H2 e2 => q H2 (e1.trans e2)
      apply ev_is
      walk_at "ev"
      unfold isLeast
      rw [if_pos c]
    have c2 := c
    simp only [Bool.or_eq_false_iff, Bool.not_eq_false'] at c2
    obtain ⟨c2, c3, c4⟩ := c2
    have hk : Has K H1 [(a_row, il row), (a_rule, il rule), (a_shorter, il shorter)] := .cons (ex_l e1 h_row) (.cons (ex_l e1 h_rule) (.cons (ex_l e1 h_shorter) .nil))
    refine q_when (b := decide ((rule.length : Int) = 0)) (by walk_at "ev") (fun d H2 e2 => ?_) (fun d H2 e2 => ?_)
    · have hk := hk.up e2
      refine s_ret (v := .bl (isLeast p row rule shorter place)) ?_ fun H3 e3 => q H3 ((e1.trans e2).trans e3)
      apply ev_is
      walk_at "ev"
      unfold isLeast
      rw [if_neg (by rw [c]; decide), if_pos d]
    have hk := hk.up e2
    refine q_when (b := !(decide ((shorter.length : Int) ≤ place) && decide (place < (row.length : Int))) || (!(decide ((rule.length : Int) + (shorter.length : Int) = place + 1)) || decide ((rule.length : Int) ≤ (shorter.length : Int)))) (by walk_at "ev") (fun f H3 e3 => ?_) (fun f H3 e3 => ?_)
    · refine s_ret (v := .bl (isLeast p row rule shorter place)) ?_ fun H4 e4 => q H4 (((e1.trans e2).trans e3).trans e4)
      apply ev_is
      walk_at "ev"
      unfold isLeast
      rw [if_neg (by rw [c]; decide), if_neg (by rw [d]; decide), if_pos f]
    have hk := hk.up e3
    have f2 := f
    simp only [Bool.or_eq_false_iff, Bool.not_eq_false', Bool.and_eq_true, decide_eq_true_eq, decide_eq_false_iff_not] at f2
    refine s_ret (v := .bl (isLeast p row rule shorter place)) ?_ fun H4 e4 => q H4 (((e1.trans e2).trans e3).trans e4)
    apply ev_is
    walk_at "ev"
    · exact ⟨hp, rs_iff.mp c3, h3, by simp; omega⟩
    · exact ⟨hp, rs_iff.mp c3, by omega, by omega, h1⟩
    · unfold isLeast
      rw [if_neg (by rw [c]; decide), if_neg (by rw [d]; decide), if_neg (by rw [f]; decide)]
/-! taken_off -/
def sp_taken_off (K : PySem.W.Frag) : Sp := fun vs H Q _ => ∃ (p : Int) (one other : List Int) (b ah len : Int), AgsOk K H [.v (.int p), .m (il one), .l (il other), .v (.int b), .v (.int ah), .v (.int len)] vs ∧ (Good p ∧ 0 ≤ b ∧ b < p ∧ 0 ≤ ah ∧ 0 ≤ len ∧ len ≤ 2000 ∧ one.length ≤ len + 1 ∧ ah + other.length ≤ len + 1) ∧ RetL (il (takenOff p one other b ah.toNat len.toNat)) H Q
theorem el_taken_off {K : PySem.W.Frag} {σ : L2.St} {H : Hp} {E : XK} {ta : TA} {p : Int} {one other : List Int} {b ah len : Int} (h : EvAs K ta σ H [.v (.int p), .m (il one), .l (il other), .v (.int b), .v (.int ah), .v (.int len)]) (hp : Good p ∧ 0 ≤ b ∧ b < p ∧ 0 ≤ ah ∧ 0 ≤ len ∧ len ≤ 2000 ∧ one.length ≤ len + 1 ∧ ah + other.length ≤ len + 1) : EvL (tCall (sp_taken_off K) [] E ta) σ H (il (takenOff p one other b ah.toNat len.toNat)) := fun H1 e Q q =>
  h H1 e _ fun vs H2 e2 ok => ⟨p, one, other, b, ah, len, by rw [List.append_nil]; exact ok, hp, fun p H3 hn e3 h3 => q p H3 (fresh_back e2 hn) (e2.trans e3) h3⟩
local macro_rules | `(tactic| walk_at "own") => `(tactic| ((with_reducible apply el_taken_off) <;> walk_at "ev"))
theorem ok_taken_off (T : Txt K mg) : FnOk P w K mg base CX0 1 T.a_taken_off T.f_taken_off ["prime", "one", "other", "by", "ahead", "length"] (sp_taken_off K) := by
  refine T.F_taken_off.ok sc_taken_off (fun vs H Q E h => ?_) (fun cdv A outer s H vs Q E hr h => ?_)
  · obtain ⟨p, one, other, b, ah, len, h, _⟩ := h
    exact h.len
  · obtain ⟨p, one, other, b, ah, len, ⟨_, _, rfl, rfl, _, _, rfl, ⟨a_one, rfl, h_one⟩, _, _, rfl, ⟨a_other, rfl, h_other⟩, _, _, rfl, rfl, _, _, rfl, rfl, _, _, rfl, rfl, rfl⟩, hp, q⟩ := h
    rw [show start ["prime", "one", "other", "by", "ahead", "length", "found", "k", "rest"] [(.int p), (.ref a_one), (.ref a_other), (.int b), (.int ah), (.int len)] = [some (.int p), some (.ref a_one), some (.ref a_other), some (.int b), some (.int ah), some (.int len), none, none, none] from rfl]
    refine ⟨_, (pss_cons (ps_set (i := 6) sc_taken_off.nd rfl (.inl rfl) (pe_op op_cat (pv 1) (pe_op op_rep (pe_lst (pa_cons pe_int pa_nil)) (pe_op op_sub (pe_op op_add (pv 5) pe_int) (x_len K rfl T.n_len (by rfl) (pa_cons (pv 1) pa_nil))))))
      (pss_cons (ps_for PassesOwn.never rfl (xi_enum K rfl T.n_enumerate (by rfl) (pa_cons (pv 2) pa_nil)) (xg_tup K rfl 2 rfl (pgs_cons (pg_name (i := 7) sc_taken_off.nd rfl (.inl rfl)) (pgs_cons (pg_name (i := 8) sc_taken_off.nd rfl (.inl rfl)) pgs_nil))) (pss_one (ps_if (pt_cmpR op_ne (pv 8) pe_int (nomark _)) (pss_one (ps_asg (pe_op op_mod (pe_op op_sub (x_ixL K rfl (pv 6) (pe_op op_add (pv 7) (pv 4)) (fun _ _ => rfl)) (pe_op op_mul (pv 3) (pv 8))) (pv 0)) (pg_sub (pv 6) (pe_op op_add (pv 7) (pv 4)) set_list))) pss_nil)))
      (pss_one (ps_ret (pv 6))))), ?_⟩
    obtain ⟨hp, b1, b2, h1, h2, h3, h4, h5⟩ := hp
    have g1 := hp.two
    have g2 := hp.most
    refine q_asgL (i := 6) (xs := il (offStep p one other b ah.toNat len.toNat 0)) ?_ fun f H1 nf e1 hf => ?_
    · apply el_is
      walk_at "ev"
      · simp
        omega
      · rw [show (len + 1 - (one.length : Int)).toNat = len.toNat + 1 - one.length by omega, offStep_zero (by omega)]
    refine q_forE (k := 7) (l := 8) (a := a_other) (ns := other) (by walk_at "ev") (ex_l e1 h_other) (fun i σ' H' => ∃ x7 x8, σ' = [some (.int p), some (.ref a_one), some (.ref a_other), some (.int b), some (.int ah), some (.int len), some (.ref f), x7, x8] ∧ Ex H H' ∧ H' f = some (.lst (il (offStep p one other b ah.toNat len.toNat i))))
      (fun H2 e2 => ⟨none, none, rfl, e1.trans e2, e2 _ _ hf⟩) (fun i σ' H' _ ⟨_, _, _, e, _⟩ => ex_l e h_other) ?_ ?_
    · rintro i σ' H' H'' hi ⟨x7, x8, rfl, e2, hf2⟩ e3
      have hf3 := e3 _ _ hf2
      have e23 := e2.trans e3
      have hlo := offStep_len p one other b ah.toNat len.toNat i
      refine s_when (b := !decide (g other i = 0)) (by walk_at "ev") (fun c H3 e4 => ?_) (fun c H3 e4 => ?_)
      · have hf4 := e4 _ _ hf3
        have c0 : g other i ≠ 0 := by simpa using c
        refine s_setI (n := (g (offStep p one other b ah.toNat len.toNat i) (i + ah.toNat) - b * g other i) % p) (i := (i : Int) + ah) hf4 ?_ (by walk_at "ev") (by walk_at "ev") (by omega) fun H4 e5 => ?_
        · apply ev_is
          walk_at "ev"
          rw [show ((i : Int) + ah).toNat = i + ah.toNat by omega]
        · refine ⟨_, _, rfl, Ex.mut ((e23.trans e4).trans e5) nf, ?_⟩
          rw [upd_same, show ((i : Int) + ah).toNat = i + ah.toNat by omega, offStep_next (by omega) c0]
      · have c0 : g other i = 0 := by simpa using c
        refine ⟨_, _, rfl, e23.trans e4, ?_⟩
        rw [← offStep_same c0]
        exact e4 _ _ hf3
    · rintro σ' H' ⟨x7, x8, rfl, e2, hf2⟩
      refine tRet_ref (p := f) rfl ?_
      exact q f H' nf e2 hf2
/-! shortest -/
def sp_shortest (K : PySem.W.Frag) : Sp := fun vs H Q _ => ∃ (p : Int) (row : List Int), AgsOk K H [.v (.int p), .l (il row)] vs ∧ (Good p ∧ row.length ≤ 1000) ∧
  ∀ (t r s : Addr) (H2 : Hp), Ex H H2 → H r = none → H s = none → r ≠ s → H2 t = some (.tup [.ref r, .ref s, .int (RR.shortest p row).place, .int (RR.shortest p row).miss]) → H2 r = some (.lst (il (RR.shortest p row).rule)) → H2 s = some (.lst (il (RR.shortest p row).shorter)) → Q (.ref t) H2
theorem q_shortest {K : PySem.W.Frag} {σ : L2.St} {H : Hp} {E : XK} {ta : TA} {p : Int} {row : List Int} {D : Ends} {tz : TS} {i j k l : Nat} (h : EvAs K ta σ H [.v (.int p), .l (il row)]) (hp : Good p ∧ row.length ≤ 1000)
    (q : ∀ r s H2, Ex H H2 → H r = none → H s = none → r ≠ s → H2 r = some (.lst (il (RR.shortest p row).rule)) → H2 s = some (.lst (il (RR.shortest p row).shorter)) →
      tz D ((((σ.set i (some (.ref r))).set j (some (.ref s))).set k (some (.int (RR.shortest p row).place))).set l (some (.int (RR.shortest p row).miss))) H2) :
    tSeq (tAsg (tCall (sp_shortest K) [] E ta) (gTup K 4 (gCons (gName i) (gCons (gName j) (gCons (gName k) (gCons (gName l) gNil)))))) tz D σ H :=
  h H (Ex.refl H) _ fun vs H1 e1 ok => ⟨p, row, by rw [List.append_nil]; exact ok, hp, fun t r s H2 e2 nr ns ne ht hr hs =>
    ⟨t, _, rfl, st_of ht, rfl, _, _, rfl, _, _, rfl, _, _, rfl, _, _, rfl, rfl, q r s H2 (e1.trans e2) (fresh_back e1 nr) (fresh_back e1 ns) ne hr hs⟩⟩
theorem ok_shortest (T : Txt K mg) : FnOk P w K mg base CX0 2 T.a_shortest T.f_shortest ["prime", "row"] (sp_shortest K) := by
  refine T.F_shortest.ok sc_shortest (fun vs H Q E h => ?_) (fun cdv A outer s H vs Q E hr h => ?_)
  · obtain ⟨p, row, h, _⟩ := h
    exact h.len
  · obtain ⟨p, row, ⟨_, _, rfl, rfl, _, _, rfl, ⟨a_row, rfl, h_row⟩, rfl⟩, ⟨hp, hlen⟩, q⟩ := h
    rw [show start ["prime", "row", "rule", "shorter", "place", "miss", "at", "number", "gap", "by", "length", "rests"] [.int p, .ref a_row] = [some (.int p), some (.ref a_row), none, none, none, none, none, none, none, none, none, none] from rfl]
    refine ⟨_, (pss_cons (ps_set (i := 2) sc_shortest.nd rfl (.inl rfl) (pe_lst pa_nil))
      (pss_cons (ps_par3 (i := 3) (j := 4) (l := 5) (by rfl) sc_shortest.nd rfl rfl rfl (by decide) (by decide) (by decide) rfl rfl rfl (pa_cons (pe_lst pa_nil) (pa_cons (pe_un un_neg pe_int) (pa_cons pe_int pa_nil))) (by rfl))
      (pss_cons (ps_for PassesOwn.never rfl (xi_enum K rfl T.n_enumerate (by rfl) (pa_cons (pv 1) pa_nil)) (xg_tup K rfl 2 rfl (pgs_cons (pg_name (i := 6) sc_shortest.nd rfl (.inl rfl)) (pgs_cons (pg_name (i := 7) sc_shortest.nd rfl (.inl rfl)) pgs_nil))) (pss_one (ps_if (pt_cmpR op_ge (pv 6) (x_len K rfl T.n_len (by rfl) (pa_cons (pv 2) pa_nil)) (nomark _)) (pss_cons (ps_set (i := 8) sc_shortest.nd rfl (.inl rfl) (pe_op op_mod (pe_op op_sub (pv 7) (pe_call (ok_due_at T) (hr.mono (by decide)) (by rfl) T.g_due_at T.F_due_at.kp T.b_due_at .nil pass0 (pa_cons (pv 0) (pa_cons (pv 2) (pa_cons (pv 1) (pa_cons (pv 6) pa_nil)))))) (pv 0)))
      (pss_one (ps_if (pt_cmpR op_ne (pv 8) pe_int (nomark _)) (pss_cons (ps_set (i := 9) sc_shortest.nd rfl (.inl rfl) (pe_op op_mod (pe_op op_mul (pv 8) (pe_call (ok_inverse T) (hr.mono (by decide)) (by rfl) T.g_inverse T.F_inverse.kp T.b_inverse .nil pass0 (pa_cons (pv 0) (pa_cons (pv 5) pa_nil)))) (pv 0)))
      (pss_cons (ps_set (i := 10) sc_shortest.nd rfl (.inl rfl) (x_max2 rfl T.n_max (by rfl) (pa_cons (x_len K rfl T.n_len (by rfl) (pa_cons (pv 2) pa_nil)) (pa_cons (pe_op op_sub (pe_op op_add (pv 6) pe_int) (x_len K rfl T.n_len (by rfl) (pa_cons (pv 2) pa_nil))) pa_nil))))
      (pss_cons (ps_set (i := 11) sc_shortest.nd rfl (.inl rfl) (pe_call (ok_taken_off T) (hr.mono (by decide)) (by rfl) T.g_taken_off T.F_taken_off.kp T.b_taken_off .nil pass0 (pa_cons (pv 0) (pa_cons (pe_call (ok_turned T) (hr.mono (by decide)) (by rfl) T.g_turned T.F_turned.kp T.b_turned .nil pass0 (pa_cons (pv 0) (pa_cons (pv 2) pa_nil))) (pa_cons (pe_call (ok_turned T) (hr.mono (by decide)) (by rfl) T.g_turned T.F_turned.kp T.b_turned .nil pass0 (pa_cons (pv 0) (pa_cons (pv 3) pa_nil))) (pa_cons (pv 9) (pa_cons (pe_op op_sub (pv 6) (pv 4)) (pa_cons (pv 10) pa_nil))))))))
      (pss_cons (ps_if (pt_cmpR op_gt (pv 10) (x_len K rfl T.n_len (by rfl) (pa_cons (pv 2) pa_nil)) (nomark _)) (pss_one (ps_par3 (i := 3) (j := 4) (l := 5) (by rfl) sc_shortest.nd rfl rfl rfl (by decide) (by decide) (by decide) rfl rfl rfl (pa_cons (pv 2) (pa_cons (pv 6) (pa_cons (pv 8) pa_nil))) (by rfl))) pss_nil)
      (pss_one (ps_set (i := 2) sc_shortest.nd rfl (.inl rfl) (pe_call (ok_told_back T) (hr.mono (by decide)) (by rfl) T.g_told_back T.F_told_back.kp T.b_told_back .nil pass0 (pa_cons (pv 0) (pa_cons (pv 11) pa_nil))))))))) pss_nil))) pss_nil)))
      (pss_one (ps_ret (pe_tup (pa_cons (pv 2) (pa_cons (pv 3) (pa_cons (pv 4) (pa_cons (pv 5) pa_nil)))))))))), ?_⟩
    have g1 := hp.two
    have g2 := hp.most
    refine q_asgL (i := 2) (xs := il []) (by walk_at "ev") fun ar H1 nar e1 har => ?_
    refine q_par3L (xs := il []) (y := .int (-1)) (z := .int 1) (by walk_at "ev") (by walk_at "ev") (by walk_at "ev") fun ash H2 nash e2 hash => ?_
    refine q_forE (k := 6) (l := 7) (a := a_row) (ns := row) (by walk_at "ev") (ex_l (e1.trans e2) h_row) (fun i σ' H' => ∃ r s x6 x7 x8 x9 x10 x11, σ' = [some (.int p), some (.ref a_row), some (.ref r), some (.ref s), some (.int (bm p row i).place), some (.int (bm p row i).miss), x6, x7, x8, x9, x10, x11] ∧
        Ex H H' ∧ H r = none ∧ H s = none ∧ r ≠ s ∧ H' r = some (.lst (il (bm p row i).rule)) ∧ H' s = some (.lst (il (bm p row i).shorter)))
      (fun H3 e3 => ⟨ar, ash, none, none, none, none, none, none, rfl, (e1.trans e2).trans e3, nar, fresh_back e1 nash, ne_of_none har nash, e3 _ _ (e2 _ _ har), e3 _ _ hash⟩) (fun i σ' H' _ ⟨_, _, _, _, _, _, _, _, _, e, _⟩ => ex_l e h_row) ?_ ?_
    · rintro i σ' H' H3 hi ⟨r, s, x6, x7, x8, x9, x10, x11, rfl, e3, nr, ns, nrs, hr', hs'⟩ e4
      have inv := bm_ok hp row i
      have m1 := inv.m1
      have m2 := inv.m2
      have hsum := inv.sum
      have hle := inv.len
      have hpl : (bm p row i).place ≥ -1 ∧ (bm p row i).place < i := by
        rcases inv.shape with ⟨w, _, _⟩ | ⟨w, w2, w3, _⟩ <;> omega
      have bs : bm p row (i + 1) = bmStep p row (bm p row i) i := rfl
      have hr3 := e4 _ _ hr'
      have hs3 := e4 _ _ hs'
      have e34 := e3.trans e4
      have hrow3 := ex_l e34 h_row
      obtain ⟨S, hS⟩ : ∃ S, bm p row i = S := ⟨_, rfl⟩
      rw [hS] at inv m1 m2 hsum hle hpl bs hr3 hs3
      simp only [hS]
      refine s_when (b := decide ((S.rule.length : Int) ≤ (i : Int))) (by walk_at "ev") (fun c H4 e5 => ?_) (fun c H4 e5 => ?_)
      · have c1 : S.rule.length ≤ i := by have := of_decide_eq_true c; omega
        have hr4 := e5 _ _ hr3
        have hs4 := e5 _ _ hs3
        have hrow4 := ex_l e5 hrow3
        have gap_ge : 0 ≤ gapAt p row S.rule i := Int.emod_nonneg _ (by omega)
        have gap_lt : gapAt p row S.rule i < p := Int.emod_lt_of_pos _ hp.pos
        refine q_asg (i := 8) (v := .int (gapAt p row S.rule i)) ?_ fun H5 e6 => ?_
        · apply ev_is
          walk_at "ev"
          · exact ⟨hp, inv.rr, by omega, by omega, by omega⟩
          · rfl
        have hr5 := e6 _ _ hr4
        have hs5 := e6 _ _ hs4
        refine s_when (b := !decide (gapAt p row S.rule i = 0)) (by walk_at "ev") (fun d H6 e7 => ?_) (fun d H6 e7 => ?_)
        · have d0 : gapAt p row S.rule i ≠ 0 := by simpa using d
          have hr6 := e7 _ _ hr5
          have hs6 := e7 _ _ hs5
          obtain ⟨by_, hby⟩ : ∃ y, gapAt p row S.rule i * RR.inverse p S.miss % p = y := ⟨_, rfl⟩
          have b1 : 0 ≤ by_ := by rw [← hby]; exact Int.emod_nonneg _ (by omega)
          have b2 : by_ < p := by rw [← hby]; exact Int.emod_lt_of_pos _ hp.pos
          refine q_asg (i := 9) (v := .int by_) ?_ fun H7 e8 => ?_
          · apply ev_is
            walk_at "ev"
            all_goals first | exact ⟨hp, m1, m2⟩ | rw [hby]
          have hr7 := e8 _ _ hr6
          have hs7 := e8 _ _ hs6
          have hlA : lenAt S.rule i = (if (i : Int) + 1 - (S.rule.length : Int) > (S.rule.length : Int) then (i : Int) + 1 - (S.rule.length : Int) else (S.rule.length : Int)) := by
            unfold lenAt
            by_cases w : i + 1 - S.rule.length > S.rule.length
            · rw [if_pos w, if_pos (by omega)]
              omega
            · rw [if_neg w, if_neg (by omega)]
          refine q_asg (i := 10) (v := .int (lenAt S.rule i)) ?_ fun H8 e9 => ?_
          · apply ev_is
            walk_at "ev"
            rw [hlA]
          have hr8 := e9 _ _ hr7
          have hs8 := e9 _ _ hs7
          have hlB : S.rule.length ≤ lenAt S.rule i ∧ i + 1 - S.rule.length ≤ lenAt S.rule i ∧ (lenAt S.rule i = S.rule.length ∨ lenAt S.rule i = i + 1 - S.rule.length) := by
            unfold lenAt
            split <;> omega
          refine q_asgL (i := 11) (xs := il (restsAt p row S i)) ?_ fun art H9 nrt e10 hrt => ?_
          · apply el_is
            have tl1 := turned_len p S.rule
            have tl2 := turned_len p S.shorter
            walk_at "ev"
            all_goals first | exact ⟨hp, by omega⟩ | exact ⟨hp, b1, b2, by omega, by omega, by omega, by omega, by omega⟩ | (unfold restsAt; rw [hby, Int.toNat_natCast])
          have hr9 := e10 _ _ hr8
          have hs9 := e10 _ _ hs8
          have E9 : Ex H H9 := (((((e34.trans e5).trans e6).trans e7).trans e8).trans e9).trans e10
          have hrestL := restsAt_len (p := p) row S i
          refine q_when (b := decide ((S.rule.length : Int) < (lenAt S.rule i : Int))) (by walk_at "ev") (fun w H10 e11 => ?_) (fun w H10 e11 => ?_)
          · have w1 : lenAt S.rule i > S.rule.length := by have := of_decide_eq_true w; omega
            have hr10 := e11 _ _ hr9
            have hs10 := e11 _ _ hs9
            have hrt10 := e11 _ _ hrt
            refine s_par3V (x := .ref r) (y := .int i) (z := .int (gapAt p row S.rule i)) (by walk_at "ev") (by walk_at "ev") (by walk_at "ev") fun H11 e12 => ?_
            have hr11 := e12 _ _ hr10
            have hrt11 := e12 _ _ hrt10
            try dsimp only
            refine s_asgL (i := 2) (xs := il (toldBack p (restsAt p row S i))) ?_ fun an H12 nan e13 han => ?_
            · walk_at "ev"
              all_goals exact ⟨hp, by omega⟩
            · have E : bm p row (i + 1) = ⟨toldBack p (restsAt p row S i), S.rule, i, gapAt p row S.rule i⟩ := by
                rw [bs]; unfold bmStep; rw [if_pos ⟨c1, d0⟩, if_pos w1]
              have E11 := (E9.trans e11).trans e12
              refine ⟨an, r, _, _, _, _, _, _, (by rw [E]; rfl), E11.trans e13, fresh_back E11 nan, nr, (ne_of_none hr11 nan).symm, (by rw [E]; exact han), (by rw [E]; exact e13 _ _ hr11)⟩
          · have w1 : ¬ lenAt S.rule i > S.rule.length := by have := of_decide_eq_false w; omega
            have hs10 := e11 _ _ hs9
            have hrt10 := e11 _ _ hrt
            try dsimp only
            refine s_asgL (i := 2) (xs := il (toldBack p (restsAt p row S i))) ?_ fun an H12 nan e13 han => ?_
            · walk_at "ev"
              all_goals exact ⟨hp, by omega⟩
            · have E : bm p row (i + 1) = ⟨toldBack p (restsAt p row S i), S.shorter, S.place, S.miss⟩ := by
                rw [bs]; unfold bmStep; rw [if_pos ⟨c1, d0⟩, if_neg w1]
              have E11 := E9.trans e11
              refine ⟨an, s, _, _, _, _, _, _, (by rw [E]; rfl), E11.trans e13, fresh_back E11 nan, ns, (ne_of_none hs10 nan).symm, (by rw [E]; exact han), (by rw [E]; exact e13 _ _ hs10)⟩
        · have d0 : gapAt p row S.rule i = 0 := by simpa using d
          have E : bm p row (i + 1) = S := by
            rw [bs]; unfold bmStep; rw [if_neg (fun z => z.2 d0)]
          refine ⟨r, s, _, _, _, _, _, _, (by rw [E]; rfl), ((e34.trans e5).trans e6).trans e7, nr, ns, nrs, (by rw [E]; exact e7 _ _ hr5), (by rw [E]; exact e7 _ _ hs5)⟩
      · have c1 : ¬ S.rule.length ≤ i := by have := of_decide_eq_false c; omega
        have E : bm p row (i + 1) = S := by
          rw [bs]; unfold bmStep; rw [if_neg (fun z => c1 z.1)]
        refine ⟨r, s, _, _, _, _, _, _, (by rw [E]; rfl), e34.trans e5, nr, ns, nrs, (by rw [E]; exact e5 _ _ hr3), (by rw [E]; exact e5 _ _ hs3)⟩
    · rintro σ' H' ⟨r, s, x6, x7, x8, x9, x10, x11, rfl, e3, nr, ns, nrs, hr', hs'⟩
      refine s_retU (xs := [.ref r, .ref s, .int (RR.shortest p row).place, .int (RR.shortest p row).miss]) (by walk_at "ev") fun t H4 nt e4 ht => ?_
      exact q t r s H4 (e3.trans e4) nr ns nrs ht (e4 _ _ hr') (e4 _ _ hs')
/-! Least.__init__ -/
def sp_Least___init__ (K : PySem.W.Frag) (C : Addr) : Sp := fun vs H Q _ => ∃ (x dx : Addr) (rule shorter : List Int) (pl : Int), AgsOk K H [.v (.ref x), .l (il rule), .l (il shorter), .v (.int pl)] vs ∧ H x = some (.ins C dx []) ∧
  ∀ (r s : Addr) (H2 : Hp), r ≠ s → H r = none → H s = none → H2 x = some (.ins C dx (fl3 r s pl)) → H2 r = some (.lst (il rule)) → H2 s = some (.lst (il shorter)) → (∀ b o, H b = some o → b ≠ x → H2 b = some o) → Q .non H2
theorem make_Least {K : PySem.W.Frag} {C : Addr} {σ : L2.St} {H : Hp} {E : XK} {ta : TA} {rule shorter : List Int} {pl : Int} {Q : VK} (h : EvAs K ta σ H [.l (il rule), .l (il shorter), .v (.int pl)])
    (q : ∀ x dx r s H2, Ex H H2 → H x = none → H r = none → H s = none → r ≠ s → H2 x = some (.ins C dx (fl3 r s pl)) → H2 r = some (.lst (il rule)) → H2 s = some (.lst (il shorter)) → Q (.ref x) H2) :
    tMake C (sp_Least___init__ K C) [] E ta σ H Q := h H (Ex.refl H) _ fun vs H1 e1 ok x dx nx ndx nex => by
  have up1 : Ex H1 (upd (upd H1 dx (.own x)) x (.ins C dx [])) := (Ex.new ndx).trans (Ex.new (by rw [upd_ne nex.symm]; exact nx))
  refine ⟨x, dx, rule, shorter, pl, ⟨_, _, rfl, rfl, ?_⟩, upd_same, fun r s H2 nrs nr ns hx hr hs hk => ⟨rfl, ?_⟩⟩
  · rw [List.append_nil]
    exact ok.up up1
  · have nr1 := fresh_back up1 nr
    have ns1 := fresh_back up1 ns
    refine q x dx r s H2 (fun b o hb => hk b o (up1 b o (e1 b o hb)) (ne_of_none (e1 b o hb) nx)) (fresh_back e1 nx) (fresh_back e1 nr1) (fresh_back e1 ns1) nrs hx hr hs
theorem ok_Least___init__ (T : Txt K mg) : FnOk P w K mg base CX0 1 T.a_Least___init__ T.f_Least___init__ ["self", "rule", "shorter", "place"] (sp_Least___init__ K T.a_Least) := by
  refine T.F_Least___init__.ok sc_Least___init__ (fun vs H Q E h => ?_) (fun cdv A outer s H vs Q E hr h => ?_)
  · obtain ⟨x, dx, rule, shorter, pl, h, _⟩ := h
    exact h.len
  · obtain ⟨x, dx, rule, shorter, pl, ⟨_, _, rfl, rfl, _, _, rfl, ⟨a1, rfl, h1⟩, _, _, rfl, ⟨a2, rfl, h2⟩, _, _, rfl, rfl, rfl⟩, hx, q⟩ := h
    rw [show start ["self", "rule", "shorter", "place"] [.ref x, .ref a1, .ref a2, .int pl] = [some (.ref x), some (.ref a1), some (.ref a2), some (.int pl)] from rfl]
    refine ⟨_, (pss_cons (x_sfld K rfl (pv 0) (x_list K rfl T.n_list (by rfl) (pa_cons (pv 1) pa_nil)) rfl)
      (pss_cons (x_sfld K rfl (pv 0) (x_list K rfl T.n_list (by rfl) (pa_cons (pv 2) pa_nil)) rfl)
      (pss_one (x_sfld K rfl (pv 0) (pv 3) rfl)))), ?_⟩
    refine q_sfldL (xs := il rule) (fs := []) (by walk_at "ev") (by walk_at "ev") hx T.cl_Least T.na_Least_rule (by show 0 < 1000; decide) fun r H1 nr e1 hr1 => ?_
    have nxr : r ≠ x := (ne_of_none hx nr).symm
    have hx1 := e1 _ _ hx
    have h2' : SqL K (upd H1 x (.ins T.a_Least dx (putF "rule" (.ref r) []))) a2 (il shorter) := sq_upd (ex_l e1 h2) hx1 (by intro l z; cases z) (by intro q l z; cases z)
    refine q_sfldL (xs := il shorter) (fs := putF "rule" (.ref r) []) (by walk_at "ev") (by walk_at "ev") upd_same T.cl_Least T.na_Least_shorter (by show 1 < 1000; decide) fun s H2 ns e2 hs2 => ?_
    have nxs : s ≠ x := fun z => by
      rw [z, upd_same] at ns
      cases ns
    have nrs : r ≠ s := fun z => by
      rw [← z, upd_ne nxr, hr1] at ns
      cases ns
    have ns0 : H s = none := by
      rw [upd_ne nxs] at ns
      exact fresh_back e1 ns
    refine s_sfld (v := .int pl) (fs := putF "shorter" (.ref s) (putF "rule" (.ref r) [])) (by walk_at "ev") (by walk_at "ev") upd_same T.cl_Least T.na_Least_place (by have w := len_putF "shorter" (.ref s) (putF "rule" (.ref r) []); have w2 : (putF "rule" (.ref r) []).length = 1 := rfl; omega) fun H3 e3 => ?_
    refine q r s _ nrs nr ns0 upd_same ?_ ?_ ?_
    · rw [upd_ne nxr]
      refine e3 _ _ ?_
      rw [upd_ne nxr]
      refine e2 _ _ ?_
      rw [upd_ne nxr]
      exact hr1
    · rw [upd_ne nxs]
      refine e3 _ _ ?_
      rw [upd_ne nxs]
      exact hs2
    · intro b o hb nb
      rw [upd_ne nb]
      refine e3 _ _ ?_
      rw [upd_ne nb]
      refine e2 _ _ ?_
      rw [upd_ne nb]
      exact e1 _ _ hb
/-! Least.shows -/
def sp_Least_shows (K : PySem.W.Frag) (C : Addr) : Sp := fun vs H Q _ => ∃ (x dx r s : Addr) (p : Int) (row rule shorter : List Int) (pl : Int), AgsOk K H [.v (.ref x), .v (.int p), .l (il row)] vs ∧ H x = some (.ins C dx (fl3 r s pl)) ∧ SqL K H r (il rule) ∧ SqL K H s (il shorter) ∧
  (Good p ∧ row.length ≤ 2000 ∧ rule.length ≤ 2000 ∧ shorter.length ≤ 2000) ∧ RetV (.bl (isLeast p row rule shorter pl)) H Q
theorem ev_Least_shows {K : PySem.W.Frag} {C : Addr} {σ : L2.St} {H : Hp} {E : XK} {ta : TE} {ta' : TA} {x dx r s : Addr} {p : Int} {row rule shorter : List Int} {pl : Int} (ho : Ev ta σ H (.ref x)) (hi : H x = some (.ins C dx (fl3 r s pl))) (hr : SqL K H r (il rule)) (hs : SqL K H s (il shorter))
    (h : EvAs K ta' σ H [.v (.int p), .l (il row)]) (hp : Good p ∧ row.length ≤ 2000 ∧ rule.length ≤ 2000 ∧ shorter.length ≤ 2000) : Ev (tMeth C "shows" (sp_Least_shows K C) [] E ta ta') σ H (.bl (isLeast p row rule shorter pl)) :=
  ev_methV ho hi (fl3_shows r s pl) h fun vs H1 e1 ok Q q => ⟨x, dx, r, s, p, row, rule, shorter, pl, ⟨_, _, rfl, rfl, by rw [List.append_nil]; exact ok⟩, e1 _ _ hi, ex_l e1 hr, ex_l e1 hs, hp, q⟩
local macro_rules | `(tactic| walk_at "own") => `(tactic| ((with_reducible apply ev_Least_shows); walk_at "ev"; assumption; walk_at "sq"; walk_at "sq"; walk_at "ev"))
theorem ok_Least_shows (T : Txt K mg) : FnOk P w K mg base CX0 4 T.a_Least_shows T.f_Least_shows ["self", "prime", "row"] (sp_Least_shows K T.a_Least) := by
  refine T.F_Least_shows.ok sc_Least_shows (fun vs H Q E h => ?_) (fun cdv A outer s H vs Q E hr h => ?_)
  · obtain ⟨x, dx, r, s, p, row, rule, shorter, pl, h, _⟩ := h
    exact h.len
  · obtain ⟨x, dx, r, s, p, row, rule, shorter, pl, ⟨_, _, rfl, rfl, _, _, rfl, rfl, _, _, rfl, ⟨a_row, rfl, h_row⟩, rfl⟩, hx, hr1, hs1, hp, q⟩ := h
    rw [show start ["self", "prime", "row"] [.ref x, .int p, .ref a_row] = [some (.ref x), some (.int p), some (.ref a_row)] from rfl]
    refine ⟨_, (pss_one (ps_ret (pe_call (ok_is_least T) (hr.mono (by decide)) (by rfl) T.g_is_least T.F_is_least.kp T.b_is_least .nil pass0 (pa_cons (pv 1) (pa_cons (pv 2) (pa_cons (x_fld K rfl (pv 0) rfl) (pa_cons (x_fld K rfl (pv 0) rfl) (pa_cons (x_fld K rfl (pv 0) rfl) pa_nil)))))))), ?_⟩
    have cl := T.cl_Least
    have na1 := T.na_Least_rule
    have na2 := T.na_Least_shorter
    have na3 := T.na_Least_place
    have hk : Has K H [(a_row, il row), (r, il rule), (s, il shorter)] := .cons h_row (.cons hr1 (.cons hs1 .nil))
    refine s_ret (v := .bl (isLeast p row rule shorter pl)) ?_ q
    apply ev_is
    walk_at "ev"
    all_goals first | exact hp | rfl
/-! Only.__init__ -/
def sp_Only___init__ (K : PySem.W.Frag) (C : Addr) : Sp := fun vs H Q _ => ∃ (x dx : Addr) (rule shorter : List Int) (pl : Int), AgsOk K H [.v (.ref x), .l (il rule), .l (il shorter), .v (.int pl)] vs ∧ H x = some (.ins C dx []) ∧
  ∀ (r s : Addr) (H2 : Hp), r ≠ s → H r = none → H s = none → H2 x = some (.ins C dx (fl3 r s pl)) → H2 r = some (.lst (il rule)) → H2 s = some (.lst (il shorter)) → (∀ b o, H b = some o → b ≠ x → H2 b = some o) → Q .non H2
theorem make_Only {K : PySem.W.Frag} {C : Addr} {σ : L2.St} {H : Hp} {E : XK} {ta : TA} {rule shorter : List Int} {pl : Int} {Q : VK} (h : EvAs K ta σ H [.l (il rule), .l (il shorter), .v (.int pl)])
    (q : ∀ x dx r s H2, Ex H H2 → H x = none → H r = none → H s = none → r ≠ s → H2 x = some (.ins C dx (fl3 r s pl)) → H2 r = some (.lst (il rule)) → H2 s = some (.lst (il shorter)) → Q (.ref x) H2) :
    tMake C (sp_Only___init__ K C) [] E ta σ H Q := h H (Ex.refl H) _ fun vs H1 e1 ok x dx nx ndx nex => by
  have up1 : Ex H1 (upd (upd H1 dx (.own x)) x (.ins C dx [])) := (Ex.new ndx).trans (Ex.new (by rw [upd_ne nex.symm]; exact nx))
  refine ⟨x, dx, rule, shorter, pl, ⟨_, _, rfl, rfl, ?_⟩, upd_same, fun r s H2 nrs nr ns hx hr hs hk => ⟨rfl, ?_⟩⟩
  · rw [List.append_nil]
    exact ok.up up1
  · have nr1 := fresh_back up1 nr
    have ns1 := fresh_back up1 ns
    refine q x dx r s H2 (fun b o hb => hk b o (up1 b o (e1 b o hb)) (ne_of_none (e1 b o hb) nx)) (fresh_back e1 nx) (fresh_back e1 nr1) (fresh_back e1 ns1) nrs hx hr hs
theorem ok_Only___init__ (T : Txt K mg) : FnOk P w K mg base CX0 1 T.a_Only___init__ T.f_Only___init__ ["self", "rule", "shorter", "place"] (sp_Only___init__ K T.a_Only) := by
  refine T.F_Only___init__.ok sc_Only___init__ (fun vs H Q E h => ?_) (fun cdv A outer s H vs Q E hr h => ?_)
  · obtain ⟨x, dx, rule, shorter, pl, h, _⟩ := h
    exact h.len
  · obtain ⟨x, dx, rule, shorter, pl, ⟨_, _, rfl, rfl, _, _, rfl, ⟨a1, rfl, h1⟩, _, _, rfl, ⟨a2, rfl, h2⟩, _, _, rfl, rfl, rfl⟩, hx, q⟩ := h
    rw [show start ["self", "rule", "shorter", "place"] [.ref x, .ref a1, .ref a2, .int pl] = [some (.ref x), some (.ref a1), some (.ref a2), some (.int pl)] from rfl]
    refine ⟨_, (pss_cons (x_sfld K rfl (pv 0) (x_list K rfl T.n_list (by rfl) (pa_cons (pv 1) pa_nil)) rfl)
      (pss_cons (x_sfld K rfl (pv 0) (x_list K rfl T.n_list (by rfl) (pa_cons (pv 2) pa_nil)) rfl)
      (pss_one (x_sfld K rfl (pv 0) (pv 3) rfl)))), ?_⟩
    refine q_sfldL (xs := il rule) (fs := []) (by walk_at "ev") (by walk_at "ev") hx T.cl_Only T.na_Only_rule (by show 0 < 1000; decide) fun r H1 nr e1 hr1 => ?_
    have nxr : r ≠ x := (ne_of_none hx nr).symm
    have hx1 := e1 _ _ hx
    have h2' : SqL K (upd H1 x (.ins T.a_Only dx (putF "rule" (.ref r) []))) a2 (il shorter) := sq_upd (ex_l e1 h2) hx1 (by intro l z; cases z) (by intro q l z; cases z)
    refine q_sfldL (xs := il shorter) (fs := putF "rule" (.ref r) []) (by walk_at "ev") (by walk_at "ev") upd_same T.cl_Only T.na_Only_shorter (by show 1 < 1000; decide) fun s H2 ns e2 hs2 => ?_
    have nxs : s ≠ x := fun z => by
      rw [z, upd_same] at ns
      cases ns
    have nrs : r ≠ s := fun z => by
      rw [← z, upd_ne nxr, hr1] at ns
      cases ns
    have ns0 : H s = none := by
      rw [upd_ne nxs] at ns
      exact fresh_back e1 ns
    refine s_sfld (v := .int pl) (fs := putF "shorter" (.ref s) (putF "rule" (.ref r) [])) (by walk_at "ev") (by walk_at "ev") upd_same T.cl_Only T.na_Only_place (by have w := len_putF "shorter" (.ref s) (putF "rule" (.ref r) []); have w2 : (putF "rule" (.ref r) []).length = 1 := rfl; omega) fun H3 e3 => ?_
    refine q r s _ nrs nr ns0 upd_same ?_ ?_ ?_
    · rw [upd_ne nxr]
      refine e3 _ _ ?_
      rw [upd_ne nxr]
      refine e2 _ _ ?_
      rw [upd_ne nxr]
      exact hr1
    · rw [upd_ne nxs]
      refine e3 _ _ ?_
      rw [upd_ne nxs]
      exact hs2
    · intro b o hb nb
      rw [upd_ne nb]
      refine e3 _ _ ?_
      rw [upd_ne nb]
      refine e2 _ _ ?_
      rw [upd_ne nb]
      exact e1 _ _ hb
/-! Only.shows -/
def sp_Only_shows (K : PySem.W.Frag) (C : Addr) : Sp := fun vs H Q _ => ∃ (x dx r s : Addr) (p : Int) (row rule shorter : List Int) (pl : Int), AgsOk K H [.v (.ref x), .v (.int p), .l (il row)] vs ∧ H x = some (.ins C dx (fl3 r s pl)) ∧ SqL K H r (il rule) ∧ SqL K H s (il shorter) ∧
  (Good p ∧ row.length ≤ 2000 ∧ rule.length ≤ 2000 ∧ shorter.length ≤ 2000) ∧ RetV (.bl (isOnly p row rule shorter pl)) H Q
theorem ev_Only_shows {K : PySem.W.Frag} {C : Addr} {σ : L2.St} {H : Hp} {E : XK} {ta : TE} {ta' : TA} {x dx r s : Addr} {p : Int} {row rule shorter : List Int} {pl : Int} (ho : Ev ta σ H (.ref x)) (hi : H x = some (.ins C dx (fl3 r s pl))) (hr : SqL K H r (il rule)) (hs : SqL K H s (il shorter))
    (h : EvAs K ta' σ H [.v (.int p), .l (il row)]) (hp : Good p ∧ row.length ≤ 2000 ∧ rule.length ≤ 2000 ∧ shorter.length ≤ 2000) : Ev (tMeth C "shows" (sp_Only_shows K C) [] E ta ta') σ H (.bl (isOnly p row rule shorter pl)) :=
  ev_methV ho hi (fl3_shows r s pl) h fun vs H1 e1 ok Q q => ⟨x, dx, r, s, p, row, rule, shorter, pl, ⟨_, _, rfl, rfl, by rw [List.append_nil]; exact ok⟩, e1 _ _ hi, ex_l e1 hr, ex_l e1 hs, hp, q⟩
local macro_rules | `(tactic| walk_at "own") => `(tactic| ((with_reducible apply ev_Only_shows); walk_at "ev"; assumption; walk_at "sq"; walk_at "sq"; walk_at "ev"))
theorem ok_Only_shows (T : Txt K mg) : FnOk P w K mg base CX0 4 T.a_Only_shows T.f_Only_shows ["self", "prime", "row"] (sp_Only_shows K T.a_Only) := by
  refine T.F_Only_shows.ok sc_Only_shows (fun vs H Q E h => ?_) (fun cdv A outer s H vs Q E hr h => ?_)
  · obtain ⟨x, dx, r, s, p, row, rule, shorter, pl, h, _⟩ := h
    exact h.len
  · obtain ⟨x, dx, r, s, p, row, rule, shorter, pl, ⟨_, _, rfl, rfl, _, _, rfl, rfl, _, _, rfl, ⟨a_row, rfl, h_row⟩, rfl⟩, hx, hr1, hs1, hp, q⟩ := h
    rw [show start ["self", "prime", "row"] [.ref x, .int p, .ref a_row] = [some (.ref x), some (.int p), some (.ref a_row)] from rfl]
    refine ⟨_, (pss_one (ps_ret (pe_and (pe_cmpR op_le (pe_op op_mul pe_int (x_len K rfl T.n_len (by rfl) (pa_cons (x_fld K rfl (pv 0) rfl) pa_nil))) (x_len K rfl T.n_len (by rfl) (pa_cons (pv 2) pa_nil)) (nomark _)) (pe_one (pe_call (ok_is_least T) (hr.mono (by decide)) (by rfl) T.g_is_least T.F_is_least.kp T.b_is_least .nil pass0 (pa_cons (pv 1) (pa_cons (pv 2) (pa_cons (x_fld K rfl (pv 0) rfl) (pa_cons (x_fld K rfl (pv 0) rfl) (pa_cons (x_fld K rfl (pv 0) rfl) pa_nil)))))))))), ?_⟩
    have cl := T.cl_Only
    have na1 := T.na_Only_rule
    have na2 := T.na_Only_shorter
    have na3 := T.na_Only_place
    have hk : Has K H [(a_row, il row), (r, il rule), (s, il shorter)] := .cons h_row (.cons hr1 (.cons hs1 .nil))
    refine s_ret (v := .bl (isOnly p row rule shorter pl)) ?_ q
    apply ev_is
    walk_at "ev"
    all_goals first | exact hp | rfl
/-! Another.__init__ -/
def sp_Another___init__ (K : PySem.W.Frag) (C : Addr) : Sp := fun vs H Q _ => ∃ (x dx : Addr) (one other shorter : List Int) (pl : Int), AgsOk K H [.v (.ref x), .l (il one), .l (il other), .l (il shorter), .v (.int pl)] vs ∧ H x = some (.ins C dx []) ∧
  ∀ (r o s : Addr) (H2 : Hp), r ≠ o → r ≠ s → o ≠ s → H r = none → H o = none → H s = none → H2 x = some (.ins C dx (fl4 r o s pl)) → H2 r = some (.lst (il one)) → H2 o = some (.lst (il other)) → H2 s = some (.lst (il shorter)) → Ko x H H2 → Q .non H2
theorem make_Another {K : PySem.W.Frag} {C : Addr} {σ : L2.St} {H : Hp} {E : XK} {ta : TA} {one other shorter : List Int} {pl : Int} {Q : VK} (h : EvAs K ta σ H [.l (il one), .l (il other), .l (il shorter), .v (.int pl)])
    (q : ∀ x dx r o s H2, Ex H H2 → H x = none → H r = none → H o = none → H s = none → r ≠ o → r ≠ s → o ≠ s → H2 x = some (.ins C dx (fl4 r o s pl)) → H2 r = some (.lst (il one)) → H2 o = some (.lst (il other)) → H2 s = some (.lst (il shorter)) → Q (.ref x) H2) :
    tMake C (sp_Another___init__ K C) [] E ta σ H Q := h H (Ex.refl H) _ fun vs H1 e1 ok x dx nx ndx nex => by
  have up1 : Ex H1 (upd (upd H1 dx (.own x)) x (.ins C dx [])) := (Ex.new ndx).trans (Ex.new (by rw [upd_ne nex.symm]; exact nx))
  refine ⟨x, dx, one, other, shorter, pl, ⟨_, _, rfl, rfl, ?_⟩, upd_same, fun r o s H2 n1 n2 n3 nr no ns hx hr ho hs hk => ⟨rfl, ?_⟩⟩
  · rw [List.append_nil]
    exact ok.up up1
  · have nr1 := fresh_back up1 nr
    have no1 := fresh_back up1 no
    have ns1 := fresh_back up1 ns
    refine q x dx r o s H2 (fun b u hb => hk b u (up1 b u (e1 b u hb)) (ne_of_none (e1 b u hb) nx)) (fresh_back e1 nx) (fresh_back e1 nr1) (fresh_back e1 no1) (fresh_back e1 ns1) n1 n2 n3 hx hr ho hs
theorem ok_Another___init__ (T : Txt K mg) : FnOk P w K mg base CX0 1 T.a_Another___init__ T.f_Another___init__ ["self", "one", "other", "shorter", "place"] (sp_Another___init__ K T.a_Another) := by
  refine T.F_Another___init__.ok sc_Another___init__ (fun vs H Q E h => ?_) (fun cdv A outer s H vs Q E hr h => ?_)
  · obtain ⟨x, dx, one, other, shorter, pl, h, _⟩ := h
    exact h.len
  · obtain ⟨x, dx, one, other, shorter, pl, ⟨_, _, rfl, rfl, _, _, rfl, ⟨a1, rfl, h1⟩, _, _, rfl, ⟨a2, rfl, h2⟩, _, _, rfl, ⟨a3, rfl, h3⟩, _, _, rfl, rfl, rfl⟩, hx, q⟩ := h
    rw [show start ["self", "one", "other", "shorter", "place"] [.ref x, .ref a1, .ref a2, .ref a3, .int pl] = [some (.ref x), some (.ref a1), some (.ref a2), some (.ref a3), some (.int pl)] from rfl]
    refine ⟨_, (pss_cons (x_sfld K rfl (pv 0) (x_list K rfl T.n_list (by rfl) (pa_cons (pv 1) pa_nil)) rfl)
      (pss_cons (x_sfld K rfl (pv 0) (x_list K rfl T.n_list (by rfl) (pa_cons (pv 2) pa_nil)) rfl)
      (pss_cons (x_sfld K rfl (pv 0) (x_list K rfl T.n_list (by rfl) (pa_cons (pv 3) pa_nil)) rfl)
      (pss_one (x_sfld K rfl (pv 0) (pv 4) rfl))))), ?_⟩
    have k0 : Ko x H H := Ko.refl
    refine q_sfldL (xs := il one) (fs := []) (by walk_at "ev") (by walk_at "ev") hx T.cl_Another T.na_Another_one (by show 0 < 1000; decide) fun r H1 nr e1 hr1 => ?_
    obtain ⟨G1, hG1⟩ : ∃ G, upd H1 x (.ins T.a_Another dx (putF "one" (.ref r) [])) = G := ⟨_, rfl⟩
    have nxr : r ≠ x := (ne_of_none hx nr).symm
    have k1 : Ko x H G1 := by rw [← hG1]; exact k0.step e1
    have hx1 : G1 x = some (.ins T.a_Another dx (putF "one" (.ref r) [])) := by rw [← hG1]; exact upd_same
    have hr1' : G1 r = some (.lst (il one)) := by rw [← hG1, upd_ne nxr]; exact hr1
    have h2' := sq_ko h2 hx k1
    rw [hG1]
    refine q_sfldL (xs := il other) (fs := putF "one" (.ref r) []) (by walk_at "ev") (by walk_at "ev") hx1 T.cl_Another T.na_Another_other (by show 1 < 1000; decide) fun o H2 no e2 ho2 => ?_
    have nxo : o ≠ x := (ne_of_none hx1 no).symm
    have nro : r ≠ o := ne_of_none hr1' no
    have no0 := k1.free no nxo
    obtain ⟨G2, hG2⟩ : ∃ G, upd H2 x (.ins T.a_Another dx (putF "other" (.ref o) (putF "one" (.ref r) []))) = G := ⟨_, rfl⟩
    have k2 : Ko x H G2 := by rw [← hG2]; exact k1.step e2
    have hx2 : G2 x = some (.ins T.a_Another dx (putF "other" (.ref o) (putF "one" (.ref r) []))) := by rw [← hG2]; exact upd_same
    have hr2' : G2 r = some (.lst (il one)) := by rw [← hG2, upd_ne nxr]; exact e2 _ _ hr1'
    have ho2' : G2 o = some (.lst (il other)) := by rw [← hG2, upd_ne nxo]; exact ho2
    have h3' := sq_ko h3 hx k2
    rw [hG2]
    refine q_sfldL (xs := il shorter) (fs := putF "other" (.ref o) (putF "one" (.ref r) [])) (by walk_at "ev") (by walk_at "ev") hx2 T.cl_Another T.na_Another_shorter (by have w := len_two "other" "one" (.ref o) (.ref r); omega) fun s H3 ns e3 hs3 => ?_
    have nxs : s ≠ x := (ne_of_none hx2 ns).symm
    have nrs : r ≠ s := ne_of_none hr2' ns
    have nos : o ≠ s := ne_of_none ho2' ns
    have ns0 := k2.free ns nxs
    obtain ⟨G3, hG3⟩ : ∃ G, upd H3 x (.ins T.a_Another dx (putF "shorter" (.ref s) (putF "other" (.ref o) (putF "one" (.ref r) [])))) = G := ⟨_, rfl⟩
    have k3 : Ko x H G3 := by rw [← hG3]; exact k2.step e3
    have hx3 : G3 x = some (.ins T.a_Another dx (putF "shorter" (.ref s) (putF "other" (.ref o) (putF "one" (.ref r) [])))) := by rw [← hG3]; exact upd_same
    have hr3' : G3 r = some (.lst (il one)) := by rw [← hG3, upd_ne nxr]; exact e3 _ _ hr2'
    have ho3' : G3 o = some (.lst (il other)) := by rw [← hG3, upd_ne nxo]; exact e3 _ _ ho2'
    have hs3' : G3 s = some (.lst (il shorter)) := by rw [← hG3, upd_ne nxs]; exact hs3
    rw [hG3]
    refine s_sfld (v := .int pl) (fs := putF "shorter" (.ref s) (putF "other" (.ref o) (putF "one" (.ref r) []))) (by walk_at "ev") (by walk_at "ev") hx3 T.cl_Another T.na_Another_place (by have w := len_three "shorter" "other" "one" (.ref s) (.ref o) (.ref r); omega) fun H4 e4 => ?_
    refine q r o s _ nro nrs nos nr no0 ns0 upd_same ?_ ?_ ?_ (k3.step e4)
    · rw [upd_ne nxr]
      exact e4 _ _ hr3'
    · rw [upd_ne nxo]
      exact e4 _ _ ho3'
    · rw [upd_ne nxs]
      exact e4 _ _ hs3'
/-! Another.shows -/
def sp_Another_shows (K : PySem.W.Frag) (C : Addr) : Sp := fun vs H Q _ => ∃ (x dx r o s : Addr) (p : Int) (row one other shorter : List Int) (pl : Int), AgsOk K H [.v (.ref x), .v (.int p), .l (il row)] vs ∧ H x = some (.ins C dx (fl4 r o s pl)) ∧ SqL K H r (il one) ∧ SqL K H o (il other) ∧ SqL K H s (il shorter) ∧
  (Good p ∧ row.length ≤ 2000 ∧ one.length ≤ 2000 ∧ other.length ≤ 2000 ∧ shorter.length ≤ 2000) ∧ RetV (.bl (isAnother p row one other shorter pl)) H Q
theorem ev_Another_shows {K : PySem.W.Frag} {C : Addr} {σ : L2.St} {H : Hp} {E : XK} {ta : TE} {ta' : TA} {x dx r o s : Addr} {p : Int} {row one other shorter : List Int} {pl : Int} (ho : Ev ta σ H (.ref x)) (hi : H x = some (.ins C dx (fl4 r o s pl))) (hr : SqL K H r (il one)) (hoo : SqL K H o (il other)) (hs : SqL K H s (il shorter))
    (h : EvAs K ta' σ H [.v (.int p), .l (il row)]) (hp : Good p ∧ row.length ≤ 2000 ∧ one.length ≤ 2000 ∧ other.length ≤ 2000 ∧ shorter.length ≤ 2000) : Ev (tMeth C "shows" (sp_Another_shows K C) [] E ta ta') σ H (.bl (isAnother p row one other shorter pl)) :=
  ev_methV ho hi (fl4_shows r o s pl) h fun vs H1 e1 ok Q q => ⟨x, dx, r, o, s, p, row, one, other, shorter, pl, ⟨_, _, rfl, rfl, by rw [List.append_nil]; exact ok⟩, e1 _ _ hi, ex_l e1 hr, ex_l e1 hoo, ex_l e1 hs, hp, q⟩
local macro_rules | `(tactic| walk_at "own") => `(tactic| ((with_reducible apply ev_Another_shows); walk_at "ev"; assumption; walk_at "sq"; walk_at "sq"; walk_at "sq"; walk_at "ev"))
theorem ok_Another_shows (T : Txt K mg) : FnOk P w K mg base CX0 4 T.a_Another_shows T.f_Another_shows ["self", "prime", "row"] (sp_Another_shows K T.a_Another) := by
  refine T.F_Another_shows.ok sc_Another_shows (fun vs H Q E h => ?_) (fun cdv A outer s H vs Q E hr h => ?_)
  · obtain ⟨x, dx, r, o, s, p, row, one, other, shorter, pl, h, _⟩ := h
    exact h.len
  · obtain ⟨x, dx, r, o, s, p, row, one, other, shorter, pl, ⟨_, _, rfl, rfl, _, _, rfl, rfl, _, _, rfl, ⟨a_row, rfl, h_row⟩, rfl⟩, hx, hr1, ho1, hs1, ⟨hp, l1, l2, l3, l4⟩, q⟩ := h
    rw [show start ["self", "prime", "row"] [.ref x, .int p, .ref a_row] = [some (.ref x), some (.int p), some (.ref a_row)] from rfl]
    refine ⟨_, (pss_cons (ps_if (PW.pt (pw_or (pt_cmpR op_ne (x_len K rfl T.n_len (by rfl) (pa_cons (x_fld K rfl (pv 0) rfl) pa_nil)) (x_len K rfl T.n_len (by rfl) (pa_cons (x_fld K rfl (pv 0) rfl) pa_nil)) (nomark _)) (pw_or1 (x_eqDt K rfl hr.units (x_fld K rfl (pv 0) rfl) (x_fld K rfl (pv 0) rfl))))) (pss_one (ps_ret pe_bl)) pss_nil)
      (pss_cons (ps_if (pt_not (pt_val (pe_call (ok_is_least T) (hr.mono (by decide)) (by rfl) T.g_is_least T.F_is_least.kp T.b_is_least .nil pass0 (pa_cons (pv 1) (pa_cons (pv 2) (pa_cons (x_fld K rfl (pv 0) rfl) (pa_cons (x_fld K rfl (pv 0) rfl) (pa_cons (x_fld K rfl (pv 0) rfl) pa_nil)))))))) (pss_one (ps_ret pe_bl)) pss_nil)
      (pss_one (ps_ret (pe_call (ok_is_least T) (hr.mono (by decide)) (by rfl) T.g_is_least T.F_is_least.kp T.b_is_least .nil pass0 (pa_cons (pv 1) (pa_cons (pv 2) (pa_cons (x_fld K rfl (pv 0) rfl) (pa_cons (x_fld K rfl (pv 0) rfl) (pa_cons (x_fld K rfl (pv 0) rfl) pa_nil)))))))))), ?_⟩
    have cl := T.cl_Another
    have na1 := T.na_Another_one
    have na2 := T.na_Another_other
    have na3 := T.na_Another_shorter
    have na4 := T.na_Another_place
    have hk : Has K H [(a_row, il row), (r, il one), (o, il other), (s, il shorter)] := .cons h_row (.cons hr1 (.cons ho1 (.cons hs1 .nil)))
    refine q_when (b := !decide ((one.length : Int) = (other.length : Int)) || decide (one = other)) (by walk_at "ev") (fun c H1 e1 => ?_) (fun c H1 e1 => ?_)
    · refine s_ret (v := .bl (isAnother p row one other shorter pl)) ?_ fun H2 e2 => q H2 (e1.trans e2)
      apply ev_is
      walk_at "ev"
      unfold isAnother
      rw [if_pos c]
    have hk := hk.up e1
    have hx1 := e1 _ _ hx
    refine q_when (b := !isLeast p row one shorter pl) ?_ (fun d H2 e2 => ?_) (fun d H2 e2 => ?_)
    · walk_at "ev"
      all_goals exact ⟨hp, l1, l2, l4⟩
    · refine s_ret (v := .bl (isAnother p row one other shorter pl)) ?_ fun H3 e3 => q H3 ((e1.trans e2).trans e3)
      apply ev_is
      walk_at "ev"
      unfold isAnother
      rw [if_neg (by rw [c]; decide), if_pos d]
    have hk := hk.up e2
    have hx2 := e2 _ _ hx1
    refine s_ret (v := .bl (isAnother p row one other shorter pl)) ?_ fun H3 e3 => q H3 ((e1.trans e2).trans e3)
    apply ev_is
    walk_at "ev"
    all_goals first | exact ⟨hp, l1, l3, l4⟩ | (unfold isAnother; rw [if_neg (by rw [c]; decide), if_neg (by rw [d]; decide)])
/-! unlike -/
/-- what stands behind unlike: an Only, an Another -/
def OnlyAt (K : PySem.W.Frag) (C : Addr) (p : Int) (row : List Int) (H : Hp) (k : Addr → Hp → Prop) : Prop := ∀ (x dx r s : Addr) (H2 : Hp), Ex H H2 → H x = none → H r = none → H s = none → r ≠ s → H2 x = some (.ins C dx (fl3 r s (RR.shortest p row).place)) → H2 r = some (.lst (il (RR.shortest p row).rule)) → H2 s = some (.lst (il (RR.shortest p row).shorter)) → k x H2
def AnotherAt (K : PySem.W.Frag) (C : Addr) (p : Int) (row : List Int) (H : Hp) (k : Addr → Hp → Prop) : Prop := ∀ (x dx r o s : Addr) (H2 : Hp), Ex H H2 → H x = none → H r = none → H o = none → H s = none → r ≠ o → r ≠ s → o ≠ s → H2 x = some (.ins C dx (fl4 r o s (RR.shortest p row).place)) →
  H2 r = some (.lst (il (RR.shortest p row).rule)) → H2 o = some (.lst (il (otherRule p row))) → H2 s = some (.lst (il (RR.shortest p row).shorter)) → k x H2
def sp_unlike (K : PySem.W.Frag) (CO CA : Addr) : Sp := fun vs H Q _ => ∃ (p : Int) (row : List Int), AgsOk K H [.v (.int p), .l (il row)] vs ∧ (Good p ∧ Rs p row ∧ row.length ≤ 1000) ∧
  (2 * (RR.shortest p row).rule.length ≤ row.length → OnlyAt K CO p row H fun x H2 => Q (.ref x) H2) ∧ (¬ 2 * (RR.shortest p row).rule.length ≤ row.length → AnotherAt K CA p row H fun x H2 => Q (.ref x) H2)
theorem t_unlike {K : PySem.W.Frag} {CO CA : Addr} {σ : L2.St} {H : Hp} {E : XK} {ta : TA} {p : Int} {row : List Int} {Q : VK} (h : EvAs K ta σ H [.v (.int p), .l (il row)]) (hp : Good p ∧ Rs p row ∧ row.length ≤ 1000)
    (q1 : 2 * (RR.shortest p row).rule.length ≤ row.length → OnlyAt K CO p row H fun x H2 => Q (.ref x) H2) (q2 : ¬ 2 * (RR.shortest p row).rule.length ≤ row.length → AnotherAt K CA p row H fun x H2 => Q (.ref x) H2) :
    tCall (sp_unlike K CO CA) [] E ta σ H Q :=
  h H (Ex.refl H) _ fun vs H1 e1 ok => ⟨p, row, by rw [List.append_nil]; exact ok, hp, fun c x dx r s H2 e2 nx nr ns nrs hx hr hs => q1 c x dx r s H2 (e1.trans e2) (fresh_back e1 nx) (fresh_back e1 nr) (fresh_back e1 ns) nrs hx hr hs,
    fun c x dx r o s H2 e2 nx nr no ns n1 n2 n3 hx hr ho hs => q2 c x dx r o s H2 (e1.trans e2) (fresh_back e1 nx) (fresh_back e1 nr) (fresh_back e1 no) (fresh_back e1 ns) n1 n2 n3 hx hr ho hs⟩
theorem q_unlike {K : PySem.W.Frag} {CO CA : Addr} {σ : L2.St} {H : Hp} {E : XK} {ta : TA} {p : Int} {row : List Int} {D : Ends} {tz : TS} {i : Nat} (h : EvAs K ta σ H [.v (.int p), .l (il row)]) (hp : Good p ∧ Rs p row ∧ row.length ≤ 1000)
    (q1 : 2 * (RR.shortest p row).rule.length ≤ row.length → OnlyAt K CO p row H fun x H2 => tz D (σ.set i (some (.ref x))) H2) (q2 : ¬ 2 * (RR.shortest p row).rule.length ≤ row.length → AnotherAt K CA p row H fun x H2 => tz D (σ.set i (some (.ref x))) H2) :
    tSeq (tAsg (tCall (sp_unlike K CO CA) [] E ta) (gName i)) tz D σ H := t_unlike h hp q1 q2
theorem ev_isUnlike {K : PySem.W.Frag} {CO CA : Addr} {σ : L2.St} {H : Hp} {E : XK} {ta : TA} {p : Int} {row : List Int} (h : EvAs K ta σ H [.v (.int p), .l (il row)]) (hp : Good p ∧ Rs p row ∧ row.length ≤ 1000) (hc : 2 * (RR.shortest p row).rule.length ≤ row.length)
    (cl : Cls K CO) (h1 : PySem.W.findIn K (.ref CO) "__class__" = some (some (.builtin "object.__class__"))) (h2 : PySem.W.specialIn K (.builtin "object.__class__") "__get__" = some (some (.builtin "getset_descriptor.__get__"))) (h3 : PySem.W.takesIn K (.builtin "object.__class__") = some true)
    (h4 : PySem.W.mroIn K CO (.type "object") = some true) (hk : PySem.W.kitOne K (.ref CO) (.ref CO) = some true) : Ev (tCB (rIsi K) (tCons (tCall (sp_unlike K CO CA) [] E ta) (tCons (tC (.ref CO)) tNil))) σ H (.bl true) := fun H0 e0 Q q =>
  h H0 e0 _ fun vs H1 e1 ok => ⟨p, row, by rw [List.append_nil]; exact ok, hp, fun c x dx r s H2 e2 nx nr ns nrs hx hr hs => ⟨.ref x, .ref CO, .ref CO, .ref CO, true, rfl, .own CO, .base (.ins hx cl h1 h2 h3 h4), hk, q H2 (e1.trans e2)⟩,
    fun c => absurd hc c⟩
theorem ok_unlike (T : Txt K mg) : FnOk P w K mg base CX0 4 T.a_unlike T.f_unlike ["prime", "row"] (sp_unlike K T.a_Only T.a_Another) := by
  refine T.F_unlike.ok sc_unlike (fun vs H Q E h => ?_) (fun cdv A outer s H vs Q E hr h => ?_)
  · obtain ⟨p, row, h, _⟩ := h
    exact h.len
  · obtain ⟨p, row, ⟨_, _, rfl, rfl, _, _, rfl, ⟨a_row, rfl, h_row⟩, rfl⟩, ⟨hp, hrs, hlen⟩, q1, q2⟩ := h
    rw [show start ["prime", "row", "rule", "shorter", "place", "miss", "rests"] [.int p, .ref a_row] = [some (.int p), some (.ref a_row), none, none, none, none, none] from rfl]
    refine ⟨_, (pss_cons (ps_expr (pe_call (ok_check_prime T) (hr.mono (by decide)) (by rfl) T.g_check_prime T.F_check_prime.kp T.b_check_prime .nil pass0 (pa_cons (pv 0) pa_nil)))
      (pss_cons (ps_expr (pe_call (ok_check_row T) (hr.mono (by decide)) (by rfl) T.g_check_row T.F_check_row.kp T.b_check_row .nil pass0 (pa_cons (pv 0) (pa_cons (pv 1) pa_nil))))
      (pss_cons (ps_asg (pe_call (ok_shortest T) (hr.mono (by decide)) (by rfl) T.g_shortest T.F_shortest.kp T.b_shortest .nil pass0 (pa_cons (pv 0) (pa_cons (pv 1) pa_nil))) (xg_tup K rfl 4 rfl (pgs_cons (pg_name (i := 2) sc_unlike.nd rfl (.inl rfl)) (pgs_cons (pg_name (i := 3) sc_unlike.nd rfl (.inl rfl)) (pgs_cons (pg_name (i := 4) sc_unlike.nd rfl (.inl rfl)) (pgs_cons (pg_name (i := 5) sc_unlike.nd rfl (.inl rfl)) pgs_nil))))))
      (pss_cons (ps_if (pt_cmpR op_le (pe_op op_mul pe_int (x_len K rfl T.n_len (by rfl) (pa_cons (pv 2) pa_nil))) (x_len K rfl T.n_len (by rfl) (pa_cons (pv 1) pa_nil)) (nomark _)) (pss_one (ps_ret (pe_make T.M_Only (ok_Only___init__ T) (hr.mono (by decide)) (by rfl) T.g_Only T.b_Only___init__ .nil pass0 (pa_cons (pv 2) (pa_cons (pv 3) (pa_cons (pv 4) pa_nil)))))) pss_nil)
      (pss_cons (ps_set (i := 6) sc_unlike.nd rfl (.inl rfl) (pe_call (ok_taken_off T) (hr.mono (by decide)) (by rfl) T.g_taken_off T.F_taken_off.kp T.b_taken_off .nil pass0 (pa_cons (pv 0) (pa_cons (pe_call (ok_turned T) (hr.mono (by decide)) (by rfl) T.g_turned T.F_turned.kp T.b_turned .nil pass0 (pa_cons (pv 0) (pa_cons (pv 2) pa_nil))) (pa_cons (pe_call (ok_turned T) (hr.mono (by decide)) (by rfl) T.g_turned T.F_turned.kp T.b_turned .nil pass0 (pa_cons (pv 0) (pa_cons (pv 3) pa_nil))) (pa_cons pe_int (pa_cons (pe_op op_sub (x_len K rfl T.n_len (by rfl) (pa_cons (pv 1) pa_nil)) (pv 4)) (pa_cons (x_len K rfl T.n_len (by rfl) (pa_cons (pv 2) pa_nil)) pa_nil))))))))
      (pss_one (ps_ret (pe_make T.M_Another (ok_Another___init__ T) (hr.mono (by decide)) (by rfl) T.g_Another T.b_Another___init__ .nil pass0 (pa_cons (pv 2) (pa_cons (pe_call (ok_told_back T) (hr.mono (by decide)) (by rfl) T.g_told_back T.F_told_back.kp T.b_told_back .nil pass0 (pa_cons (pv 0) (pa_cons (pv 6) pa_nil))) (pa_cons (pv 3) (pa_cons (pv 4) pa_nil)))))))))))), ?_⟩
    have g1 := hp.two
    obtain ⟨b1, b2, b3, b4⟩ := shortest_lens hp row
    refine q_drop (v := .non) (by walk_at "ev") fun H1 e1 => ?_
    have h_row1 := ex_l e1 h_row
    refine q_drop (v := .non) ?_ fun H2 e2 => ?_
    · walk_at "ev"
      all_goals exact ⟨hrs, by omega⟩
    have h_row2 := ex_l e2 h_row1
    refine q_shortest (p := p) (row := row) (by walk_at "ev") ⟨hp, hlen⟩ fun r s H3 e3 nr ns nrs hr3 hs3 => ?_
    have h_row3 := ex_l e3 h_row2
    have E := (e1.trans e2).trans e3
    refine q_when (b := decide (2 * ((RR.shortest p row).rule.length : Int) ≤ (row.length : Int))) (by walk_at "ev") (fun c H4 e4 => ?_) (fun c H4 e4 => ?_)
    · have c1 := of_decide_eq_true c
      have hr4 := e4 _ _ hr3
      have hs4 := e4 _ _ hs3
      refine make_Only (rule := (RR.shortest p row).rule) (shorter := (RR.shortest p row).shorter) (pl := (RR.shortest p row).place) (by walk_at "ev") fun x dx r2 s2 H5 e5 nx nr2 ns2 nrs2 hx hr5 hs5 => ?_
      exact q1 (by omega) x dx r2 s2 H5 ((E.trans e4).trans e5) (fresh_back (E.trans e4) nx) (fresh_back (E.trans e4) nr2) (fresh_back (E.trans e4) ns2) nrs2 hx hr5 hs5
    have c1 := of_decide_eq_false c
    have hr4 := e4 _ _ hr3
    have hs4 := e4 _ _ hs3
    have h_row4 := ex_l e4 h_row3
    have tl1 := turned_len p (RR.shortest p row).rule
    have tl2 := turned_len p (RR.shortest p row).shorter
    obtain ⟨w, w1, w2, w3, w4⟩ := (long_of hp (row := row) (by omega)).q
    refine q_asgL (i := 6) (xs := il (otherRests p row (RR.shortest p row))) ?_ fun t H5 nt e5 ht => ?_
    · apply el_is
      walk_at "ev"
      all_goals first | exact ⟨hp, by omega⟩ | exact ⟨hp, by omega, by omega, by omega, by omega, by omega, by omega, by omega⟩ | rfl
    have hr5 := e5 _ _ hr4
    have hs5 := e5 _ _ hs4
    have E5 := (E.trans e4).trans e5
    have ol := otherRule_len p row
    have orl : (otherRests p row (RR.shortest p row)).length = (RR.shortest p row).rule.length + 1 := takenOff_len ..
    refine make_Another (one := (RR.shortest p row).rule) (other := otherRule p row) (shorter := (RR.shortest p row).shorter) (pl := (RR.shortest p row).place) ?_ fun x dx r2 o2 s2 H6 e6 nx nr2 no2 ns2 n1 n2 n3 hx hr6 ho6 hs6 => ?_
    · refine eas_l (by walk_at "ev") (eas_l (er_of_l (el_told_back (p := p) (by walk_at "ev") ⟨hp, by omega⟩)) (by walk_at "ev"))
    · exact q2 (by omega) x dx r2 o2 s2 H6 (E5.trans e6) (fresh_back E5 nx) (fresh_back E5 nr2) (fresh_back E5 no2) (fresh_back E5 ns2) n1 n2 n3 hx hr6 ho6 hs6
/-! least -/
def sp_least (K : PySem.W.Frag) (C : Addr) : Sp := fun vs H Q _ => ∃ (p : Int) (row : List Int), AgsOk K H [.v (.int p), .l (il row)] vs ∧ (Good p ∧ Rs p row ∧ row.length ≤ 1000) ∧
  ∀ (x dx r s : Addr) (H2 : Hp), Ex H H2 → H x = none → H r = none → H s = none → r ≠ s → H2 x = some (.ins C dx (fl3 r s (RR.shortest p row).place)) → H2 r = some (.lst (il (RR.shortest p row).rule)) → H2 s = some (.lst (il (RR.shortest p row).shorter)) → Q (.ref x) H2
theorem q_least {K : PySem.W.Frag} {C : Addr} {σ : L2.St} {H : Hp} {E : XK} {ta : TA} {p : Int} {row : List Int} {D : Ends} {tz : TS} {i : Nat} (h : EvAs K ta σ H [.v (.int p), .l (il row)]) (hp : Good p ∧ Rs p row ∧ row.length ≤ 1000)
    (q : ∀ x dx r s H2, Ex H H2 → H x = none → H r = none → H s = none → r ≠ s → H2 x = some (.ins C dx (fl3 r s (RR.shortest p row).place)) → H2 r = some (.lst (il (RR.shortest p row).rule)) → H2 s = some (.lst (il (RR.shortest p row).shorter)) → tz D (σ.set i (some (.ref x))) H2) :
    tSeq (tAsg (tCall (sp_least K C) [] E ta) (gName i)) tz D σ H :=
  h H (Ex.refl H) _ fun vs H1 e1 ok => ⟨p, row, by rw [List.append_nil]; exact ok, hp, fun x dx r s H2 e2 nx nr ns nrs hx hr hs => q x dx r s H2 (e1.trans e2) (fresh_back e1 nx) (fresh_back e1 nr) (fresh_back e1 ns) nrs hx hr hs⟩
theorem er_leastRule {K : PySem.W.Frag} {C : Addr} {σ : L2.St} {H : Hp} {E : XK} {ta : TA} {p : Int} {row : List Int} (h : EvAs K ta σ H [.v (.int p), .l (il row)]) (hp : Good p ∧ Rs p row ∧ row.length ≤ 1000) (cl : Cls K C) (na : NoAttr K C "rule") :
    EvR K (tFld K (tCall (sp_least K C) [] E ta) "rule") σ H (il (RR.shortest p row).rule) := fun H0 e Q q =>
  h H0 e _ fun vs H1 e1 ok => ⟨p, row, by rw [List.append_nil]; exact ok, hp, fun x dx r s H2 e2 nx nr ns nrs hx hr hs => ⟨x, C, dx, _, _, rfl, hx, cl, na, fl3_rule _ _ _, q r H2 (e1.trans e2) (sq_of hr)⟩⟩
theorem ev_leastPlace {K : PySem.W.Frag} {C : Addr} {σ : L2.St} {H : Hp} {E : XK} {ta : TA} {p : Int} {row : List Int} (h : EvAs K ta σ H [.v (.int p), .l (il row)]) (hp : Good p ∧ Rs p row ∧ row.length ≤ 1000) (cl : Cls K C) (na : NoAttr K C "place") :
    Ev (tFld K (tCall (sp_least K C) [] E ta) "place") σ H (.int (RR.shortest p row).place) := fun H0 e Q q =>
  h H0 e _ fun vs H1 e1 ok => ⟨p, row, by rw [List.append_nil]; exact ok, hp, fun x dx r s H2 e2 nx nr ns nrs hx hr hs => ⟨x, C, dx, _, _, rfl, hx, cl, na, fl3_place _ _ _, q H2 (e1.trans e2)⟩⟩
theorem ok_least (T : Txt K mg) : FnOk P w K mg base CX0 4 T.a_least T.f_least ["prime", "row"] (sp_least K T.a_Least) := by
  refine T.F_least.ok sc_least (fun vs H Q E h => ?_) (fun cdv A outer s H vs Q E hr h => ?_)
  · obtain ⟨p, row, h, _⟩ := h
    exact h.len
  · obtain ⟨p, row, ⟨_, _, rfl, rfl, _, _, rfl, ⟨a_row, rfl, h_row⟩, rfl⟩, ⟨hp, hrs, hlen⟩, q⟩ := h
    rw [show start ["prime", "row", "rule", "shorter", "place", "miss"] [.int p, .ref a_row] = [some (.int p), some (.ref a_row), none, none, none, none] from rfl]
    refine ⟨_, (pss_cons (ps_expr (pe_call (ok_check_prime T) (hr.mono (by decide)) (by rfl) T.g_check_prime T.F_check_prime.kp T.b_check_prime .nil pass0 (pa_cons (pv 0) pa_nil)))
      (pss_cons (ps_expr (pe_call (ok_check_row T) (hr.mono (by decide)) (by rfl) T.g_check_row T.F_check_row.kp T.b_check_row .nil pass0 (pa_cons (pv 0) (pa_cons (pv 1) pa_nil))))
      (pss_cons (ps_asg (pe_call (ok_shortest T) (hr.mono (by decide)) (by rfl) T.g_shortest T.F_shortest.kp T.b_shortest .nil pass0 (pa_cons (pv 0) (pa_cons (pv 1) pa_nil))) (xg_tup K rfl 4 rfl (pgs_cons (pg_name (i := 2) sc_least.nd rfl (.inl rfl)) (pgs_cons (pg_name (i := 3) sc_least.nd rfl (.inl rfl)) (pgs_cons (pg_name (i := 4) sc_least.nd rfl (.inl rfl)) (pgs_cons (pg_name (i := 5) sc_least.nd rfl (.inl rfl)) pgs_nil))))))
      (pss_one (ps_ret (pe_make T.M_Least (ok_Least___init__ T) (hr.mono (by decide)) (by rfl) T.g_Least T.b_Least___init__ .nil pass0 (pa_cons (pv 2) (pa_cons (pv 3) (pa_cons (pv 4) pa_nil))))))))), ?_⟩
    refine q_drop (v := .non) (by walk_at "ev") fun H1 e1 => ?_
    have h_row1 := ex_l e1 h_row
    refine q_drop (v := .non) ?_ fun H2 e2 => ?_
    · walk_at "ev"
      all_goals exact ⟨hrs, by omega⟩
    have h_row2 := ex_l e2 h_row1
    refine q_shortest (p := p) (row := row) (by walk_at "ev") ⟨hp, hlen⟩ fun r s H3 e3 nr ns nrs hr3 hs3 => ?_
    refine make_Least (rule := (RR.shortest p row).rule) (shorter := (RR.shortest p row).shorter) (pl := (RR.shortest p row).place) (by walk_at "ev") fun x dx r2 s2 H4 e4 nx nr2 ns2 nrs2 hx hr4 hs4 => ?_
    have E := (e1.trans e2).trans e3
    exact q x dx r2 s2 H4 (E.trans e4) (fresh_back E nx) (fresh_back E nr2) (fresh_back E ns2) nrs2 hx hr4 hs4
/-! _law_cell_at -/
def sp__law_cell_at (K : PySem.W.Frag) : Sp := fun vs H Q _ => ∃ (ns : List Int) (k : Int), AgsOk K H [.l (il ns), .v (.int k)] vs ∧ (0 ≤ k) ∧ RetV (.int (g ns k.toNat)) H Q
theorem ev__law_cell_at {K : PySem.W.Frag} {σ : L2.St} {H : Hp} {E : XK} {ta : TA} {ns : List Int} {k : Int} (h : EvAs K ta σ H [.l (il ns), .v (.int k)]) (hp : 0 ≤ k) : Ev (tCall (sp__law_cell_at K) [] E ta) σ H (.int (g ns k.toNat)) := fun H1 e Q q =>
  h H1 e _ fun vs H2 e2 ok => ⟨ns, k, by rw [List.append_nil]; exact ok, hp, fun H3 e3 => q H3 (e2.trans e3)⟩
local macro_rules | `(tactic| walk_at "own") => `(tactic| ((with_reducible apply ev__law_cell_at) <;> walk_at "ev"))
theorem ok__law_cell_at (T : Txt K mg) : FnOk P w K mg base CX0 1 T.a__law_cell_at T.f__law_cell_at ["_law_script", "_law_k"] (sp__law_cell_at K) := by
  refine T.F__law_cell_at.ok sc__law_cell_at (fun vs H Q E h => ?_) (fun cdv A outer s H vs Q E hr h => ?_)
  · obtain ⟨ns, k, h, _⟩ := h
    exact h.len
  · obtain ⟨ns, k, ⟨_, _, rfl, ⟨a__law_script, rfl, h__law_script⟩, _, _, rfl, rfl, rfl⟩, hp, q⟩ := h
    rw [show start ["_law_script", "_law_k"] [(.ref a__law_script), (.int k)] = [some (.ref a__law_script), some (.int k)] from rfl]
    refine ⟨_, (pss_cons (ps_if (pt_cmpR op_lt (pv 1) (x_len K rfl T.n_len (by rfl) (pa_cons (pv 0) pa_nil)) (nomark _)) (pss_one (ps_ret (x_ixL K rfl (pv 0) (pv 1) (fun _ _ => rfl)))) pss_nil)
      (pss_one (ps_ret pe_int))), ?_⟩
    refine q_when (b := decide (k < (ns.length : Int))) (by walk_at "ev") (fun c H1 e1 => ?_) (fun c H1 e1 => ?_)
    · have c1 := of_decide_eq_true c
      have h1 := ex_l e1 h__law_script
      exact s_ret (v := .int (g ns k.toNat)) (by walk_at "ev") fun H2 e2 => q H2 (e1.trans e2)
    · have c1 := of_decide_eq_false c
      refine s_ret (v := .int (g ns k.toNat)) ?_ fun H2 e2 => q H2 (e1.trans e2)
      apply ev_is
      walk_at "ev"
      rw [g_out (by omega)]
/-! _law_draw -/
def sp__law_draw (K : PySem.W.Frag) : Sp := fun vs H Q _ => ∃ (c k m : Int), AgsOk K H [.v (.int c), .v (.int k), .v (.int m)] vs ∧ (0 < m) ∧ RetV (.int (draw c k m)) H Q
theorem ev__law_draw {K : PySem.W.Frag} {σ : L2.St} {H : Hp} {E : XK} {ta : TA} {c k m : Int} (h : EvAs K ta σ H [.v (.int c), .v (.int k), .v (.int m)]) (hp : 0 < m) : Ev (tCall (sp__law_draw K) [] E ta) σ H (.int (draw c k m)) := fun H1 e Q q =>
  h H1 e _ fun vs H2 e2 ok => ⟨c, k, m, by rw [List.append_nil]; exact ok, hp, fun H3 e3 => q H3 (e2.trans e3)⟩
local macro_rules | `(tactic| walk_at "own") => `(tactic| ((with_reducible apply ev__law_draw) <;> walk_at "ev"))
theorem ok__law_draw (T : Txt K mg) : FnOk P w K mg base CX0 1 T.a__law_draw T.f__law_draw ["_law_cell", "_law_k", "_law_many"] (sp__law_draw K) := by
  refine T.F__law_draw.ok sc__law_draw (fun vs H Q E h => ?_) (fun cdv A outer s H vs Q E hr h => ?_)
  · obtain ⟨c, k, m, h, _⟩ := h
    exact h.len
  · obtain ⟨c, k, m, ⟨_, _, rfl, rfl, _, _, rfl, rfl, _, _, rfl, rfl, rfl⟩, hp, q⟩ := h
    rw [show start ["_law_cell", "_law_k", "_law_many", "_law_primes"] [(.int c), (.int k), (.int m)] = [some (.int c), some (.int k), some (.int m), none] from rfl]
    refine ⟨_, (pss_cons (ps_set (i := 3) sc__law_draw.nd rfl (.inl rfl) (pe_tup (pa_cons pe_int (pa_cons pe_int (pa_cons pe_int (pa_cons pe_int (pa_cons pe_int (pa_cons pe_int (pa_cons pe_int (pa_cons pe_int (pa_cons pe_int (pa_cons pe_int (pa_cons pe_int (pa_cons pe_int (pa_cons pe_int (pa_cons pe_int (pa_cons pe_int (pa_cons pe_int pa_nil))))))))))))))))))
      (pss_one (ps_ret (pe_op op_mod (pe_op op_mod (pe_op op_add (pe_op op_mul (pv 0) pe_int) (pe_op op_mul (pv 1) pe_int)) (x_ixT K rfl (pv 3) (pe_op op_mod (pv 1) pe_int) (fun _ _ => rfl))) (pv 2))))), ?_⟩
    refine q_asgU (i := 3) (xs := il PR) ?_ fun t H1 nt e1 ht => ?_
    · apply eu_is
      walk_at "ev"
      rfl
    have hk1 : 0 ≤ k % 16 := Int.emod_nonneg _ (by decide)
    have hk2 : k % 16 < 16 := Int.emod_lt_of_pos _ (by decide)
    have hk3 : (PR.length : Int) = 16 := rfl
    have hk4 := PR_pos k
    refine s_ret (v := .int (draw c k m)) ?_ fun H2 e2 => q H2 (e1.trans e2)
    apply ev_is
    walk_at "ev"
    rfl
/-! _law_prime -/
def sp__law_prime (K : PySem.W.Frag) : Sp := fun vs H Q _ => ∃ (ns : List Int), AgsOk K H [.l (il ns)] vs ∧ (True) ∧ RetV (.int (lawPrime ns)) H Q
theorem ev__law_prime {K : PySem.W.Frag} {σ : L2.St} {H : Hp} {E : XK} {ta : TA} {ns : List Int} (h : EvAs K ta σ H [.l (il ns)]) (hp : True) : Ev (tCall (sp__law_prime K) [] E ta) σ H (.int (lawPrime ns)) := fun H1 e Q q =>
  h H1 e _ fun vs H2 e2 ok => ⟨ns, by rw [List.append_nil]; exact ok, hp, fun H3 e3 => q H3 (e2.trans e3)⟩
local macro_rules | `(tactic| walk_at "own") => `(tactic| ((with_reducible apply ev__law_prime) <;> walk_at "ev"))
theorem ok__law_prime (T : Txt K mg) : FnOk P w K mg base CX0 2 T.a__law_prime T.f__law_prime ["_law_script"] (sp__law_prime K) := by
  refine T.F__law_prime.ok sc__law_prime (fun vs H Q E h => ?_) (fun cdv A outer s H vs Q E hr h => ?_)
  · obtain ⟨ns, h, _⟩ := h
    exact h.len
  · obtain ⟨ns, ⟨_, _, rfl, ⟨a__law_script, rfl, h__law_script⟩, rfl⟩, hp, q⟩ := h
    rw [show start ["_law_script"] [(.ref a__law_script)] = [some (.ref a__law_script)] from rfl]
    refine ⟨_, (pss_one (ps_ret (x_ixT K rfl (pe_tup (pa_cons pe_int (pa_cons pe_int (pa_cons pe_int (pa_cons pe_int (pa_cons pe_int (pa_cons pe_int (pa_cons pe_int (pa_cons pe_int (pa_cons pe_int (pa_cons pe_int pa_nil))))))))))) (pe_call (ok__law_draw T) (hr.mono (by decide)) (by rfl) T.g__law_draw T.F__law_draw.kp T.b__law_draw .nil pass0 (pa_cons (pe_call (ok__law_cell_at T) (hr.mono (by decide)) (by rfl) T.g__law_cell_at T.F__law_cell_at.kp T.b__law_cell_at .nil pass0 (pa_cons (pv 0) (pa_cons pe_int pa_nil))) (pa_cons pe_int (pa_cons pe_int pa_nil)))) (fun _ _ => rfl)))), ?_⟩
    have hd := draw_in (c := g ns 0) (k := 6) (m := 10) (by decide)
    refine s_ret (v := .int (lawPrime ns)) ?_ q
    apply ev_is
    refine ev_ixUi (ns := PL) (i := draw (g ns 0) 6 10) ?_ ?_ ?_
    · apply eu_is
      walk_at "ev"
      rfl
    · apply ev_is
      walk_at "ev"
      rfl
    · show _ ∧ _ < (10 : Int)
      exact hd
    · rfl
/-! _law_rests -/
def sp__law_rests (K : PySem.W.Frag) : Sp := fun vs H Q _ => ∃ (ns : List Int) (b p m : Int), AgsOk K H [.l (il ns), .v (.int b), .v (.int p), .v (.int m)] vs ∧ (0 < p ∧ 0 ≤ m ∧ m ≤ 1000) ∧ RetL (il (lawRests ns b p m)) H Q
theorem el__law_rests {K : PySem.W.Frag} {σ : L2.St} {H : Hp} {E : XK} {ta : TA} {ns : List Int} {b p m : Int} (h : EvAs K ta σ H [.l (il ns), .v (.int b), .v (.int p), .v (.int m)]) (hp : 0 < p ∧ 0 ≤ m ∧ m ≤ 1000) : EvL (tCall (sp__law_rests K) [] E ta) σ H (il (lawRests ns b p m)) := fun H1 e Q q =>
  h H1 e _ fun vs H2 e2 ok => ⟨ns, b, p, m, by rw [List.append_nil]; exact ok, hp, fun p H3 hn e3 h3 => q p H3 (fresh_back e2 hn) (e2.trans e3) h3⟩
local macro_rules | `(tactic| walk_at "own") => `(tactic| ((with_reducible apply el__law_rests) <;> walk_at "ev"))
theorem ok__law_rests (T : Txt K mg) : FnOk P w K mg base CX0 2 T.a__law_rests T.f__law_rests ["_law_script", "_law_by", "_law_prime_here", "_law_many"] (sp__law_rests K) := by
  refine T.F__law_rests.ok sc__law_rests (fun vs H Q E h => ?_) (fun cdv A outer s H vs Q E hr h => ?_)
  · obtain ⟨ns, b, p, m, h, _⟩ := h
    exact h.len
  · obtain ⟨ns, b, p, m, ⟨_, _, rfl, ⟨a__law_script, rfl, h__law_script⟩, _, _, rfl, rfl, _, _, rfl, rfl, _, _, rfl, rfl, rfl⟩, hp, q⟩ := h
    rw [show start ["_law_script", "_law_by", "_law_prime_here", "_law_many", "_law_k"] [(.ref a__law_script), (.int b), (.int p), (.int m)] = [some (.ref a__law_script), some (.int b), some (.int p), some (.int m), none] from rfl]
    refine ⟨_, (pss_one (ps_ret (pe_lc (own := [("_law_k", 4)]) (g := (gName 4)) (tt := tYes) rfl sc__law_rests.nd (pi_range1 (by rfl) T.n_range (pa_cons (pv 3) pa_nil)) (blkOk_by (N := ["_law_script", "_law_by", "_law_prime_here", "_law_many", "_law_k"]) (sc := defScope s__law_rests) (by decide +kernel)) (fun _ _ _ _ _ => (pg_name (i := 4) sc__law_rests.nd rfl (Or.inl rfl))) (fun _ _ _ _ _ => pts_nil) (fun _ _ _ _ _ => (pe_call (ok__law_draw T) (hr.mono (by decide)) (by rfl) T.g__law_draw T.F__law_draw.kp T.b__law_draw .nil pass0 (pa_cons (pe_call (ok__law_cell_at T) (hr.mono (by decide)) (by rfl) T.g__law_cell_at T.F__law_cell_at.kp T.b__law_cell_at .nil pass0 (pa_cons (pv 0) (pa_cons (pv 4) pa_nil))) (pa_cons (pe_op op_add (pe_op op_mod (pv 4) pe_int) (pv 1)) (pa_cons (pv 2) pa_nil)))))))), ?_⟩
    refine s_retL (xs := il (lawRests ns b p m)) ?_ q
    apply el_lcNi (n := m) (fun k => draw (g ns k) ((k : Int) % 5 + b) p) (by walk_at "ev") (by omega) (fun _ => rfl)
    intro i H1 e hi
    have h__law_script := ex_l e h__law_script
    apply ev_is
    walk_at "ev"
    all_goals first | omega | rfl
/-! _law_due -/
def sp__law_due (K : PySem.W.Frag) : Sp := fun vs H Q _ => ∃ (p : Int) (rule row : List Int) (n : Int), AgsOk K H [.v (.int p), .l (il rule), .l (il row), .v (.int n)] vs ∧ (Good p ∧ Rs p rule ∧ rule.length ≤ n ∧ n ≤ row.length ∧ row.length ≤ 2000) ∧ RetV (.int (due p rule row n.toNat)) H Q
theorem ev__law_due {K : PySem.W.Frag} {σ : L2.St} {H : Hp} {E : XK} {ta : TA} {p : Int} {rule row : List Int} {n : Int} (h : EvAs K ta σ H [.v (.int p), .l (il rule), .l (il row), .v (.int n)]) (hp : Good p ∧ Rs p rule ∧ rule.length ≤ n ∧ n ≤ row.length ∧ row.length ≤ 2000) : Ev (tCall (sp__law_due K) [] E ta) σ H (.int (due p rule row n.toNat)) := fun H1 e Q q =>
  h H1 e _ fun vs H2 e2 ok => ⟨p, rule, row, n, by rw [List.append_nil]; exact ok, hp, fun H3 e3 => q H3 (e2.trans e3)⟩
local macro_rules | `(tactic| walk_at "own") => `(tactic| ((with_reducible apply ev__law_due) <;> walk_at "ev"))
theorem ok__law_due (T : Txt K mg) : FnOk P w K mg base CX0 1 T.a__law_due T.f__law_due ["_law_prime_here", "_law_rule", "_law_row_here", "_law_place"] (sp__law_due K) := by
  refine T.F__law_due.ok sc__law_due (fun vs H Q E h => ?_) (fun cdv A outer s H vs Q E hr h => ?_)
  · obtain ⟨p, rule, row, n, h, _⟩ := h
    exact h.len
  · obtain ⟨p, rule, row, n, ⟨_, _, rfl, rfl, _, _, rfl, ⟨a__law_rule, rfl, h__law_rule⟩, _, _, rfl, ⟨a__law_row_here, rfl, h__law_row_here⟩, _, _, rfl, rfl, rfl⟩, hp, q⟩ := h
    rw [show start ["_law_prime_here", "_law_rule", "_law_row_here", "_law_place", "_law_k", "_law_rest"] [(.int p), (.ref a__law_rule), (.ref a__law_row_here), (.int n)] = [some (.int p), some (.ref a__law_rule), some (.ref a__law_row_here), some (.int n), none, none] from rfl]
    refine ⟨_, (pss_one (ps_ret (pe_op op_mod (x_sum K rfl rfl T.n_sum (by rfl) (pa_cons (pe_lc (own := [("_law_k", 4), ("_law_rest", 5)]) (g := (gTup K 2 (gCons (gName 4) (gCons (gName 5) gNil)))) (tt := tYes) rfl sc__law_due.nd (xi_enum K rfl T.n_enumerate (by rfl) (pa_cons (pv 1) pa_nil)) (blkOk_by (N := ["_law_prime_here", "_law_rule", "_law_row_here", "_law_place", "_law_k", "_law_rest"]) (sc := defScope s__law_due) (by decide +kernel)) (fun _ _ _ _ _ => (xg_tup K rfl 2 rfl (pgs_cons (pg_name (i := 4) sc__law_due.nd rfl (Or.inl rfl)) (pgs_cons (pg_name (i := 5) sc__law_due.nd rfl (Or.inl rfl)) pgs_nil)))) (fun _ _ _ _ _ => pts_nil) (fun _ _ _ _ _ => (pe_op op_mul (pv 5) (x_ixL K rfl (pv 2) (pe_op op_sub (pe_op op_sub (pv 3) pe_int) (pv 4)) (fun _ _ => rfl))))) pa_nil)) (pv 0)))), ?_⟩
    obtain ⟨hp, hr2, h1, h2, h3⟩ := hp
    have g1 := hp.two
    have g2 := hp.most
    refine s_ret (v := .int (due p rule row n.toNat)) ?_ q
    apply ev_is
    walk_at "ev"
    · apply el_lcEi (fun i => g rule i * g row (n.toNat - 1 - i)) (by walk_at "ev") (by omega) (fun _ _ => rfl)
      intro i H1 e hi
      have h_row := ex_l e h__law_row_here
      have b1 := hr2.g hp.pos i
      apply ev_is
      walk_at "ev"
      rw [show (n - 1 - (i : Int)).toNat = n.toNat - 1 - i by omega]
    · rw [S_range]
      rfl
/-! _law_made -/
def sp__law_made (K : PySem.W.Frag) : Sp := fun vs H Q _ => ∃ (p : Int) (rule row : List Int), AgsOk K H [.v (.int p), .l (il rule), .l (il row)] vs ∧ (Good p ∧ Rs p rule ∧ rule.length ≤ 2000 ∧ row.length ≤ 2000) ∧ RetV (.bl (makesAll p rule row)) H Q
theorem ev__law_made {K : PySem.W.Frag} {σ : L2.St} {H : Hp} {E : XK} {ta : TA} {p : Int} {rule row : List Int} (h : EvAs K ta σ H [.v (.int p), .l (il rule), .l (il row)]) (hp : Good p ∧ Rs p rule ∧ rule.length ≤ 2000 ∧ row.length ≤ 2000) : Ev (tCall (sp__law_made K) [] E ta) σ H (.bl (makesAll p rule row)) := fun H1 e Q q =>
  h H1 e _ fun vs H2 e2 ok => ⟨p, rule, row, by rw [List.append_nil]; exact ok, hp, fun H3 e3 => q H3 (e2.trans e3)⟩
local macro_rules | `(tactic| walk_at "own") => `(tactic| ((with_reducible apply ev__law_made) <;> walk_at "ev"))
theorem ok__law_made (T : Txt K mg) : FnOk P w K mg base CX0 2 T.a__law_made T.f__law_made ["_law_prime_here", "_law_rule", "_law_row_here"] (sp__law_made K) := by
  refine T.F__law_made.ok sc__law_made (fun vs H Q E h => ?_) (fun cdv A outer s H vs Q E hr h => ?_)
  · obtain ⟨p, rule, row, h, _⟩ := h
    exact h.len
  · obtain ⟨p, rule, row, ⟨_, _, rfl, rfl, _, _, rfl, ⟨a__law_rule, rfl, h__law_rule⟩, _, _, rfl, ⟨a__law_row_here, rfl, h__law_row_here⟩, rfl⟩, hp, q⟩ := h
    rw [show start ["_law_prime_here", "_law_rule", "_law_row_here", "_law_place"] [(.int p), (.ref a__law_rule), (.ref a__law_row_here)] = [some (.int p), some (.ref a__law_rule), some (.ref a__law_row_here), none] from rfl]
    refine ⟨_, (pss_one (ps_ret (x_all K rfl rfl T.n_all (by rfl) (pa_cons (pe_lc (own := [("_law_place", 3)]) (g := (gName 3)) (tt := tYes) rfl sc__law_made.nd (pi_range2 (by rfl) T.n_range (pa_cons (x_len K rfl T.n_len (by rfl) (pa_cons (pv 1) pa_nil)) (pa_cons (x_len K rfl T.n_len (by rfl) (pa_cons (pv 2) pa_nil)) pa_nil))) (blkOk_by (N := ["_law_prime_here", "_law_rule", "_law_row_here", "_law_place"]) (sc := defScope s__law_made) (by decide +kernel)) (fun _ _ _ _ _ => (pg_name (i := 3) sc__law_made.nd rfl (Or.inl rfl))) (fun _ _ _ _ _ => pts_nil) (fun _ _ _ _ _ => (pe_cmpR op_eq (x_ixL K rfl (pv 2) (pv 3) (fun _ _ => rfl)) (pe_call (ok__law_due T) (hr.mono (by decide)) (by rfl) T.g__law_due T.F__law_due.kp T.b__law_due .nil pass0 (pa_cons (pv 0) (pa_cons (pv 1) (pa_cons (pv 2) (pa_cons (pv 3) pa_nil))))) (nomark _)))) pa_nil)))), ?_⟩
    obtain ⟨hp, hr2, h1, h2⟩ := hp
    refine s_ret (v := .bl (makesAll p rule row)) ?_ q
    apply ev_is
    walk_at "ev"
    · apply el_lcRb (lo := (rule.length : Int)) (hi := (row.length : Int)) (fun i => decide (g row (rule.length + i) = due p rule row (rule.length + i))) (by walk_at "ev") (by omega) (by omega) (fun _ => rfl)
      intro i H1 e hi
      have h_row := ex_l e h__law_row_here
      have h_rule := ex_l e h__law_rule
      apply ev_is
      walk_at "ev"
      · exact ⟨hp, hr2, by omega, by omega, by omega⟩
      · rw [show ((rule.length : Int) + (i : Int)).toNat = rule.length + i by omega]
    · unfold makesAll
      rw [List.all_map, show ((row.length : Int) - (rule.length : Int)).toNat = row.length - rule.length by omega]
      rfl
/-! _law_rested -/
def sp__law_rested (K : PySem.W.Frag) : Sp := fun vs H Q _ => ∃ (p : Int) (xs : List Int), AgsOk K H [.v (.int p), .l (il xs)] vs ∧ (xs.length ≤ 2000) ∧ RetV (.bl (rs p xs)) H Q
theorem ev__law_rested {K : PySem.W.Frag} {σ : L2.St} {H : Hp} {E : XK} {ta : TA} {p : Int} {xs : List Int} (h : EvAs K ta σ H [.v (.int p), .l (il xs)]) (hp : xs.length ≤ 2000) : Ev (tCall (sp__law_rested K) [] E ta) σ H (.bl (rs p xs)) := fun H1 e Q q =>
  h H1 e _ fun vs H2 e2 ok => ⟨p, xs, by rw [List.append_nil]; exact ok, hp, fun H3 e3 => q H3 (e2.trans e3)⟩
local macro_rules | `(tactic| walk_at "own") => `(tactic| ((with_reducible apply ev__law_rested) <;> walk_at "ev"))
theorem ok__law_rested (T : Txt K mg) : FnOk P w K mg base CX0 1 T.a__law_rested T.f__law_rested ["_law_prime_here", "_law_found"] (sp__law_rested K) := by
  refine T.F__law_rested.ok sc__law_rested (fun vs H Q E h => ?_) (fun cdv A outer s H vs Q E hr h => ?_)
  · obtain ⟨p, xs, h, _⟩ := h
    exact h.len
  · obtain ⟨p, xs, ⟨_, _, rfl, rfl, _, _, rfl, ⟨a__law_found, rfl, h__law_found⟩, rfl⟩, hp, q⟩ := h
    rw [show start ["_law_prime_here", "_law_found", "_law_one"] [(.int p), (.ref a__law_found)] = [some (.int p), some (.ref a__law_found), none] from rfl]
    refine ⟨_, (pss_cons (ps_if (PW.pt (pw_or (pt_not (pt_val (x_isi K rfl T.n_isinstance (by rfl) (pa_cons (pv 1) (pa_cons (x_ty "list" T.n_list (by rfl) (by decide +kernel)) pa_nil))))) (pw_or1 (pt_val (x_any K rfl rfl T.n_any (by rfl) (pa_cons (pe_lc (own := [("_law_one", 2)]) (g := (gName 2)) (tt := tYes) rfl sc__law_rested.nd (xi_list K rfl (pv 1)) (blkOk_by (N := ["_law_prime_here", "_law_found", "_law_one"]) (sc := defScope s__law_rested) (by decide +kernel)) (fun _ _ _ _ _ => (pg_name (i := 2) sc__law_rested.nd rfl (Or.inl rfl))) (fun _ _ _ _ _ => pts_nil) (fun _ _ _ _ _ => (pe_or (x_isi K rfl T.n_isinstance (by rfl) (pa_cons (pv 2) (pa_cons (x_ty "bool" T.n_bool (by rfl) (by decide +kernel)) pa_nil))) (pe_one (pe_not (x_isi K rfl T.n_isinstance (by rfl) (pa_cons (pv 2) (pa_cons (x_ty "int" T.n_int (by rfl) (by decide +kernel)) pa_nil)))))))) pa_nil)))))) (pss_one (ps_ret pe_bl)) pss_nil)
      (pss_one (ps_ret (x_all K rfl rfl T.n_all (by rfl) (pa_cons (pe_lc (own := [("_law_one", 2)]) (g := (gName 2)) (tt := tYes) rfl sc__law_rested.nd (xi_list K rfl (pv 1)) (blkOk_by (N := ["_law_prime_here", "_law_found", "_law_one"]) (sc := defScope s__law_rested) (by decide +kernel)) (fun _ _ _ _ _ => (pg_name (i := 2) sc__law_rested.nd rfl (Or.inl rfl))) (fun _ _ _ _ _ => pts_nil) (fun _ _ _ _ _ => (pe_chain op_le op_lt pe_int (pv 2) (pv 0)))) pa_nil))))), ?_⟩
    have e0 : (xs.map fun _ => false).any id = false := by
      rw [List.any_eq_false]
      intro b hb
      obtain ⟨_, _, rfl⟩ := List.mem_map.mp hb
      decide
    refine q_skip (b := false) ?_ rfl fun H1 e1 => ?_
    · apply et_is
      walk_at "ev"
      · apply el_lcIb (fun x => false) (by walk_at "ev") (by omega) (fun _ => rfl)
        intro x H1 e hx
        apply ev_is
        walk_at "ev"
        rfl
      · rw [e0]
        rfl
    have h1 := ex_l e1 h__law_found
    refine s_ret (v := .bl (rs p xs)) ?_ fun H2 e2 => q H2 (e1.trans e2)
    apply ev_is
    walk_at "ev"
    · apply el_lcIb (fun x => decide (0 ≤ x) && decide (x < p)) (by walk_at "ev") (by omega) (fun _ => rfl)
      intro x H1 e hx
      walk_at "ev"
    · simp [rs, List.all_map]
/-! _law_least -/
def sp__law_least (K : PySem.W.Frag) : Sp := fun vs H Q _ => ∃ (p : Int) (row rule shorter : List Int) (place : Int), AgsOk K H [.v (.int p), .l (il row), .l (il rule), .l (il shorter), .v (.int place)] vs ∧ (Good p ∧ row.length ≤ 2000 ∧ rule.length ≤ 2000 ∧ shorter.length ≤ 2000) ∧ RetV (.bl (isLeast p row rule shorter place)) H Q
theorem ev__law_least {K : PySem.W.Frag} {σ : L2.St} {H : Hp} {E : XK} {ta : TA} {p : Int} {row rule shorter : List Int} {place : Int} (h : EvAs K ta σ H [.v (.int p), .l (il row), .l (il rule), .l (il shorter), .v (.int place)]) (hp : Good p ∧ row.length ≤ 2000 ∧ rule.length ≤ 2000 ∧ shorter.length ≤ 2000) : Ev (tCall (sp__law_least K) [] E ta) σ H (.bl (isLeast p row rule shorter place)) := fun H1 e Q q =>
  h H1 e _ fun vs H2 e2 ok => ⟨p, row, rule, shorter, place, by rw [List.append_nil]; exact ok, hp, fun H3 e3 => q H3 (e2.trans e3)⟩
local macro_rules | `(tactic| walk_at "own") => `(tactic| ((with_reducible apply ev__law_least) <;> walk_at "ev"))
theorem ok__law_least (T : Txt K mg) : FnOk P w K mg base CX0 3 T.a__law_least T.f__law_least ["_law_prime_here", "_law_row_here", "_law_rule", "_law_shorter", "_law_place"] (sp__law_least K) := by
  refine T.F__law_least.ok sc__law_least (fun vs H Q E h => ?_) (fun cdv A outer s H vs Q E hr h => ?_)
  · obtain ⟨p, row, rule, shorter, place, h, _⟩ := h
    exact h.len
  · obtain ⟨p, row, rule, shorter, place, ⟨_, _, rfl, rfl, _, _, rfl, ⟨a__law_row_here, rfl, h__law_row_here⟩, _, _, rfl, ⟨a__law_rule, rfl, h__law_rule⟩, _, _, rfl, ⟨a__law_shorter, rfl, h__law_shorter⟩, _, _, rfl, rfl, rfl⟩, hp, q⟩ := h
    rw [show start ["_law_prime_here", "_law_row_here", "_law_rule", "_law_shorter", "_law_place"] [(.int p), (.ref a__law_row_here), (.ref a__law_rule), (.ref a__law_shorter), (.int place)] = [some (.int p), some (.ref a__law_row_here), some (.ref a__law_rule), some (.ref a__law_shorter), some (.int place)] from rfl]
    refine ⟨_, (pss_cons (ps_if (PW.pt (pw_or (pt_not (pt_val (pe_call (ok__law_rested T) (hr.mono (by decide)) (by rfl) T.g__law_rested T.F__law_rested.kp T.b__law_rested .nil pass0 (pa_cons (pv 0) (pa_cons (pv 2) pa_nil))))) (pw_or (pt_not (pt_val (pe_call (ok__law_rested T) (hr.mono (by decide)) (by rfl) T.g__law_rested T.F__law_rested.kp T.b__law_rested .nil pass0 (pa_cons (pv 0) (pa_cons (pv 3) pa_nil))))) (pw_or1 (pt_not (pt_val (pe_call (ok__law_made T) (hr.mono (by decide)) (by rfl) T.g__law_made T.F__law_made.kp T.b__law_made .nil pass0 (pa_cons (pv 0) (pa_cons (pv 2) (pa_cons (pv 1) pa_nil)))))))))) (pss_one (ps_ret pe_bl)) pss_nil)
      (pss_cons (ps_if (x_eqDt K rfl hr.units (pv 2) (pe_lst pa_nil)) (pss_one (ps_ret (pe_and (x_eqD K rfl hr.units (pv 3) (pe_lst pa_nil)) (pe_one (pe_cmpR op_eq (pv 4) (pe_un un_neg pe_int) (nomark _)))))) pss_nil)
      (pss_cons (ps_if (PW.pt (pw_or (pt_not (pt_chain op_le op_lt (x_len K rfl T.n_len (by rfl) (pa_cons (pv 3) pa_nil)) (pv 4) (x_len K rfl T.n_len (by rfl) (pa_cons (pv 1) pa_nil)))) (pw_or (pt_cmpR op_ne (pe_op op_add (x_len K rfl T.n_len (by rfl) (pa_cons (pv 2) pa_nil)) (x_len K rfl T.n_len (by rfl) (pa_cons (pv 3) pa_nil))) (pe_op op_add (pv 4) pe_int) (nomark _)) (pw_or1 (pt_cmpR op_ge (x_len K rfl T.n_len (by rfl) (pa_cons (pv 3) pa_nil)) (x_len K rfl T.n_len (by rfl) (pa_cons (pv 2) pa_nil)) (nomark _)))))) (pss_one (ps_ret pe_bl)) pss_nil)
      (pss_one (ps_ret (pe_and (pe_call (ok__law_made T) (hr.mono (by decide)) (by rfl) T.g__law_made T.F__law_made.kp T.b__law_made .nil pass0 (pa_cons (pv 0) (pa_cons (pv 3) (pa_cons (x_sl K rfl (pv 1) po_none (po_some (pv 4))) pa_nil)))) (pe_one (pe_cmpR op_ne (x_ixL K rfl (pv 1) (pv 4) (fun _ _ => rfl)) (pe_call (ok__law_due T) (hr.mono (by decide)) (by rfl) T.g__law_due T.F__law_due.kp T.b__law_due .nil pass0 (pa_cons (pv 0) (pa_cons (pv 3) (pa_cons (pv 1) (pa_cons (pv 4) pa_nil))))) (nomark _))))))))), ?_⟩
    obtain ⟨hp, h1, h2, h3⟩ := hp
    have nl : ∀ l : List Int, decide (l = []) = decide ((l.length : Int) = 0) := fun l => by
      cases l with
      | nil => rfl
      | cons a l => simp; omega
    refine q_when (b := !(rs p rule) || (!(rs p shorter) || !(makesAll p rule row))) ?_ (fun c H1 e1 => ?_) (fun c H1 e1 => ?_)
    · walk_at "ev"
      exact ⟨hp, rs_iff.mp (by assumption), h2, h1⟩
    · refine s_ret (v := .bl (isLeast p row rule shorter place)) ?_ fun H2 e2 => q H2 (e1.trans e2)
      apply ev_is
      walk_at "ev"
      unfold isLeast
      rw [if_pos c]
    have c2 := c
    simp only [Bool.or_eq_false_iff, Bool.not_eq_false'] at c2
    obtain ⟨c2, c3, c4⟩ := c2
    have hk : Has K H1 [(a__law_row_here, il row), (a__law_rule, il rule), (a__law_shorter, il shorter)] := .cons (ex_l e1 h__law_row_here) (.cons (ex_l e1 h__law_rule) (.cons (ex_l e1 h__law_shorter) .nil))
    refine q_when (b := decide (rule = [])) (by walk_at "ev") (fun d H2 e2 => ?_) (fun d H2 e2 => ?_)
    · have hk := hk.up e2
      refine s_ret (v := .bl (isLeast p row rule shorter place)) ?_ fun H3 e3 => q H3 ((e1.trans e2).trans e3)
      apply ev_is
      walk_at "ev"
      unfold isLeast
      rw [nl] at d
      rw [if_neg (by rw [c]; decide), if_pos d, nl]
    have hk := hk.up e2
    rw [nl] at d
    refine q_when (b := !(decide ((shorter.length : Int) ≤ place) && decide (place < (row.length : Int))) || (!(decide ((rule.length : Int) + (shorter.length : Int) = place + 1)) || decide ((rule.length : Int) ≤ (shorter.length : Int)))) (by walk_at "ev") (fun f H3 e3 => ?_) (fun f H3 e3 => ?_)
    · refine s_ret (v := .bl (isLeast p row rule shorter place)) ?_ fun H4 e4 => q H4 (((e1.trans e2).trans e3).trans e4)
      apply ev_is
      walk_at "ev"
      unfold isLeast
      rw [if_neg (by rw [c]; decide), if_neg (by rw [d]; decide), if_pos f]
    have hk := hk.up e3
    have f2 := f
    simp only [Bool.or_eq_false_iff, Bool.not_eq_false', Bool.and_eq_true, decide_eq_true_eq, decide_eq_false_iff_not] at f2
    refine s_ret (v := .bl (isLeast p row rule shorter place)) ?_ fun H4 e4 => q H4 (((e1.trans e2).trans e3).trans e4)
    apply ev_is
    walk_at "ev"
    · exact ⟨hp, rs_iff.mp c3, h3, by simp; omega⟩
    · exact ⟨hp, rs_iff.mp c3, by omega, by omega, h1⟩
    · unfold isLeast
      rw [if_neg (by rw [c]; decide), if_neg (by rw [d]; decide), if_neg (by rw [f]; decide)]
/-! _law_row -/
def sp__law_row (K : PySem.W.Frag) : Sp := fun vs H Q _ => ∃ (ns : List Int) (p : Int), AgsOk K H [.l (il ns), .v (.int p)] vs ∧ (Good p ∧ ns.length ≤ 63) ∧ RetL (il (lawRow ns p)) H Q
theorem el__law_row {K : PySem.W.Frag} {σ : L2.St} {H : Hp} {E : XK} {ta : TA} {ns : List Int} {p : Int} (h : EvAs K ta σ H [.l (il ns), .v (.int p)]) (hp : Good p ∧ ns.length ≤ 63) : EvL (tCall (sp__law_row K) [] E ta) σ H (il (lawRow ns p)) := fun H1 e Q q =>
  h H1 e _ fun vs H2 e2 ok => ⟨ns, p, by rw [List.append_nil]; exact ok, hp, fun p H3 hn e3 h3 => q p H3 (fresh_back e2 hn) (e2.trans e3) h3⟩
local macro_rules | `(tactic| walk_at "own") => `(tactic| ((with_reducible apply el__law_row) <;> walk_at "ev"))
theorem ok__law_row (T : Txt K mg) : FnOk P w K mg base CX0 3 T.a__law_row T.f__law_row ["_law_script", "_law_prime_here"] (sp__law_row K) := by
  refine T.F__law_row.ok sc__law_row (fun vs H Q E h => ?_) (fun cdv A outer s H vs Q E hr h => ?_)
  · obtain ⟨ns, p, h, _⟩ := h
    exact h.len
  · obtain ⟨ns, p, ⟨_, _, rfl, ⟨a__law_script, rfl, h__law_script⟩, _, _, rfl, rfl, rfl⟩, hp, q⟩ := h
    rw [show start ["_law_script", "_law_prime_here", "_law_kind", "_law_many", "_law_drawn", "_law_rule", "_law_place", "_law_k", "_law_number"] [(.ref a__law_script), (.int p)] = [some (.ref a__law_script), some (.int p), none, none, none, none, none, none, none] from rfl]
    refine ⟨_, (pss_cons (ps_par (i := 2) (j := 3) (by rfl) sc__law_row.nd rfl rfl (by decide) rfl rfl (pa_cons (pe_call (ok__law_draw T) (hr.mono (by decide)) (by rfl) T.g__law_draw T.F__law_draw.kp T.b__law_draw .nil pass0 (pa_cons (pe_call (ok__law_cell_at T) (hr.mono (by decide)) (by rfl) T.g__law_cell_at T.F__law_cell_at.kp T.b__law_cell_at .nil pass0 (pa_cons (pv 0) (pa_cons pe_int pa_nil))) (pa_cons pe_int (pa_cons pe_int pa_nil)))) (pa_cons (x_len K rfl T.n_len (by rfl) (pa_cons (pv 0) pa_nil)) pa_nil)) (by rfl))
      (pss_cons (ps_set (i := 4) sc__law_row.nd rfl (.inl rfl) (pe_call (ok__law_rests T) (hr.mono (by decide)) (by rfl) T.g__law_rests T.F__law_rests.kp T.b__law_rests .nil pass0 (pa_cons (pv 0) (pa_cons pe_int (pa_cons (pv 1) (pa_cons (pv 3) pa_nil))))))
      (pss_cons (ps_if (pt_cmpR op_eq (pv 2) pe_int (nomark _)) (pss_one (ps_ret (pe_lc (own := [("_law_k", 7), ("_law_number", 8)]) (g := (gTup K 2 (gCons (gName 7) (gCons (gName 8) gNil)))) (tt := tYes) rfl sc__law_row.nd (xi_enum K rfl T.n_enumerate (by rfl) (pa_cons (pv 4) pa_nil)) (blkOk_by (N := ["_law_script", "_law_prime_here", "_law_kind", "_law_many", "_law_drawn", "_law_rule", "_law_place", "_law_k", "_law_number"]) (sc := defScope s__law_row) (by decide +kernel)) (fun _ _ _ _ _ => (xg_tup K rfl 2 rfl (pgs_cons (pg_name (i := 7) sc__law_row.nd rfl (Or.inl rfl)) (pgs_cons (pg_name (i := 8) sc__law_row.nd rfl (Or.inl rfl)) pgs_nil)))) (fun _ _ _ _ _ => pts_nil) (fun _ _ _ _ _ => (pe_ifExp (pt_cmpR op_eq (pe_call (ok__law_draw T) (hr.mono (by decide)) (by rfl) T.g__law_draw T.F__law_draw.kp T.b__law_draw .nil pass0 (pa_cons (x_ixL K rfl (pv 0) (pv 7) (fun _ _ => rfl)) (pa_cons pe_int (pa_cons pe_int pa_nil)))) pe_int (nomark _)) (pv 8) pe_int))))) pss_nil)
      (pss_cons (ps_if (pt_cmpR op_lt (pv 2) pe_int (nomark _)) (pss_cons (ps_set (i := 5) sc__law_row.nd rfl (.inl rfl) (pe_call (ok__law_rests T) (hr.mono (by decide)) (by rfl) T.g__law_rests T.F__law_rests.kp T.b__law_rests .nil pass0 (pa_cons (x_sl K rfl (pv 0) (po_some pe_int) po_none) (pa_cons pe_int (pa_cons (pv 1) (pa_cons (pe_op op_add pe_int (pe_call (ok__law_draw T) (hr.mono (by decide)) (by rfl) T.g__law_draw T.F__law_draw.kp T.b__law_draw .nil pass0 (pa_cons (pe_call (ok__law_cell_at T) (hr.mono (by decide)) (by rfl) T.g__law_cell_at T.F__law_cell_at.kp T.b__law_cell_at .nil pass0 (pa_cons (pv 0) (pa_cons pe_int pa_nil))) (pa_cons pe_int (pa_cons pe_int pa_nil))))) pa_nil))))))
      (pss_one (ps_for PassesOwn.never rfl (pi_range2 (by rfl) T.n_range (pa_cons (x_len K rfl T.n_len (by rfl) (pa_cons (pv 5) pa_nil)) (pa_cons (pe_op op_sub (pv 3) (x_ixT K rfl (pe_tup (pa_cons pe_int (pa_cons pe_int (pa_cons pe_int (pa_cons pe_int pa_nil))))) (pv 2) (fun _ _ => rfl))) pa_nil))) (pg_name (i := 6) sc__law_row.nd rfl (.inl rfl)) (pss_one (ps_asg (pe_call (ok__law_due T) (hr.mono (by decide)) (by rfl) T.g__law_due T.F__law_due.kp T.b__law_due .nil pass0 (pa_cons (pv 1) (pa_cons (pv 5) (pa_cons (pv 4) (pa_cons (pv 6) pa_nil))))) (pg_sub (pv 4) (pv 6) set_list)))))) pss_nil)
      (pss_one (ps_ret (pv 4))))))), ?_⟩
    obtain ⟨hp, hlen⟩ := hp
    have g1 := hp.two
    have g2 := hp.most
    have hkd := draw_in (c := g ns 1) (k := 7) (m := 5) (by decide)
    have hrd := draw_in (c := g ns (Int.toNat 2)) (k := 8) (m := 6) (by decide)
    refine q_parVV (x := .int (lawKind ns)) (y := .int (ns.length : Int)) ?_ (by walk_at "ev") fun H1 e1 => ?_
    · apply ev_is
      walk_at "ev"
      rfl
    have h1 := ex_l e1 h__law_script
    refine q_asgL (i := 4) (xs := il (lawRests ns 1 p ns.length)) ?_ fun dr H2 ndr e2 hdr => ?_
    · walk_at "ev"
    have h2 := ex_l e2 h1
    have ndr0 := fresh_back e1 ndr
    have drl := lawRests_len ns 1 p ns.length
    refine q_when (b := decide (lawKind ns = 0)) (by walk_at "ev") (fun c H3 e3 => ?_) (fun c H3 e3 => ?_)
    · have hdr3 := e3 _ _ hdr
      have h3 := ex_l e3 h2
      refine s_retL (xs := il (lawRow ns p)) ?_ fun z H4 nz e4 hz => q z H4 (fresh_back ((e1.trans e2).trans e3) nz) (((e1.trans e2).trans e3).trans e4) hz
      apply el_is
      apply el_lcEi (ns := lawRests ns 1 p ns.length) (fun k => if decide (draw (g ns k) 9 5 = 0) = true then g (lawRests ns 1 p ns.length) k else 0) (by walk_at "ev") (by omega) (fun _ _ => rfl)
      · intro i H4 e hi
        have h4 := ex_l e h3
        rw [drl] at hi
        apply ev_is
        walk_at "ev"
        rfl
      · unfold lawRow
        rw [if_pos c, drl]
        rfl
    refine q_when (b := decide (lawKind ns < 4)) ?_ (fun d H4 e4 => ?_) (fun d H4 e4 => ?_)
    · walk_at "ev"
    · have c0 : lawKind ns ≠ 0 := of_decide_eq_false c
      have d0 : lawKind ns < 4 := of_decide_eq_true d
      have hdr4 := e4 _ _ (e3 _ _ hdr)
      have h4 := ex_l e4 (ex_l e3 h2)
      have hrl : (lawRule ns p).length = (1 + draw (g ns (Int.toNat 2)) 8 6).toNat := lawRests_len ..
      have hrr : Rs p (lawRule ns p) := lawRests_rs hp.pos
      have hdd : Rs p (lawRests ns 1 p ns.length) := lawRests_rs hp.pos
      refine q_asgL (i := 5) (xs := il (lawRule ns p)) ?_ fun ru H5 nru e5 hru => ?_
      · apply el_is
        walk_at "ev"
        all_goals first | exact ⟨hp.pos, by omega, by omega⟩ | rfl
      have hdr5 := e5 _ _ hdr4
      have h5 := ex_l e5 h4
      have E5 := (((e1.trans e2).trans e3).trans e4).trans e5
      have nru0 : H ru = none := fresh_back (((e1.trans e2).trans e3).trans e4) nru
      have ndru : ru ≠ dr := (ne_of_none hdr4 nru).symm
      have off : 0 ≤ g OFF (lawKind ns).toNat ∧ g OFF (lawKind ns).toNat ≤ 2 := by
        have : ∀ i : Nat, i < 4 → 0 ≤ g OFF i ∧ g OFF i ≤ 2 := by decide
        have hk : lawKind ns = draw (g ns 1) 7 5 := rfl
        exact this _ (by omega)
      have kge : 0 ≤ lawKind ns := hkd.1
      refine q_forR2 (j := 6) (lo := ((lawRule ns p).length : Int)) (n := (ns.length : Int) - g OFF (lawKind ns).toNat) ?_ ⟨by omega, by omega, by omega, by omega⟩
        (fun i σ' H' => ∃ x6, σ' = [some (.ref a__law_script), some (.int p), some (.int (lawKind ns)), some (.int (ns.length : Int)), some (.ref dr), some (.ref ru), x6, none, none] ∧ Ex H H' ∧ H' ru = some (.lst (il (lawRule ns p))) ∧ H' dr = some (.lst (il (fillF p (lawRule ns p) (lawRests ns 1 p ns.length) (lawRule ns p).length i))))
        (fun H6 e6 => ⟨none, rfl, E5.trans e6, e6 _ _ hru, e6 _ _ hdr5⟩) ?_ ?_
      · apply ea_is
        refine ea_cons (by walk_at "ev") (ea_cons (ev_sub (by walk_at "ev") (ev_ixUi (ns := OFF) (i := lawKind ns) ?_ (by walk_at "ev") ?_)) ea_nil)
        · apply eu_is
          walk_at "ev"
          rfl
        · show 0 ≤ _ ∧ _ < (4 : Int)
          omega
        · rfl
      · rintro i σ' H' hi ⟨x6, rfl, e6, hru6, hdr6⟩
        have fl := fillF_len p (lawRule ns p) (lawRests ns 1 p ns.length) (lawRule ns p).length i
        refine s_setI (ns := fillF p (lawRule ns p) (lawRests ns 1 p ns.length) (lawRule ns p).length i) (n := due p (lawRule ns p) (fillF p (lawRule ns p) (lawRests ns 1 p ns.length) (lawRule ns p).length i) ((lawRule ns p).length + i)) (i := ((lawRule ns p).length : Int) + (i : Int)) hdr6 ?_ (by walk_at "ev") (by walk_at "ev") (by omega) fun H7 e7 => ?_
        · apply ev_is
          walk_at "ev"
          · exact ⟨hp, hrr, by omega, by omega, by omega⟩
          · rw [show (((lawRule ns p).length : Int) + (i : Int)).toNat = (lawRule ns p).length + i by omega]
        · refine ⟨_, rfl, Ex.mut (e6.trans e7) ndr0, ?_, ?_⟩
          · rw [upd_ne ndru]
            exact e7 _ _ hru6
          · rw [upd_same, show (((lawRule ns p).length : Int) + (i : Int)).toNat = (lawRule ns p).length + i by omega]
            rfl
      · rintro σ' H' ⟨x6, rfl, e6, hru6, hdr6⟩
        refine tRet_ref (p := dr) rfl ?_
        have E : lawRow ns p = fillF p (lawRule ns p) (lawRests ns 1 p ns.length) (lawRule ns p).length ((ns.length : Int) - g OFF (lawKind ns).toNat - ((lawRule ns p).length : Int)).toNat := by
          unfold lawRow
          rw [if_neg (by rw [c]; decide), if_pos d]
        refine q dr H' ndr0 e6 ?_
        rw [E]
        exact hdr6
    · refine tRet_ref (p := dr) rfl ?_
      have E : lawRow ns p = lawRests ns 1 p ns.length := by
        unfold lawRow
        rw [if_neg (by rw [c]; decide), if_neg (by rw [d]; decide)]
      refine q dr H4 ndr0 (((e1.trans e2).trans e3).trans e4) ?_
      rw [E]
      exact e4 _ _ (e3 _ _ hdr)
/-! _law_says -/
def sp__law_says (K : PySem.W.Frag) : Sp := fun vs H Q _ => ∃ (a b : Bool), AgsOk K H [.v (.bl a), .v (.bl b)] vs ∧ (True) ∧ RetV (.bl (decide (a = b))) H Q
theorem ev__law_says {K : PySem.W.Frag} {σ : L2.St} {H : Hp} {E : XK} {ta : TA} {a b : Bool} (h : EvAs K ta σ H [.v (.bl a), .v (.bl b)]) (hp : True) : Ev (tCall (sp__law_says K) [] E ta) σ H (.bl (decide (a = b))) := fun H1 e Q q =>
  h H1 e _ fun vs H2 e2 ok => ⟨a, b, by rw [List.append_nil]; exact ok, hp, fun H3 e3 => q H3 (e2.trans e3)⟩
local macro_rules | `(tactic| walk_at "own") => `(tactic| ((with_reducible apply ev__law_says) <;> walk_at "ev"))
theorem ok__law_says (T : Txt K mg) : FnOk P w K mg base CX0 1 T.a__law_says T.f__law_says ["_law_said", "_law_due_here"] (sp__law_says K) := by
  refine T.F__law_says.ok sc__law_says (fun vs H Q E h => ?_) (fun cdv A outer s H vs Q E hr h => ?_)
  · obtain ⟨a, b, h, _⟩ := h
    exact h.len
  · obtain ⟨a, b, ⟨_, _, rfl, rfl, _, _, rfl, rfl, rfl⟩, hp, q⟩ := h
    rw [show start ["_law_said", "_law_due_here"] [(.bl a), (.bl b)] = [some (.bl a), some (.bl b)] from rfl]
    refine ⟨_, (pss_one (ps_ret (pe_and (x_isi K rfl T.n_isinstance (by rfl) (pa_cons (pv 0) (pa_cons (x_ty "bool" T.n_bool (by rfl) (by decide +kernel)) pa_nil))) (pe_one (pe_cmpR op_eq (pv 0) (pv 1) (nomark _)))))), ?_⟩
    refine s_ret (v := .bl (decide (a = b))) ?_ q
    apply ev_is
    walk_at "ev"
    rfl
/-! _law_bent -/
def sp__law_bent (K : PySem.W.Frag) : Sp := fun vs H Q _ => ∃ (l : List Int) (c p : Int), AgsOk K H [.m (il l), .v (.int c), .v (.int p)] vs ∧ (Good p ∧ l.length ≤ 1000) ∧ RetL (il (bent l c p)) H Q
theorem el__law_bent {K : PySem.W.Frag} {σ : L2.St} {H : Hp} {E : XK} {ta : TA} {l : List Int} {c p : Int} (h : EvAs K ta σ H [.m (il l), .v (.int c), .v (.int p)]) (hp : Good p ∧ l.length ≤ 1000) : EvL (tCall (sp__law_bent K) [] E ta) σ H (il (bent l c p)) := fun H1 e Q q =>
  h H1 e _ fun vs H2 e2 ok => ⟨l, c, p, by rw [List.append_nil]; exact ok, hp, fun p H3 hn e3 h3 => q p H3 (fresh_back e2 hn) (e2.trans e3) h3⟩
local macro_rules | `(tactic| walk_at "own") => `(tactic| ((with_reducible apply el__law_bent) <;> walk_at "ev"))
theorem ok__law_bent (T : Txt K mg) : FnOk P w K mg base CX0 2 T.a__law_bent T.f__law_bent ["_law_some", "_law_cell", "_law_prime_here"] (sp__law_bent K) := by
  refine T.F__law_bent.ok sc__law_bent (fun vs H Q E h => ?_) (fun cdv A outer s H vs Q E hr h => ?_)
  · obtain ⟨l, c, p, h, _⟩ := h
    exact h.len
  · obtain ⟨l, c, p, ⟨_, _, rfl, ⟨a__law_some, rfl, h__law_some⟩, _, _, rfl, rfl, _, _, rfl, rfl, rfl⟩, hp, q⟩ := h
    rw [show start ["_law_some", "_law_cell", "_law_prime_here", "_law_kind", "_law_at"] [(.ref a__law_some), (.int c), (.int p)] = [some (.ref a__law_some), some (.int c), some (.int p), none, none] from rfl]
    refine ⟨_, (pss_cons (ps_par (i := 3) (j := 4) (by rfl) sc__law_bent.nd rfl rfl (by decide) rfl rfl (pa_cons (pe_call (ok__law_draw T) (hr.mono (by decide)) (by rfl) T.g__law_draw T.F__law_draw.kp T.b__law_draw .nil pass0 (pa_cons (pv 1) (pa_cons pe_int (pa_cons pe_int pa_nil)))) (pa_cons (pe_call (ok__law_draw T) (hr.mono (by decide)) (by rfl) T.g__law_draw T.F__law_draw.kp T.b__law_draw .nil pass0 (pa_cons (pv 1) (pa_cons pe_int (pa_cons (x_max2 rfl T.n_max (by rfl) (pa_cons pe_int (pa_cons (x_len K rfl T.n_len (by rfl) (pa_cons (pv 0) pa_nil)) pa_nil))) pa_nil)))) pa_nil)) (by rfl))
      (pss_cons (ps_if (PW.pt (pw_and (pt_cmpR op_eq (pv 3) pe_int (nomark _)) (pw_and1 (x_neDt K rfl hr.units (pv 0) (pe_lst pa_nil))))) (pss_one (ps_ret (pe_op op_cat (pe_op op_cat (x_sl K rfl (pv 0) po_none (po_some (pv 4))) (pe_lst (pa_cons (pe_op op_mod (pe_op op_add (x_ixL K rfl (pv 0) (pv 4) (fun _ _ => rfl)) pe_int) (pv 2)) pa_nil))) (x_sl K rfl (pv 0) (po_some (pe_op op_add (pv 4) pe_int)) po_none)))) pss_nil)
      (pss_cons (ps_if (pt_cmpR op_eq (pv 3) pe_int (nomark _)) (pss_one (ps_ret (pe_op op_cat (pv 0) (pe_lst (pa_cons (pe_call (ok__law_draw T) (hr.mono (by decide)) (by rfl) T.g__law_draw T.F__law_draw.kp T.b__law_draw .nil pass0 (pa_cons (pv 1) (pa_cons pe_int (pa_cons pe_int pa_nil)))) pa_nil))))) pss_nil)
      (pss_cons (ps_if (pt_cmpR op_eq (pv 3) pe_int (nomark _)) (pss_one (ps_ret (x_sl K rfl (pv 0) po_none (po_some (pe_un un_neg pe_int))))) pss_nil)
      (pss_cons (ps_if (pt_cmpR op_eq (pv 3) pe_int (nomark _)) (pss_one (ps_ret (x_rev K rfl (pv 0)))) pss_nil)
      (pss_cons (ps_if (PW.pt (pw_and (pt_cmpR op_eq (pv 3) pe_int (nomark _)) (pw_and1 (x_neDt K rfl hr.units (pv 0) (pe_lst pa_nil))))) (pss_one (ps_ret (pe_op op_cat (pe_op op_cat (x_sl K rfl (pv 0) po_none (po_some (pv 4))) (pe_lst (pa_cons (pe_op op_add (x_ixL K rfl (pv 0) (pv 4) (fun _ _ => rfl)) (x_ixT K rfl (pe_tup (pa_cons (pv 2) (pa_cons (pe_un un_neg (pv 2)) pa_nil))) (pe_call (ok__law_draw T) (hr.mono (by decide)) (by rfl) T.g__law_draw T.F__law_draw.kp T.b__law_draw .nil pass0 (pa_cons (pv 1) (pa_cons pe_int (pa_cons pe_int pa_nil)))) (fun _ _ => rfl))) pa_nil))) (x_sl K rfl (pv 0) (po_some (pe_op op_add (pv 4) pe_int)) po_none)))) pss_nil)
      (pss_cons (ps_if (pt_cmpR op_eq (pv 3) pe_int (nomark _)) (pss_one (ps_ret (pe_lst pa_nil))) pss_nil)
      (pss_one (ps_ret (x_list K rfl T.n_list (by rfl) (pa_cons (pv 0) pa_nil))))))))))), ?_⟩
    obtain ⟨hp, hl⟩ := hp
    have g1 := hp.two
    have hat := bentAt_in (l := l) (c := c)
    have hd4 := draw_in (c := c) (k := 4) (m := 2) (by decide)
    refine q_parVV (x := .int (draw c 1 9)) (y := .int (bentAt l c)) ?_ ?_ fun H0 e0 => ?_
    · walk_at "ev"
    · apply ev_is
      walk_at "ev"
      all_goals first | (split <;> omega) | rfl
    have h0 := e0 _ _ h__law_some
    refine q_when (b := (decide (draw c 1 9 = 1) && !decide (l = []))) (by walk_at "ev") (fun c1 H1 e1 => ?_) (fun c1 H1 e1 => ?_)
    · skip
      have E1 : Ex H H1 := (e0.trans e1)
      have h1 := e1 _ _ h0
      have w := c1
      simp only [Bool.and_eq_true, Bool.not_eq_true', decide_eq_false_iff_not] at w
      have w2 := hat.2 w.2
      refine s_retL (xs := il (bent l c p)) ?_ fun z G nz eG hz => q z G (fresh_back E1 nz) (E1.trans eG) hz
      apply el_is
      walk_at "ev"
      all_goals first | (unfold bent; rw [if_pos c1]) | (simp only [List.length_append, List.length_take, List.length_drop, List.length_cons, List.length_nil]; omega)
    have h1 := e1 _ _ h0
    refine q_when (b := decide (draw c 1 9 = 2)) (by walk_at "ev") (fun c2 H2 e2 => ?_) (fun c2 H2 e2 => ?_)
    · skip
      have E2 : Ex H H2 := ((e0.trans e1).trans e2)
      have h2 := e2 _ _ h1
      refine s_retL (xs := il (bent l c p)) ?_ fun z G nz eG hz => q z G (fresh_back E2 nz) (E2.trans eG) hz
      apply el_is
      walk_at "ev"
      unfold bent
      rw [if_neg (by rw [c1]; decide), if_pos c2]
    have h2 := e2 _ _ h1
    refine q_when (b := decide (draw c 1 9 = 3)) (by walk_at "ev") (fun c3 H3 e3 => ?_) (fun c3 H3 e3 => ?_)
    · skip
      have E3 : Ex H H3 := (((e0.trans e1).trans e2).trans e3)
      have h3 := e3 _ _ h2
      refine s_retL (xs := il (bent l c p)) ?_ fun z G nz eG hz => q z G (fresh_back E3 nz) (E3.trans eG) hz
      apply el_is
      walk_at "ev"
      unfold bent
      rw [if_neg (by rw [c1]; decide), if_neg (by rw [c2]; decide), if_pos c3]
    have h3 := e3 _ _ h2
    refine q_when (b := decide (draw c 1 9 = 4)) (by walk_at "ev") (fun c4 H4 e4 => ?_) (fun c4 H4 e4 => ?_)
    · skip
      have E4 : Ex H H4 := ((((e0.trans e1).trans e2).trans e3).trans e4)
      have h4 := e4 _ _ h3
      refine s_retL (xs := il (bent l c p)) ?_ fun z G nz eG hz => q z G (fresh_back E4 nz) (E4.trans eG) hz
      apply el_is
      walk_at "ev"
      unfold bent
      rw [if_neg (by rw [c1]; decide), if_neg (by rw [c2]; decide), if_neg (by rw [c3]; decide), if_pos c4]
    have h4 := e4 _ _ h3
    refine q_when (b := (decide (draw c 1 9 = 5) && !decide (l = []))) (by walk_at "ev") (fun c5 H5 e5 => ?_) (fun c5 H5 e5 => ?_)
    · skip
      have E5 : Ex H H5 := (((((e0.trans e1).trans e2).trans e3).trans e4).trans e5)
      have h5 := e5 _ _ h4
      have w := c5
      simp only [Bool.and_eq_true, Bool.not_eq_true', decide_eq_false_iff_not] at w
      have w2 := hat.2 w.2
      refine s_retL (xs := il (bent l c p)) ?_ fun z G nz eG hz => q z G (fresh_back E5 nz) (E5.trans eG) hz
      apply el_is
      refine el_catI (ms := l.take (bentAt l c).toNat ++ [g l (bentAt l c).toNat + g [p, -p] (draw c 4 2).toNat]) (ns := l.drop (bentAt l c + 1).toNat) (em_of_l (el_catI (em_of_l ?_) (em_of_l (el_one (ev_add (by walk_at "ev") (ev_ixUi (ns := [p, -p]) (i := draw c 4 2) ?_ (by walk_at "ev") ?_)))) ?_)) (em_of_l ?_) ?_
      · walk_at "ev"
      · apply eu_is
        walk_at "ev"
        rfl
      · show 0 ≤ _ ∧ _ < (2 : Int)
        exact hd4
      · simp only [List.length_take, List.length_cons, List.length_nil]
        omega
      · walk_at "ev"
      · simp only [List.length_append, List.length_take, List.length_drop, List.length_cons, List.length_nil]
        omega
      · unfold bent
        rw [if_neg (by rw [c1]; decide), if_neg (by rw [c2]; decide), if_neg (by rw [c3]; decide), if_neg (by rw [c4]; decide), if_pos c5]
    have h5 := e5 _ _ h4
    refine q_when (b := decide (draw c 1 9 = 6)) (by walk_at "ev") (fun c6 H6 e6 => ?_) (fun c6 H6 e6 => ?_)
    · skip
      have E6 : Ex H H6 := ((((((e0.trans e1).trans e2).trans e3).trans e4).trans e5).trans e6)
      have h6 := e6 _ _ h5
      refine s_retL (xs := il (bent l c p)) ?_ fun z G nz eG hz => q z G (fresh_back E6 nz) (E6.trans eG) hz
      apply el_is
      walk_at "ev"
      unfold bent
      rw [if_neg (by rw [c1]; decide), if_neg (by rw [c2]; decide), if_neg (by rw [c3]; decide), if_neg (by rw [c4]; decide), if_neg (by rw [c5]; decide), if_pos c6]
    have h6 := e6 _ _ h5
    have E7 : Ex H H6 := (((((e0.trans e1).trans e2).trans e3).trans e4).trans e5).trans e6
    refine s_retL (xs := il (bent l c p)) ?_ fun z G nz eG hz => q z G (fresh_back E7 nz) (E7.trans eG) hz
    apply el_is
    walk_at "ev"
    unfold bent
    rw [if_neg (by rw [c1]; decide), if_neg (by rw [c2]; decide), if_neg (by rw [c3]; decide), if_neg (by rw [c4]; decide), if_neg (by rw [c5]; decide), if_neg (by rw [c6]; decide)]
/-! _law_right -/
def sp__law_right (K : PySem.W.Frag) : Sp := fun vs H Q _ => ∃ (p : Int) (row rule shorter : List Int) (place : Int), AgsOk K H [.v (.int p), .l (il row), .l (il rule), .l (il shorter), .v (.int place)] vs ∧ (Good p ∧ row.length ≤ 1000 ∧ rule.length ≤ 1000 ∧ shorter.length ≤ 1000) ∧ RetV (.bl true) H Q
theorem ev__law_right {K : PySem.W.Frag} {σ : L2.St} {H : Hp} {E : XK} {ta : TA} {p : Int} {row rule shorter : List Int} {place : Int} (h : EvAs K ta σ H [.v (.int p), .l (il row), .l (il rule), .l (il shorter), .v (.int place)]) (hp : Good p ∧ row.length ≤ 1000 ∧ rule.length ≤ 1000 ∧ shorter.length ≤ 1000) : Ev (tCall (sp__law_right K) [] E ta) σ H (.bl true) := fun H1 e Q q =>
  h H1 e _ fun vs H2 e2 ok => ⟨p, row, rule, shorter, place, by rw [List.append_nil]; exact ok, hp, fun H3 e3 => q H3 (e2.trans e3)⟩
local macro_rules | `(tactic| walk_at "own") => `(tactic| ((with_reducible apply ev__law_right) <;> walk_at "ev"))
theorem ok__law_right (T : Txt K mg) : FnOk P w K mg base CX0 5 T.a__law_right T.f__law_right ["_law_prime_here", "_law_row_here", "_law_rule", "_law_shorter", "_law_place"] (sp__law_right K) := by
  refine T.F__law_right.ok sc__law_right (fun vs H Q E h => ?_) (fun cdv A outer s H vs Q E hr h => ?_)
  · obtain ⟨p, row, rule, shorter, place, h, _⟩ := h
    exact h.len
  · obtain ⟨p, row, rule, shorter, place, ⟨_, _, rfl, rfl, _, _, rfl, ⟨a__law_row_here, rfl, h__law_row_here⟩, _, _, rfl, ⟨a__law_rule, rfl, h__law_rule⟩, _, _, rfl, ⟨a__law_shorter, rfl, h__law_shorter⟩, _, _, rfl, rfl, rfl⟩, hp, q⟩ := h
    rw [show start ["_law_prime_here", "_law_row_here", "_law_rule", "_law_shorter", "_law_place", "_law_good", "_law_which", "_law_handed", "_law_answer"] [(.int p), (.ref a__law_row_here), (.ref a__law_rule), (.ref a__law_shorter), (.int place)] = [some (.int p), some (.ref a__law_row_here), some (.ref a__law_rule), some (.ref a__law_shorter), some (.int place), none, none, none, none] from rfl]
    refine ⟨_, (pss_cons (ps_set (i := 5) sc__law_right.nd rfl (.inl rfl) (pe_call (ok__law_least T) (hr.mono (by decide)) (by rfl) T.g__law_least T.F__law_least.kp T.b__law_least .nil pass0 (pa_cons (pv 0) (pa_cons (pv 1) (pa_cons (pv 2) (pa_cons (pv 3) (pa_cons (pv 4) pa_nil)))))))
      (pss_cons (ps_for PassesOwn.never rfl (xi_tup K rfl (pe_tup (pa_cons pe_int (pa_cons pe_int pa_nil)))) (pg_name (i := 6) sc__law_right.nd rfl (.inl rfl)) (pss_cons (ps_set (i := 7) sc__law_right.nd rfl (.inl rfl) (pe_lst (pa_cons (x_list K rfl T.n_list (by rfl) (pa_cons (pv 2) pa_nil)) (pa_cons (x_list K rfl T.n_list (by rfl) (pa_cons (pv 3) pa_nil)) pa_nil))))
      (pss_cons (ps_set (i := 8) sc__law_right.nd rfl (.inl rfl) (pe_ifExp (pt_cmpR op_eq (pv 6) pe_int (nomark _)) (pe_make T.M_Least (ok_Least___init__ T) (hr.mono (by decide)) (by rfl) T.g_Least T.b_Least___init__ .nil pass0 (pa_cons (x_ixL K rfl (pv 7) pe_int (fun _ _ => rfl)) (pa_cons (x_ixL K rfl (pv 7) pe_int (fun _ _ => rfl)) (pa_cons (pv 4) pa_nil)))) (pe_make T.M_Only (ok_Only___init__ T) (hr.mono (by decide)) (by rfl) T.g_Only T.b_Only___init__ .nil pass0 (pa_cons (x_ixL K rfl (pv 7) pe_int (fun _ _ => rfl)) (pa_cons (x_ixL K rfl (pv 7) pe_int (fun _ _ => rfl)) (pa_cons (pv 4) pa_nil))))))
      (pss_cons (ps_expr (x_append K rfl (x_ixL K rfl (pv 7) pe_int (fun _ _ => rfl)) (pa_cons pe_int pa_nil)))
      (pss_cons (ps_expr (x_append K rfl (x_ixL K rfl (pv 7) pe_int (fun _ _ => rfl)) (pa_cons pe_int pa_nil)))
      (pss_cons (ps_if (PW.pt (pw_or (x_neDt K rfl hr.units (x_fld K rfl (pv 8) rfl) (pv 2)) (pw_or (x_neDt K rfl hr.units (x_fld K rfl (pv 8) rfl) (pv 3)) (pw_or1 (pt_cmpR op_ne (x_fld K rfl (pv 8) rfl) (pv 4) (nomark _)))))) (pss_one (ps_ret pe_bl)) pss_nil)
      (pss_one (ps_if (pt_not (pt_val (pe_call (ok__law_says T) (hr.mono (by decide)) (by rfl) T.g__law_says T.F__law_says.kp T.b__law_says .nil pass0 (pa_cons (pe_alt (pe_meth (pv 8) T.cl_Least T.m_Least_shows (ok_Least_shows T) (hr.mono (by decide)) T.b_Least_shows .nil pass0 (pa_cons (pv 0) (pa_cons (pv 1) pa_nil))) (pe_meth (pv 8) T.cl_Only T.m_Only_shows (ok_Only_shows T) (hr.mono (by decide)) T.b_Only_shows .nil pass0 (pa_cons (pv 0) (pa_cons (pv 1) pa_nil)))) (pa_cons (pe_and (pv 5) (pe_one (pe_or (pe_cmpR op_eq (pv 6) pe_int (nomark _)) (pe_one (pe_cmpR op_le (pe_op op_mul pe_int (x_len K rfl T.n_len (by rfl) (pa_cons (pv 2) pa_nil))) (x_len K rfl T.n_len (by rfl) (pa_cons (pv 1) pa_nil)) (nomark _)))))) pa_nil))))) (pss_one (ps_ret pe_bl)) pss_nil))))))))
      (pss_one (ps_ret pe_bl)))), ?_⟩
    have clL := T.cl_Least
    have naL := T.na_Least_rule
    have clO := T.cl_Only
    have clA := T.cl_Another
    have nO1 := T.na_Only_rule
    have nO2 := T.na_Only_shorter
    have nO3 := T.na_Only_place
    have nA1 := T.na_Another_one
    have nA2 := T.na_Another_other
    have nA3 := T.na_Another_shorter
    have nA4 := T.na_Another_place
    have i1L := T.i1_Least
    have i4L := T.i4_Least
    have i1 := T.i1_Only
    have i2 := T.i2
    have i3 := T.i3
    have i4 := T.i4_Only
    have i5 := T.i1_Another
    have i6 := T.i4_Another
    have jL1 := T.isa_Least_Answer
    have jL2 := T.isa_Least_Least
    have jL3 := T.isa_Least_Only
    have jL4 := T.isa_Least_Another
    have jO1 := T.isa_Only_Answer
    have jO2 := T.isa_Only_Least
    have jO3 := T.isa_Only_Only
    have jO4 := T.isa_Only_Another
    have jA1 := T.isa_Another_Answer
    have jA2 := T.isa_Another_Least
    have jA3 := T.isa_Another_Only
    have jA4 := T.isa_Another_Another

    have naL2 := T.na_Least_shorter
    have naL3 := T.na_Least_place
    obtain ⟨hp, l1, l2, l3⟩ := hp
    refine q_asg (i := 5) (v := .bl (isLeast p row rule shorter place)) ?_ fun H1 e1 => ?_
    · walk_at "ev"
      all_goals exact ⟨hp, by omega, by omega, by omega⟩
    have hk : Has K H1 [(a__law_row_here, il row), (a__law_rule, il rule), (a__law_shorter, il shorter)] := .cons (ex_l e1 h__law_row_here) (.cons (ex_l e1 h__law_rule) (.cons (ex_l e1 h__law_shorter) .nil))
    refine q_forAs (gs := [.v (.int 0), .v (.int 1)]) (by walk_at "ev") (by simp)
      (fun H3 i σ' H' => ∃ x6 x7 x8, σ' = [some (.int p), some (.ref a__law_row_here), some (.ref a__law_rule), some (.ref a__law_shorter), some (.int place), some (.bl (isLeast p row rule shorter place)), x6, x7, x8] ∧ Ex H3 H') (fun H3 e3 => ⟨none, none, none, rfl, Ex.refl H3⟩) (fun H3 i σ' H' h => h.choose_spec.choose_spec.choose_spec.2) ?_ ?_
    · rintro H3 i gg y σ' H4 e3 hg ok ⟨x6, x7, x8, rfl, e4⟩
      have hk3 := hk.up e3
      have hk4 := hk3.up e4
      have hm := List.mem_of_getElem? hg
      simp only [List.mem_cons, List.mem_nil_iff, or_false] at hm
      rcases hm with rfl | rfl
      · obtain rfl : y = .int 0 := ok
        refine q_asgL2 (k := 7) (xs := il rule) (ys := il shorter) (by walk_at "ev") (by walk_at "ev") fun l p1 p2 H5 nl n1 n2 n12 lp1 lp2 e5 hl hp1 hp2 => ?_
        have hk5 := hk4.up e5
        refine q_asgIfT (k := 8) ?_ fun H6 e6 => ?_
        · apply et_is
          walk_at "ev"
          rfl
        have hl6 := e6 _ _ hl
        have hp16 := e6 _ _ hp1
        have hp26 := e6 _ _ hp2
        refine make_Least (rule := rule) (shorter := shorter) (pl := place) (by walk_at "ev") fun x dx r s H7 e7 nx nr ns nrs hx hr1 hs1 => ?_
        have hl7 := e7 _ _ hl6
        have hp17 := e7 _ _ hp16
        have hp27 := e7 _ _ hp26
        have x1 : x ≠ p1 := (ne_of_none hp16 nx).symm
        have x2 : x ≠ p2 := (ne_of_none hp26 nx).symm
        have r1 : r ≠ p1 := (ne_of_none hp16 nr).symm
        have r2 : r ≠ p2 := (ne_of_none hp26 nr).symm
        have s1 : s ≠ p1 := (ne_of_none hp16 ns).symm
        have s2 : s ≠ p2 := (ne_of_none hp26 ns).symm
        have E7 : Ex H3 H7 := ((e4.trans e5).trans e6).trans e7
        have n13 := fresh_back e4 n1
        have n23 := fresh_back e4 n2
        refine q_appI (l := p1) (ns := rule) (n := 0) hp17 (by walk_at "ev") (by walk_at "ev") (by omega) fun H8 e8 => ?_
        obtain ⟨G8, hG8⟩ : ∃ G, upd H8 p1 (.lst (il (rule ++ [0]))) = G := ⟨_, rfl⟩
        have E8 : Ex H3 G8 := by rw [← hG8]; exact Ex.mut (E7.trans e8) n13
        have hl8 : G8 l = some (.lst [.ref p1, .ref p2]) := by rw [← hG8, upd_ne lp1]; exact e8 _ _ hl7
        have hp28 : G8 p2 = some (.lst (il shorter)) := by rw [← hG8, upd_ne n12.symm]; exact e8 _ _ hp27
        have hx8 : G8 x = some (.ins T.a_Least dx (fl3 r s place)) := by rw [← hG8, upd_ne x1]; exact e8 _ _ hx
        have hr8 : G8 r = some (.lst (il rule)) := by rw [← hG8, upd_ne r1]; exact e8 _ _ hr1
        have hs8 : G8 s = some (.lst (il shorter)) := by rw [← hG8, upd_ne s1]; exact e8 _ _ hs1
        rw [hG8]
        refine q_appI (l := p2) (ns := shorter) (n := 0) hp28 (by walk_at "ev") (by walk_at "ev") (by omega) fun H9 e9 => ?_
        obtain ⟨G9, hG9⟩ : ∃ G, upd H9 p2 (.lst (il (shorter ++ [0]))) = G := ⟨_, rfl⟩
        have E9 : Ex H3 G9 := by rw [← hG9]; exact Ex.mut (E8.trans e9) n23
        have hx9 : G9 x = some (.ins T.a_Least dx (fl3 r s place)) := by rw [← hG9, upd_ne x2]; exact e9 _ _ hx8
        have hr9 : G9 r = some (.lst (il rule)) := by rw [← hG9, upd_ne r2]; exact e9 _ _ hr8
        have hs9 : G9 s = some (.lst (il shorter)) := by rw [← hG9, upd_ne s2]; exact e9 _ _ hs8
        rw [hG9]
        have hk9 := hk3.up E9
        refine q_skip (b := false) ?_ rfl fun H10 e10 => ?_
        · apply et_is
          walk_at "ev"
          simp
        have hx10 := e10 _ _ hx9
        have hr10 := e10 _ _ hr9
        have hs10 := e10 _ _ hs9
        have hk10 := hk9.up e10
        refine s_skip (b := false) ?_ rfl fun H11 e11 => ⟨_, _, _, rfl, (E9.trans e10).trans e11⟩
        apply et_is
        walk_at "ev"
        all_goals first | exact ⟨hp, by omega, by omega, by omega⟩ | ((try unfold isOnly); generalize isLeast p row rule shorter place = b1; generalize decide (2 * (rule.length : Int) ≤ (row.length : Int)) = b2; cases b1 <;> cases b2 <;> rfl)
      · obtain rfl : y = .int 1 := ok
        refine q_asgL2 (k := 7) (xs := il rule) (ys := il shorter) (by walk_at "ev") (by walk_at "ev") fun l p1 p2 H5 nl n1 n2 n12 lp1 lp2 e5 hl hp1 hp2 => ?_
        have hk5 := hk4.up e5
        refine q_asgIfF (k := 8) ?_ fun H6 e6 => ?_
        · apply et_is
          walk_at "ev"
          rfl
        have hl6 := e6 _ _ hl
        have hp16 := e6 _ _ hp1
        have hp26 := e6 _ _ hp2
        refine make_Only (rule := rule) (shorter := shorter) (pl := place) (by walk_at "ev") fun x dx r s H7 e7 nx nr ns nrs hx hr1 hs1 => ?_
        have hl7 := e7 _ _ hl6
        have hp17 := e7 _ _ hp16
        have hp27 := e7 _ _ hp26
        have x1 : x ≠ p1 := (ne_of_none hp16 nx).symm
        have x2 : x ≠ p2 := (ne_of_none hp26 nx).symm
        have r1 : r ≠ p1 := (ne_of_none hp16 nr).symm
        have r2 : r ≠ p2 := (ne_of_none hp26 nr).symm
        have s1 : s ≠ p1 := (ne_of_none hp16 ns).symm
        have s2 : s ≠ p2 := (ne_of_none hp26 ns).symm
        have E7 : Ex H3 H7 := ((e4.trans e5).trans e6).trans e7
        have n13 := fresh_back e4 n1
        have n23 := fresh_back e4 n2
        refine q_appI (l := p1) (ns := rule) (n := 0) hp17 (by walk_at "ev") (by walk_at "ev") (by omega) fun H8 e8 => ?_
        obtain ⟨G8, hG8⟩ : ∃ G, upd H8 p1 (.lst (il (rule ++ [0]))) = G := ⟨_, rfl⟩
        have E8 : Ex H3 G8 := by rw [← hG8]; exact Ex.mut (E7.trans e8) n13
        have hl8 : G8 l = some (.lst [.ref p1, .ref p2]) := by rw [← hG8, upd_ne lp1]; exact e8 _ _ hl7
        have hp28 : G8 p2 = some (.lst (il shorter)) := by rw [← hG8, upd_ne n12.symm]; exact e8 _ _ hp27
        have hx8 : G8 x = some (.ins T.a_Only dx (fl3 r s place)) := by rw [← hG8, upd_ne x1]; exact e8 _ _ hx
        have hr8 : G8 r = some (.lst (il rule)) := by rw [← hG8, upd_ne r1]; exact e8 _ _ hr1
        have hs8 : G8 s = some (.lst (il shorter)) := by rw [← hG8, upd_ne s1]; exact e8 _ _ hs1
        rw [hG8]
        refine q_appI (l := p2) (ns := shorter) (n := 0) hp28 (by walk_at "ev") (by walk_at "ev") (by omega) fun H9 e9 => ?_
        obtain ⟨G9, hG9⟩ : ∃ G, upd H9 p2 (.lst (il (shorter ++ [0]))) = G := ⟨_, rfl⟩
        have E9 : Ex H3 G9 := by rw [← hG9]; exact Ex.mut (E8.trans e9) n23
        have hx9 : G9 x = some (.ins T.a_Only dx (fl3 r s place)) := by rw [← hG9, upd_ne x2]; exact e9 _ _ hx8
        have hr9 : G9 r = some (.lst (il rule)) := by rw [← hG9, upd_ne r2]; exact e9 _ _ hr8
        have hs9 : G9 s = some (.lst (il shorter)) := by rw [← hG9, upd_ne s2]; exact e9 _ _ hs8
        rw [hG9]
        have hk9 := hk3.up E9
        refine q_skip (b := false) ?_ rfl fun H10 e10 => ?_
        · apply et_is
          walk_at "ev"
          simp
        have hx10 := e10 _ _ hx9
        have hr10 := e10 _ _ hr9
        have hs10 := e10 _ _ hs9
        have hk10 := hk9.up e10
        refine s_skip (b := false) ?_ rfl fun H11 e11 => ⟨_, _, _, rfl, (E9.trans e10).trans e11⟩
        apply et_is
        walk_at "ev"
        all_goals first | exact ⟨hp, by omega, by omega, by omega⟩ | ((try unfold isOnly); generalize isLeast p row rule shorter place = b1; generalize decide (2 * (rule.length : Int) ≤ (row.length : Int)) = b2; cases b1 <;> cases b2 <;> rfl)
    · rintro H3 σ' H4 e3 ⟨x6, x7, x8, rfl, e4⟩
      refine s_ret (v := .bl true) (by walk_at "ev") fun H5 e5 => q H5 (((e1.trans e3).trans e4).trans e5)
/-! _law_another_right -/
def sp__law_another_right (K : PySem.W.Frag) : Sp := fun vs H Q _ => ∃ (p : Int) (row one other shorter : List Int) (place : Int), AgsOk K H [.v (.int p), .l (il row), .l (il one), .l (il other), .l (il shorter), .v (.int place)] vs ∧ (Good p ∧ row.length ≤ 1000 ∧ one.length ≤ 1000 ∧ other.length ≤ 1000 ∧ shorter.length ≤ 1000) ∧ RetV (.bl true) H Q
theorem ev__law_another_right {K : PySem.W.Frag} {σ : L2.St} {H : Hp} {E : XK} {ta : TA} {p : Int} {row one other shorter : List Int} {place : Int} (h : EvAs K ta σ H [.v (.int p), .l (il row), .l (il one), .l (il other), .l (il shorter), .v (.int place)]) (hp : Good p ∧ row.length ≤ 1000 ∧ one.length ≤ 1000 ∧ other.length ≤ 1000 ∧ shorter.length ≤ 1000) : Ev (tCall (sp__law_another_right K) [] E ta) σ H (.bl true) := fun H1 e Q q =>
  h H1 e _ fun vs H2 e2 ok => ⟨p, row, one, other, shorter, place, by rw [List.append_nil]; exact ok, hp, fun H3 e3 => q H3 (e2.trans e3)⟩
local macro_rules | `(tactic| walk_at "own") => `(tactic| ((with_reducible apply ev__law_another_right) <;> walk_at "ev"))
theorem ok__law_another_right (T : Txt K mg) : FnOk P w K mg base CX0 5 T.a__law_another_right T.f__law_another_right ["_law_prime_here", "_law_row_here", "_law_one", "_law_other", "_law_shorter", "_law_place"] (sp__law_another_right K) := by
  refine T.F__law_another_right.ok sc__law_another_right (fun vs H Q E h => ?_) (fun cdv A outer s H vs Q E hr h => ?_)
  · obtain ⟨p, row, one, other, shorter, place, h, _⟩ := h
    exact h.len
  · obtain ⟨p, row, one, other, shorter, place, ⟨_, _, rfl, rfl, _, _, rfl, ⟨a__law_row_here, rfl, h__law_row_here⟩, _, _, rfl, ⟨a__law_one, rfl, h__law_one⟩, _, _, rfl, ⟨a__law_other, rfl, h__law_other⟩, _, _, rfl, ⟨a__law_shorter, rfl, h__law_shorter⟩, _, _, rfl, rfl, rfl⟩, hp, q⟩ := h
    rw [show start ["_law_prime_here", "_law_row_here", "_law_one", "_law_other", "_law_shorter", "_law_place", "_law_handed", "_law_answer", "_law_some", "_law_due_here"] [(.int p), (.ref a__law_row_here), (.ref a__law_one), (.ref a__law_other), (.ref a__law_shorter), (.int place)] = [some (.int p), some (.ref a__law_row_here), some (.ref a__law_one), some (.ref a__law_other), some (.ref a__law_shorter), some (.int place), none, none, none, none] from rfl]
    refine ⟨_, (pss_cons (ps_set (i := 6) sc__law_another_right.nd rfl (.inl rfl) (pe_lst (pa_cons (x_list K rfl T.n_list (by rfl) (pa_cons (pv 2) pa_nil)) (pa_cons (x_list K rfl T.n_list (by rfl) (pa_cons (pv 3) pa_nil)) (pa_cons (x_list K rfl T.n_list (by rfl) (pa_cons (pv 4) pa_nil)) pa_nil)))))
      (pss_cons (ps_set (i := 7) sc__law_another_right.nd rfl (.inl rfl) (pe_make T.M_Another (ok_Another___init__ T) (hr.mono (by decide)) (by rfl) T.g_Another T.b_Another___init__ .nil pass0 (pa_cons (x_ixL K rfl (pv 6) pe_int (fun _ _ => rfl)) (pa_cons (x_ixL K rfl (pv 6) pe_int (fun _ _ => rfl)) (pa_cons (x_ixL K rfl (pv 6) pe_int (fun _ _ => rfl)) (pa_cons (pv 5) pa_nil))))))
      (pss_cons (ps_for PassesOwn.never rfl (xi_list K rfl (pv 6)) (pg_name (i := 8) sc__law_another_right.nd rfl (.inl rfl)) (pss_one (ps_expr (x_append K rfl (pv 8) (pa_cons pe_int pa_nil)))))
      (pss_cons (ps_if (PW.pt (pw_or (x_neDt K rfl hr.units (x_fld K rfl (pv 7) rfl) (pv 2)) (pw_or (x_neDt K rfl hr.units (x_fld K rfl (pv 7) rfl) (pv 3)) (pw_or (x_neDt K rfl hr.units (x_fld K rfl (pv 7) rfl) (pv 4)) (pw_or1 (pt_cmpR op_ne (x_fld K rfl (pv 7) rfl) (pv 5) (nomark _))))))) (pss_one (ps_ret pe_bl)) pss_nil)
      (pss_cons (ps_set (i := 9) sc__law_another_right.nd rfl (.inl rfl) (pe_and (pe_cmpR op_eq (x_len K rfl T.n_len (by rfl) (pa_cons (pv 2) pa_nil)) (x_len K rfl T.n_len (by rfl) (pa_cons (pv 3) pa_nil)) (nomark _)) (pe_and (x_neD K rfl hr.units (pv 2) (pv 3)) (pe_one (pe_call (ok__law_least T) (hr.mono (by decide)) (by rfl) T.g__law_least T.F__law_least.kp T.b__law_least .nil pass0 (pa_cons (pv 0) (pa_cons (pv 1) (pa_cons (pv 2) (pa_cons (pv 4) (pa_cons (pv 5) pa_nil))))))))))
      (pss_cons (ps_set (i := 9) sc__law_another_right.nd rfl (.inl rfl) (pe_and (pv 9) (pe_one (pe_call (ok__law_least T) (hr.mono (by decide)) (by rfl) T.g__law_least T.F__law_least.kp T.b__law_least .nil pass0 (pa_cons (pv 0) (pa_cons (pv 1) (pa_cons (pv 3) (pa_cons (pv 4) (pa_cons (pv 5) pa_nil)))))))))
      (pss_one (ps_ret (pe_call (ok__law_says T) (hr.mono (by decide)) (by rfl) T.g__law_says T.F__law_says.kp T.b__law_says .nil pass0 (pa_cons (pe_meth (pv 7) T.cl_Another T.m_Another_shows (ok_Another_shows T) (hr.mono (by decide)) T.b_Another_shows .nil pass0 (pa_cons (pv 0) (pa_cons (pv 1) pa_nil))) (pa_cons (pv 9) pa_nil))))))))))), ?_⟩
    have clL := T.cl_Least
    have naL := T.na_Least_rule
    have clO := T.cl_Only
    have clA := T.cl_Another
    have nO1 := T.na_Only_rule
    have nO2 := T.na_Only_shorter
    have nO3 := T.na_Only_place
    have nA1 := T.na_Another_one
    have nA2 := T.na_Another_other
    have nA3 := T.na_Another_shorter
    have nA4 := T.na_Another_place
    have i1L := T.i1_Least
    have i4L := T.i4_Least
    have i1 := T.i1_Only
    have i2 := T.i2
    have i3 := T.i3
    have i4 := T.i4_Only
    have i5 := T.i1_Another
    have i6 := T.i4_Another
    have jL1 := T.isa_Least_Answer
    have jL2 := T.isa_Least_Least
    have jL3 := T.isa_Least_Only
    have jL4 := T.isa_Least_Another
    have jO1 := T.isa_Only_Answer
    have jO2 := T.isa_Only_Least
    have jO3 := T.isa_Only_Only
    have jO4 := T.isa_Only_Another
    have jA1 := T.isa_Another_Answer
    have jA2 := T.isa_Another_Least
    have jA3 := T.isa_Another_Only
    have jA4 := T.isa_Another_Another

    obtain ⟨hp, l1, l2, l3, l4⟩ := hp
    refine q_asgL3 (k := 6) (xs := il one) (ys := il other) (zs := il shorter) (by walk_at "ev") (by walk_at "ev") (by walk_at "ev") fun l p1 p2 p3 H1 nl n1 n2 n3 n12 n13 n23 lp1 lp2 lp3 e1 hl hp1 hp2 hp3 => ?_
    refine q_asgT ?_
    refine make_Another (one := one) (other := other) (shorter := shorter) (pl := place) (by walk_at "ev") fun x dx r o s H2 e2 nx nr no ns nro nrs nos hx hr1 ho1 hs1 => ?_
    have fr : ∀ z, H1 z = none → z ≠ p1 ∧ z ≠ p2 ∧ z ≠ p3 ∧ z ≠ l := fun z hz => ⟨(ne_of_none hp1 hz).symm, (ne_of_none hp2 hz).symm, (ne_of_none hp3 hz).symm, (ne_of_none hl hz).symm⟩
    obtain ⟨x1, x2, x3, x4⟩ := fr x nx
    obtain ⟨r1, r2, r3, r4⟩ := fr r nr
    obtain ⟨o1, o2, o3, o4⟩ := fr o no
    obtain ⟨s1, s2, s3, s4⟩ := fr s ns
    have E2 := e1.trans e2
    have hl2 := e2 _ _ hl
    try dsimp only
    refine q_forLn (j := 8) (a := l) (xs := [.ref p1, .ref p2, .ref p3]) (by walk_at "ev") (sq_of hl2)
      (fun i σ' H' => ∃ x8 y1 y2 y3, σ' = [some (.int p), some (.ref a__law_row_here), some (.ref a__law_one), some (.ref a__law_other), some (.ref a__law_shorter), some (.int place), some (.ref l), some (.ref x), x8, none] ∧ Ex H H' ∧ H' l = some (.lst [.ref p1, .ref p2, .ref p3]) ∧
        H' x = some (.ins T.a_Another dx (fl4 r o s place)) ∧ H' r = some (.lst (il one)) ∧ H' o = some (.lst (il other)) ∧ H' s = some (.lst (il shorter)) ∧ (H' p1 = some (.lst (il y1)) ∧ y1.length ≤ 1000 + i) ∧ (H' p2 = some (.lst (il y2)) ∧ y2.length ≤ 1000 + i) ∧ (H' p3 = some (.lst (il y3)) ∧ y3.length ≤ 1000 + i))
      (fun H3 e3 => ⟨none, one, other, shorter, rfl, E2.trans e3, e3 _ _ hl2, e3 _ _ hx, e3 _ _ hr1, e3 _ _ ho1, e3 _ _ hs1, ⟨e3 _ _ (e2 _ _ hp1), by omega⟩, ⟨e3 _ _ (e2 _ _ hp2), by omega⟩, ⟨e3 _ _ (e2 _ _ hp3), by omega⟩⟩) (fun i σ' H' _ ⟨_, _, _, _, _, _, h, _⟩ => sq_of h) ?_ ?_
    · rintro i y σ' H' hi ⟨x8, y1, y2, y3, rfl, e3, g0, g1, g2, g3, g4, ⟨g5, w5⟩, ⟨g6, w6⟩, ⟨g7, w7⟩⟩
      have key : (i = 0 ∧ y = .ref p1) ∨ (i = 1 ∧ y = .ref p2) ∨ (i = 2 ∧ y = .ref p3) := by
        match i, hi with
        | 0, hi => exact .inl ⟨rfl, (Option.some.inj hi).symm⟩
        | 1, hi => exact .inr (.inl ⟨rfl, (Option.some.inj hi).symm⟩)
        | 2, hi => exact .inr (.inr ⟨rfl, (Option.some.inj hi).symm⟩)
        | n + 3, hi => simp at hi
      rcases key with ⟨rfl, rfl⟩ | ⟨rfl, rfl⟩ | ⟨rfl, rfl⟩
      · refine s_appI (l := p1) (ns := y1) (n := 0) g5 (by walk_at "ev") (by walk_at "ev") (by omega) fun H4 e4 => ⟨_, y1 ++ [0], y2, y3, rfl, Ex.mut (e3.trans e4) n1, ?_, ?_, ?_, ?_, ?_, ⟨upd_same, by simp; omega⟩, ⟨?_, by omega⟩, ⟨?_, by omega⟩⟩
        · rw [upd_ne lp1]; exact e4 _ _ g0
        · rw [upd_ne x1]; exact e4 _ _ g1
        · rw [upd_ne r1]; exact e4 _ _ g2
        · rw [upd_ne o1]; exact e4 _ _ g3
        · rw [upd_ne s1]; exact e4 _ _ g4
        · rw [upd_ne n12.symm]; exact e4 _ _ g6
        · rw [upd_ne n13.symm]; exact e4 _ _ g7
      · refine s_appI (l := p2) (ns := y2) (n := 0) g6 (by walk_at "ev") (by walk_at "ev") (by omega) fun H4 e4 => ⟨_, y1, y2 ++ [0], y3, rfl, Ex.mut (e3.trans e4) n2, ?_, ?_, ?_, ?_, ?_, ⟨?_, by omega⟩, ⟨upd_same, by simp; omega⟩, ⟨?_, by omega⟩⟩
        · rw [upd_ne lp2]; exact e4 _ _ g0
        · rw [upd_ne x2]; exact e4 _ _ g1
        · rw [upd_ne r2]; exact e4 _ _ g2
        · rw [upd_ne o2]; exact e4 _ _ g3
        · rw [upd_ne s2]; exact e4 _ _ g4
        · rw [upd_ne n12]; exact e4 _ _ g5
        · rw [upd_ne n23.symm]; exact e4 _ _ g7
      · refine s_appI (l := p3) (ns := y3) (n := 0) g7 (by walk_at "ev") (by walk_at "ev") (by omega) fun H4 e4 => ⟨_, y1, y2, y3 ++ [0], rfl, Ex.mut (e3.trans e4) n3, ?_, ?_, ?_, ?_, ?_, ⟨?_, by omega⟩, ⟨?_, by omega⟩, ⟨upd_same, by simp; omega⟩⟩
        · rw [upd_ne lp3]; exact e4 _ _ g0
        · rw [upd_ne x3]; exact e4 _ _ g1
        · rw [upd_ne r3]; exact e4 _ _ g2
        · rw [upd_ne o3]; exact e4 _ _ g3
        · rw [upd_ne s3]; exact e4 _ _ g4
        · rw [upd_ne n13]; exact e4 _ _ g5
        · rw [upd_ne n23]; exact e4 _ _ g6
    · rintro σ' H3 ⟨x8, y1, y2, y3, rfl, e3, g0, hx3, hr3, ho3, hs3, _⟩
      have hk : Has K H3 [(a__law_row_here, il row), (a__law_one, il one), (a__law_other, il other), (a__law_shorter, il shorter)] := .cons (ex_l e3 h__law_row_here) (.cons (ex_l e3 h__law_one) (.cons (ex_l e3 h__law_other) (.cons (ex_l e3 h__law_shorter) .nil)))
      refine q_skip (b := false) ?_ rfl fun H4 e4 => ?_
      · apply et_is
        walk_at "ev"
        simp
      have hk := hk.up e4
      have hx4 := e4 _ _ hx3
      have hr4 := e4 _ _ hr3
      have ho4 := e4 _ _ ho3
      have hs4 := e4 _ _ hs3
      refine q_asg (i := 9) (v := .bl (decide ((one.length : Int) = (other.length : Int)) && (!decide (one = other) && isLeast p row one shorter place))) ?_ fun H5 e5 => ?_
      · walk_at "ev"
        all_goals exact ⟨hp, by omega, by omega, by omega⟩
      have hk := hk.up e5
      have hx5 := e5 _ _ hx4
      have hr5 := e5 _ _ hr4
      have ho5 := e5 _ _ ho4
      have hs5 := e5 _ _ hs4
      refine q_asg (i := 9) (v := .bl ((decide ((one.length : Int) = (other.length : Int)) && (!decide (one = other) && isLeast p row one shorter place)) && isLeast p row other shorter place)) ?_ fun H6 e6 => ?_
      · walk_at "ev"
        all_goals exact ⟨hp, by omega, by omega, by omega⟩
      have hk := hk.up e6
      have hx6 := e6 _ _ hx5
      have hr6 := e6 _ _ hr5
      have ho6 := e6 _ _ ho5
      have hs6 := e6 _ _ hs5
      refine s_ret (v := .bl true) ?_ fun H7 e7 => q H7 ((((e3.trans e4).trans e5).trans e6).trans e7)
      apply ev_is
      walk_at "ev"
      all_goals first | exact ⟨hp, by omega, by omega, by omega, by omega⟩ | (unfold isAnother; generalize isLeast p row one shorter place = b1; generalize isLeast p row other shorter place = b2; generalize decide ((one.length : Int) = (other.length : Int)) = b3; generalize decide (one = other) = b4; cases b1 <;> cases b2 <;> cases b3 <;> cases b4 <;> rfl)
/-! law -/

theorem ev_newLeast {K : PySem.W.Frag} {C : Addr} {σ : L2.St} {H : Hp} {E E' : XK} {ta ta' : TA} {p : Int} {row rule shorter : List Int} {pl : Int} (h : EvAs K ta σ H [.l (il rule), .l (il shorter), .v (.int pl)]) (h2 : EvAs K ta' σ H [.v (.int p), .l (il row)])
    (hp : Good p ∧ row.length ≤ 2000 ∧ rule.length ≤ 2000 ∧ shorter.length ≤ 2000) : Ev (tMeth C "shows" (sp_Least_shows K C) [] E (tMake C (sp_Least___init__ K C) [] E' ta) ta') σ H (.bl (isLeast p row rule shorter pl)) := fun H1 e Q q =>
  make_Least (H := H1) (fun H2 e2 => h H2 (e.trans e2)) fun x dx r s H2 e2 nx nr ns nrs hx hr hs => ⟨x, dx, _, rfl, hx, fl3_shows r s pl, h2 H2 (e.trans e2) _ fun vs H3 e3 ok => ⟨x, dx, r, s, p, row, rule, shorter, pl, ⟨_, _, rfl, rfl, by rw [List.append_nil]; exact ok⟩, e3 _ _ hx, sq_of (e3 _ _ hr), sq_of (e3 _ _ hs), hp, fun H4 e4 => q H4 ((e2.trans e3).trans e4)⟩⟩
theorem ev_newOnly {K : PySem.W.Frag} {C : Addr} {σ : L2.St} {H : Hp} {E E' : XK} {ta ta' : TA} {p : Int} {row rule shorter : List Int} {pl : Int} (h : EvAs K ta σ H [.l (il rule), .l (il shorter), .v (.int pl)]) (h2 : EvAs K ta' σ H [.v (.int p), .l (il row)])
    (hp : Good p ∧ row.length ≤ 2000 ∧ rule.length ≤ 2000 ∧ shorter.length ≤ 2000) : Ev (tMeth C "shows" (sp_Only_shows K C) [] E (tMake C (sp_Only___init__ K C) [] E' ta) ta') σ H (.bl (isOnly p row rule shorter pl)) := fun H1 e Q q =>
  make_Only (H := H1) (fun H2 e2 => h H2 (e.trans e2)) fun x dx r s H2 e2 nx nr ns nrs hx hr hs => ⟨x, dx, _, rfl, hx, fl3_shows r s pl, h2 H2 (e.trans e2) _ fun vs H3 e3 ok => ⟨x, dx, r, s, p, row, rule, shorter, pl, ⟨_, _, rfl, rfl, by rw [List.append_nil]; exact ok⟩, e3 _ _ hx, sq_of (e3 _ _ hr), sq_of (e3 _ _ hs), hp, fun H4 e4 => q H4 ((e2.trans e3).trans e4)⟩⟩
theorem ev_newAnother {K : PySem.W.Frag} {C : Addr} {σ : L2.St} {H : Hp} {E E' : XK} {ta ta' : TA} {p : Int} {row one other shorter : List Int} {pl : Int} (h : EvAs K ta σ H [.l (il one), .l (il other), .l (il shorter), .v (.int pl)]) (h2 : EvAs K ta' σ H [.v (.int p), .l (il row)])
    (hp : Good p ∧ row.length ≤ 2000 ∧ one.length ≤ 2000 ∧ other.length ≤ 2000 ∧ shorter.length ≤ 2000) : Ev (tMeth C "shows" (sp_Another_shows K C) [] E (tMake C (sp_Another___init__ K C) [] E' ta) ta') σ H (.bl (isAnother p row one other shorter pl)) := fun H1 e Q q =>
  make_Another (H := H1) (fun H2 e2 => h H2 (e.trans e2)) fun x dx r o s H2 e2 nx nr no ns n1 n2 n3 hx hr ho hs => ⟨x, dx, _, rfl, hx, fl4_shows r o s pl, h2 H2 (e.trans e2) _ fun vs H3 e3 ok => ⟨x, dx, r, o, s, p, row, one, other, shorter, pl, ⟨_, _, rfl, rfl, by rw [List.append_nil]; exact ok⟩, e3 _ _ hx, sq_of (e3 _ _ hr), sq_of (e3 _ _ ho), sq_of (e3 _ _ hs), hp, fun H4 e4 => q H4 ((e2.trans e3).trans e4)⟩⟩
theorem t_least {K : PySem.W.Frag} {C : Addr} {σ : L2.St} {H : Hp} {E : XK} {ta : TA} {p : Int} {row : List Int} {Q : VK} (h : EvAs K ta σ H [.v (.int p), .l (il row)]) (hp : Good p ∧ Rs p row ∧ row.length ≤ 1000)
    (q : ∀ x dx r s H2, Ex H H2 → H x = none → H r = none → H s = none → r ≠ s → H2 x = some (.ins C dx (fl3 r s (RR.shortest p row).place)) → H2 r = some (.lst (il (RR.shortest p row).rule)) → H2 s = some (.lst (il (RR.shortest p row).shorter)) → Q (.ref x) H2) :
    tCall (sp_least K C) [] E ta σ H Q :=
  h H (Ex.refl H) _ fun vs H1 e1 ok => ⟨p, row, by rw [List.append_nil]; exact ok, hp, fun x dx r s H2 e2 nx nr ns nrs hx hr hs => q x dx r s H2 (e1.trans e2) (fresh_back e1 nx) (fresh_back e1 nr) (fresh_back e1 ns) nrs hx hr hs⟩

local macro_rules | `(tactic| walk_at "own") => `(tactic| first | ((with_reducible apply ev_newLeast) <;> walk_at "ev") | ((with_reducible apply ev_newOnly) <;> walk_at "ev") | ((with_reducible apply ev_newAnother) <;> walk_at "ev"))
def EvLs (K : PySem.W.Frag) (C : Addr) (p : Int) (row : List Int) (te : TE) (σ : L2.St) (H : Hp) : Prop := ∀ H1, Ex H H1 → ∀ Q : VK, (∀ x dx r s H2, Ex H1 H2 → H1 x = none → H1 r = none → H1 s = none → r ≠ s → H2 x = some (.ins C dx (fl3 r s (RR.shortest p row).place)) → H2 r = some (.lst (il (RR.shortest p row).rule)) → H2 s = some (.lst (il (RR.shortest p row).shorter)) → Q (.ref x) H2) → te σ H1 Q
def EvUn (K : PySem.W.Frag) (CO CA : Addr) (p : Int) (row : List Int) (te : TE) (σ : L2.St) (H : Hp) : Prop := ∀ H1, Ex H H1 → ∀ Q : VK, (2 * (RR.shortest p row).rule.length ≤ row.length → OnlyAt K CO p row H1 fun x H2 => Q (.ref x) H2) → (¬ 2 * (RR.shortest p row).rule.length ≤ row.length → AnotherAt K CA p row H1 fun x H2 => Q (.ref x) H2) → te σ H1 Q
theorem els {K : PySem.W.Frag} {C : Addr} {σ : L2.St} {H : Hp} {E : XK} {ta : TA} {p : Int} {row : List Int} (h : EvAs K ta σ H [.v (.int p), .l (il row)]) (hp : Good p ∧ Rs p row ∧ row.length ≤ 1000) : EvLs K C p row (tCall (sp_least K C) [] E ta) σ H := fun H1 e Q q =>
  t_least (fun H2 e2 => h H2 (e.trans e2)) hp q
theorem eun {K : PySem.W.Frag} {CO CA : Addr} {σ : L2.St} {H : Hp} {E : XK} {ta : TA} {p : Int} {row : List Int} (h : EvAs K ta σ H [.v (.int p), .l (il row)]) (hp : Good p ∧ Rs p row ∧ row.length ≤ 1000) : EvUn K CO CA p row (tCall (sp_unlike K CO CA) [] E ta) σ H := fun H1 e Q q1 q2 =>
  t_unlike (fun H2 e2 => h H2 (e.trans e2)) hp q1 q2
/-- a least and an unlike, side by side: what the second tells -/
def More (CO CA : Addr) (p : Int) (row : List Int) (H : Hp) (y : Addr) : Prop := (∃ dy r s, H y = some (.ins CO dy (fl3 r s (RR.shortest p row).place))) ∨ (∃ dy r o s, H y = some (.ins CA dy (fl4 r o s (RR.shortest p row).place)) ∧ H o = some (.lst (il (otherRule p row))))
theorem q_parLU {K : PySem.W.Frag} {C CO CA : Addr} {σ : L2.St} {H : Hp} {ta tb : TE} {p : Int} {row : List Int} {D : Ends} {tz : TS} {i j : Nat} (h1 : EvLs K C p row ta σ H) (h2 : EvUn K CO CA p row tb σ H)
    (q : ∀ x dx r s y H2, Ex H H2 → H2 x = some (.ins C dx (fl3 r s (RR.shortest p row).place)) → H2 r = some (.lst (il (RR.shortest p row).rule)) → H2 s = some (.lst (il (RR.shortest p row).shorter)) → More CO CA p row H2 y → tz D ((σ.set i (some (.ref x))).set j (some (.ref y))) H2) :
    tSeq (tPar i j (tCons ta (tCons tb tNil))) tz D σ H :=
  h1 H (Ex.refl H) _ fun x dx r s H2 e2 nx nr ns nrs hx hr hs => h2 H2 e2 _ (fun c y dy r' s' H3 e3 ny nr' ns' nrs' hy hr' hs' => ⟨_, _, rfl, q x dx r s y H3 (e2.trans e3) (e3 _ _ hx) (e3 _ _ hr) (e3 _ _ hs) (.inl ⟨dy, r', s', hy⟩)⟩)
    (fun c y dy r' o s' H3 e3 ny nr' no ns' m1 m2 m3 hy hr' ho hs' => ⟨_, _, rfl, q x dx r s y H3 (e2.trans e3) (e3 _ _ hx) (e3 _ _ hr) (e3 _ _ hs) (.inr ⟨dy, r', o, s', hy, ho⟩)⟩)
def sp_law (K : PySem.W.Frag) : Sp := fun vs H Q _ => ∃ (a : Addr) (ns : List Int), vs = [.ref a] ∧ SqL K H a (il ns) ∧ ns.length ≤ 63 ∧ ∀ H', Q (.bl true) H'
theorem law_start {K : PySem.W.Frag} {H : Hp} {a : Addr} {ns : List Int} {E : XK} (hl : ns.length ≤ 63) (hS : SqL K H a (ns.map V.int)) : sp_law K [.ref a] H (fun v _ => v = .bl true) E := ⟨a, ns, rfl, hS, hl, fun _ => rfl⟩
theorem ok_law (T : Txt K mg) : FnOk P w K mg base CX0 7 T.a_law T.f_law ["_law_script"] (sp_law K) := by
  refine T.F_law.ok sc_law (fun vs H Q E h => ?_) (fun cdv A outer s H vs Q E hr h => ?_)
  · obtain ⟨a, ns, rfl, _⟩ := h
    rfl
  · obtain ⟨a, ns, rfl, hS, hlen, q⟩ := h
    rw [show start ["_law_script", "_law_prime_here", "_law_row_here", "_law_found", "_law_more", "_law_rule", "_law_shorter", "_law_place", "_law_other", "_law_k", "_law_cell", "_law_spot", "_law_mine", "_law_bent_here", "_law_theirs", "_law_some", "_law_rests_here", "_law_due_here"] [.ref a] = [some (.ref a), none, none, none, none, none, none, none, none, none, none, none, none, none, none, none, none, none] from rfl]
    refine ⟨_, (pss_cons (ps_set (i := 1) sc_law.nd rfl (.inl rfl) (pe_call (ok__law_prime T) (hr.mono (by decide)) (by rfl) T.g__law_prime T.F__law_prime.kp T.b__law_prime .nil pass0 (pa_cons (pv 0) pa_nil)))
      (pss_cons (ps_set (i := 2) sc_law.nd rfl (.inl rfl) (pe_call (ok__law_row T) (hr.mono (by decide)) (by rfl) T.g__law_row T.F__law_row.kp T.b__law_row .nil pass0 (pa_cons (pv 0) (pa_cons (pv 1) pa_nil))))
      (pss_cons (ps_par (i := 3) (j := 4) (by rfl) sc_law.nd rfl rfl (by decide) rfl rfl (pa_cons (pe_call (ok_least T) (hr.mono (by decide)) (by rfl) T.g_least T.F_least.kp T.b_least .nil pass0 (pa_cons (pv 1) (pa_cons (pv 2) pa_nil))) (pa_cons (pe_call (ok_unlike T) (hr.mono (by decide)) (by rfl) T.g_unlike T.F_unlike.kp T.b_unlike .nil pass0 (pa_cons (pv 1) (pa_cons (pv 2) pa_nil))) pa_nil)) (by rfl))
      (pss_cons (ps_par3 (i := 5) (j := 6) (l := 7) (by rfl) sc_law.nd rfl rfl rfl (by decide) (by decide) (by decide) rfl rfl rfl (pa_cons (x_fld K rfl (pv 3) rfl) (pa_cons (x_fld K rfl (pv 3) rfl) (pa_cons (x_fld K rfl (pv 3) rfl) pa_nil))) (by rfl))
      (pss_cons (ps_set (i := 8) sc_law.nd rfl (.inl rfl) (pe_ifExp (pt_val (x_isi K rfl T.n_isinstance (by rfl) (pa_cons (pv 4) (pa_cons (pe_glob (v := .ref T.a_Another) (by rfl) T.g_Another rfl) pa_nil)))) (x_fld K rfl (pv 4) rfl) (pv 5)))
      (pss_cons (ps_for PassesOwn.never rfl (pi_range1 (by rfl) T.n_range (pa_cons pe_int pa_nil)) (pg_name (i := 9) sc_law.nd rfl (.inl rfl)) (pss_cons (ps_set (i := 10) sc_law.nd rfl (.inl rfl) (pe_op op_add (pe_op op_add (pe_call (ok__law_cell_at T) (hr.mono (by decide)) (by rfl) T.g__law_cell_at T.F__law_cell_at.kp T.b__law_cell_at .nil pass0 (pa_cons (pv 0) (pa_cons (pv 9) pa_nil))) (pe_op op_mul pe_int (pv 9))) (pe_op op_mul pe_int (pe_call (ok__law_cell_at T) (hr.mono (by decide)) (by rfl) T.g__law_cell_at T.F__law_cell_at.kp T.b__law_cell_at .nil pass0 (pa_cons (pv 0) (pa_cons (pe_op op_add (pv 9) pe_int) pa_nil))))))
      (pss_cons (ps_set (i := 11) sc_law.nd rfl (.inl rfl) (pe_op op_add (pv 7) (x_ixT K rfl (pe_tup (pa_cons pe_int (pa_cons pe_int (pa_cons pe_int (pa_cons pe_int (pa_cons (pe_un un_neg pe_int) pa_nil)))))) (pe_call (ok__law_draw T) (hr.mono (by decide)) (by rfl) T.g__law_draw T.F__law_draw.kp T.b__law_draw .nil pass0 (pa_cons (pv 10) (pa_cons pe_int (pa_cons pe_int pa_nil)))) (fun _ _ => rfl))))
      (pss_cons (ps_par (i := 12) (j := 13) (by rfl) sc_law.nd rfl rfl (by decide) rfl rfl (pa_cons (pe_call (ok__law_bent T) (hr.mono (by decide)) (by rfl) T.g__law_bent T.F__law_bent.kp T.b__law_bent .nil pass0 (pa_cons (pv 5) (pa_cons (pv 10) (pa_cons (pv 1) pa_nil)))) (pa_cons (pe_call (ok__law_bent T) (hr.mono (by decide)) (by rfl) T.g__law_bent T.F__law_bent.kp T.b__law_bent .nil pass0 (pa_cons (pv 6) (pa_cons (pe_op op_fdiv (pv 10) pe_int) (pa_cons (pv 1) pa_nil)))) pa_nil)) (by rfl))
      (pss_cons (ps_if (PW.pt (pw_or (pt_not (pt_val (pe_call (ok__law_right T) (hr.mono (by decide)) (by rfl) T.g__law_right T.F__law_right.kp T.b__law_right .nil pass0 (pa_cons (pv 1) (pa_cons (pv 2) (pa_cons (pv 12) (pa_cons (pv 6) (pa_cons (pv 11) pa_nil)))))))) (pw_or1 (pt_not (pt_val (pe_call (ok__law_right T) (hr.mono (by decide)) (by rfl) T.g__law_right T.F__law_right.kp T.b__law_right .nil pass0 (pa_cons (pv 1) (pa_cons (pv 2) (pa_cons (pv 5) (pa_cons (pv 13) (pa_cons (pv 11) pa_nil))))))))))) (pss_one (ps_ret pe_bl)) pss_nil)
      (pss_cons (ps_set (i := 14) sc_law.nd rfl (.inl rfl) (pe_call (ok__law_bent T) (hr.mono (by decide)) (by rfl) T.g__law_bent T.F__law_bent.kp T.b__law_bent .nil pass0 (pa_cons (pv 8) (pa_cons (pe_op op_fdiv (pv 10) pe_int) (pa_cons (pv 1) pa_nil)))))
      (pss_cons (ps_if (pt_not (pt_val (pe_call (ok__law_another_right T) (hr.mono (by decide)) (by rfl) T.g__law_another_right T.F__law_another_right.kp T.b__law_another_right .nil pass0 (pa_cons (pv 1) (pa_cons (pv 2) (pa_cons (pv 5) (pa_cons (pv 14) (pa_cons (pv 6) (pa_cons (pv 11) pa_nil))))))))) (pss_one (ps_ret pe_bl)) pss_nil)
      (pss_one (ps_if (pt_not (pt_val (pe_call (ok__law_another_right T) (hr.mono (by decide)) (by rfl) T.g__law_another_right T.F__law_another_right.kp T.b__law_another_right .nil pass0 (pa_cons (pv 1) (pa_cons (pv 2) (pa_cons (pv 12) (pa_cons (pv 8) (pa_cons (pv 6) (pa_cons (pv 7) pa_nil))))))))) (pss_one (ps_ret pe_bl)) pss_nil)))))))))
      (pss_cons (ps_set (i := 15) sc_law.nd rfl (.inl rfl) (pe_lst (pa_cons (pe_tup (pa_cons (pe_lst (pa_cons pe_int pa_nil)) (pa_cons (pe_lst pa_nil) (pa_cons pe_int (pa_cons pe_bl pa_nil))))) (pa_cons (pe_tup (pa_cons (pe_lst (pa_cons pe_int pa_nil)) (pa_cons (pe_lst pa_nil) (pa_cons pe_int (pa_cons pe_bl pa_nil))))) (pa_cons (pe_tup (pa_cons (pe_lst (pa_cons pe_int (pa_cons pe_int pa_nil))) (pa_cons (pe_lst pa_nil) (pa_cons pe_int (pa_cons pe_bl pa_nil))))) (pa_cons (pe_tup (pa_cons (pe_lst (pa_cons pe_int (pa_cons pe_int pa_nil))) (pa_cons (pe_lst (pa_cons pe_int pa_nil)) (pa_cons pe_int (pa_cons pe_bl pa_nil))))) pa_nil))))))
      (pss_cons (ps_expr (x_append K rfl (pv 15) (pa_cons (pe_tup (pa_cons (pe_lst pa_nil) (pa_cons (pe_lst pa_nil) (pa_cons (pe_un un_neg pe_int) (pa_cons pe_bl pa_nil))))) pa_nil)))
      (pss_cons (ps_for PassesOwn.never rfl (xi_list K rfl (pv 15)) (xg_tup K rfl 4 rfl (pgs_cons (pg_name (i := 16) sc_law.nd rfl (.inl rfl)) (pgs_cons (pg_name (i := 13) sc_law.nd rfl (.inl rfl)) (pgs_cons (pg_name (i := 11) sc_law.nd rfl (.inl rfl)) (pgs_cons (pg_name (i := 17) sc_law.nd rfl (.inl rfl)) pgs_nil))))) (pss_one (ps_if (pt_not (pt_val (pe_call (ok__law_says T) (hr.mono (by decide)) (by rfl) T.g__law_says T.F__law_says.kp T.b__law_says .nil pass0 (pa_cons (pe_meth (pe_make T.M_Least (ok_Least___init__ T) (hr.mono (by decide)) (by rfl) T.g_Least T.b_Least___init__ .nil pass0 (pa_cons (pv 16) (pa_cons (pv 13) (pa_cons (pv 11) pa_nil)))) T.cl_Least T.m_Least_shows (ok_Least_shows T) (hr.mono (by decide)) T.b_Least_shows .nil pass0 (pa_cons pe_int (pa_cons (pe_lst (pa_cons pe_int (pa_cons pe_int (pa_cons pe_int (pa_cons pe_int pa_nil))))) pa_nil))) (pa_cons (pv 17) pa_nil))))) (pss_one (ps_ret pe_bl)) pss_nil)))
      (pss_cons (ps_if (PW.pt (pw_or (pt_not (pt_val (pe_call (ok__law_says T) (hr.mono (by decide)) (by rfl) T.g__law_says T.F__law_says.kp T.b__law_says .nil pass0 (pa_cons (pe_meth (pe_make T.M_Only (ok_Only___init__ T) (hr.mono (by decide)) (by rfl) T.g_Only T.b_Only___init__ .nil pass0 (pa_cons (pe_lst (pa_cons pe_int pa_nil)) (pa_cons (pe_lst pa_nil) (pa_cons pe_int pa_nil)))) T.cl_Only T.m_Only_shows (ok_Only_shows T) (hr.mono (by decide)) T.b_Only_shows .nil pass0 (pa_cons pe_int (pa_cons (pe_lst (pa_cons pe_int pa_nil)) pa_nil))) (pa_cons pe_bl pa_nil))))) (pw_or1 (pt_not (pt_val (pe_call (ok__law_says T) (hr.mono (by decide)) (by rfl) T.g__law_says T.F__law_says.kp T.b__law_says .nil pass0 (pa_cons (pe_meth (pe_make T.M_Only (ok_Only___init__ T) (hr.mono (by decide)) (by rfl) T.g_Only T.b_Only___init__ .nil pass0 (pa_cons (pe_lst pa_nil) (pa_cons (pe_lst pa_nil) (pa_cons (pe_un un_neg pe_int) pa_nil)))) T.cl_Only T.m_Only_shows (ok_Only_shows T) (hr.mono (by decide)) T.b_Only_shows .nil pass0 (pa_cons pe_int (pa_cons (pe_lst (pa_cons pe_int pa_nil)) pa_nil))) (pa_cons pe_bl pa_nil)))))))) (pss_one (ps_ret pe_bl)) pss_nil)
      (pss_cons (ps_if (pt_not (pt_val (pe_call (ok__law_says T) (hr.mono (by decide)) (by rfl) T.g__law_says T.F__law_says.kp T.b__law_says .nil pass0 (pa_cons (pe_meth (pe_make T.M_Another (ok_Another___init__ T) (hr.mono (by decide)) (by rfl) T.g_Another T.b_Another___init__ .nil pass0 (pa_cons (pe_lst (pa_cons pe_int pa_nil)) (pa_cons (pe_lst (pa_cons pe_int pa_nil)) (pa_cons (pe_lst pa_nil) (pa_cons pe_int pa_nil))))) T.cl_Another T.m_Another_shows (ok_Another_shows T) (hr.mono (by decide)) T.b_Another_shows .nil pass0 (pa_cons pe_int (pa_cons (pe_lst (pa_cons pe_int pa_nil)) pa_nil))) (pa_cons pe_bl pa_nil))))) (pss_one (ps_ret pe_bl)) pss_nil)
      (pss_one (ps_ret (pe_call (ok__law_says T) (hr.mono (by decide)) (by rfl) T.g__law_says T.F__law_says.kp T.b__law_says .nil pass0 (pa_cons (pe_meth (pe_make T.M_Another (ok_Another___init__ T) (hr.mono (by decide)) (by rfl) T.g_Another T.b_Another___init__ .nil pass0 (pa_cons (pe_lst (pa_cons pe_int pa_nil)) (pa_cons (pe_lst (pa_cons pe_int pa_nil)) (pa_cons (pe_lst pa_nil) (pa_cons pe_int pa_nil))))) T.cl_Another T.m_Another_shows (ok_Another_shows T) (hr.mono (by decide)) T.b_Another_shows .nil pass0 (pa_cons pe_int (pa_cons (pe_lst (pa_cons pe_int pa_nil)) pa_nil))) (pa_cons pe_bl pa_nil)))))))))))))))), ?_⟩
    have hp := lawPrime_good ns
    obtain ⟨p, hpe⟩ : ∃ p, lawPrime ns = p := ⟨_, rfl⟩
    rw [hpe] at hp
    refine q_asg (i := 1) (v := .int p) ?_ fun H1 e1 => ?_
    · apply ev_is
      walk_at "ev"
      rw [hpe]
    have hS1 := ex_l e1 hS
    obtain ⟨R, hR⟩ : ∃ R, lawRow ns p = R := ⟨_, rfl⟩
    have hRl : R.length = ns.length := by rw [← hR]; exact lawRow_len ns p
    have hRr : Rs p R := by rw [← hR]; exact lawRow_rs hp.pos
    refine q_asgL (i := 2) (xs := il R) ?_ fun ra H2 nra e2 hra => ?_
    · apply el_is
      walk_at "ev"
      all_goals first | exact ⟨hp, hlen⟩ | rw [hR]
    have hS2 := ex_l e2 hS1

    have clL := T.cl_Least
    have naL := T.na_Least_rule
    have clO := T.cl_Only
    have clA := T.cl_Another
    have nO1 := T.na_Only_rule
    have nO2 := T.na_Only_shorter
    have nO3 := T.na_Only_place
    have nA1 := T.na_Another_one
    have nA2 := T.na_Another_other
    have nA3 := T.na_Another_shorter
    have nA4 := T.na_Another_place
    have i1L := T.i1_Least
    have i4L := T.i4_Least
    have i1 := T.i1_Only
    have i2 := T.i2
    have i3 := T.i3
    have i4 := T.i4_Only
    have i5 := T.i1_Another
    have i6 := T.i4_Another
    have jL1 := T.isa_Least_Answer
    have jL2 := T.isa_Least_Least
    have jL3 := T.isa_Least_Only
    have jL4 := T.isa_Least_Another
    have jO1 := T.isa_Only_Answer
    have jO2 := T.isa_Only_Least
    have jO3 := T.isa_Only_Only
    have jO4 := T.isa_Only_Another
    have jA1 := T.isa_Another_Answer
    have jA2 := T.isa_Another_Least
    have jA3 := T.isa_Another_Only
    have jA4 := T.isa_Another_Another

    have naL2 := T.na_Least_shorter
    have naL3 := T.na_Least_place
    refine q_parLU (C := T.a_Least) (CO := T.a_Only) (CA := T.a_Another) (p := p) (row := R) (els (by walk_at "ev") ⟨hp, hRr, by omega⟩) (eun (by walk_at "ev") ⟨hp, hRr, by omega⟩) fun x dx r s y H3 e3 hx hr1 hs1 hm => ?_
    have hS3 := ex_l e3 hS2
    have hra3 := e3 _ _ hra
    obtain ⟨b1, b2, b3, b4⟩ := shortest_lens hp R
    have hOTl := otherRule_len p R
    unfold More at hm
    obtain ⟨RU, hRU⟩ : ∃ z, (RR.shortest p R).rule = z := ⟨_, rfl⟩
    obtain ⟨SH, hSH⟩ : ∃ z, (RR.shortest p R).shorter = z := ⟨_, rfl⟩
    obtain ⟨PLC, hPLC⟩ : ∃ z, (RR.shortest p R).place = z := ⟨_, rfl⟩
    obtain ⟨OT, hOT⟩ : ∃ z, otherRule p R = z := ⟨_, rfl⟩
    rw [hRU] at b1 hr1
    rw [hSH] at b2 hs1
    rw [hPLC] at hx hm
    rw [hRU, hOT] at hOTl
    rw [hOT] at hm
    refine q_par3V (x := .ref r) (y := .ref s) (z := .int PLC) (by walk_at "ev") (by walk_at "ev") (by walk_at "ev") fun H4 e4 => ?_
    have hr4 := e4 _ _ hr1
    have hs4 := e4 _ _ hs1
    have hra4 := e4 _ _ hra3
    have hS4 := ex_l e4 hS3
    refine q_asgEx (P := fun oa => ∃ OL, H4 oa = some (.lst (il OL)) ∧ OL.length ≤ 63) ?_ fun oa ⟨OL, hoa, hOLl⟩ H5 e5 => ?_
    · rcases hm with ⟨dy, r', s', hy⟩ | ⟨dy, r', o, s', hy, ho⟩
      · have hy4 := e4 _ _ hy
        exact ⟨r, by walk_at "ev", RU, hr4, by omega⟩
      · have hy4 := e4 _ _ hy
        exact ⟨o, by walk_at "ev", OT, e4 _ _ ho, by omega⟩
    have hr5 := e5 _ _ hr4
    have hs5 := e5 _ _ hs4
    have hra5 := e5 _ _ hra4
    have hS5 := ex_l e5 hS4
    have hoa5 := e5 _ _ hoa
    refine q_forR1 (j := 9) (n := 6) (by walk_at "ev") (by omega) (fun i σ' H' => ∃ x9 x10 x11 x12 x13 x14, σ' = [some (.ref a), some (.int p), some (.ref ra), some (.ref x), some (.ref y), some (.ref r), some (.ref s), some (.int PLC), some (.ref oa), x9, x10, x11, x12, x13, x14, none, none, none] ∧ Ex H5 H')
      (fun H6 e6 => ⟨none, none, none, none, none, none, rfl, e6⟩) ?_ ?_
    · rintro k σ' H6 hk ⟨x9, x10, x11, x12, x13, x14, rfl, e6⟩
      have hr6 := e6 _ _ hr5
      have hs6 := e6 _ _ hs5
      have hra6 := e6 _ _ hra5
      have hS6 := ex_l e6 hS5
      have hoa6 := e6 _ _ hoa5
      refine q_asg (i := 10) (v := .int (g ns (k : Int).toNat + 977 * (k : Int) + 7 * g ns ((k : Int) + 1).toNat)) ?_ fun H7 e7 => ?_
      · walk_at "ev"
      generalize g ns (k : Int).toNat + 977 * (k : Int) + 7 * g ns ((k : Int) + 1).toNat = c
      have hr7 := e7 _ _ hr6
      have hs7 := e7 _ _ hs6
      have hra7 := e7 _ _ hra6
      have hoa7 := e7 _ _ hoa6
      have hd5 := draw_in (c := c) (k := 5) (m := 5) (by decide)
      refine q_asg (i := 11) (v := .int (PLC + g SPOT (draw c 5 5).toNat)) ?_ fun H8 e8 => ?_
      · refine ev_add (by walk_at "ev") (ev_ixUi (ns := SPOT) (i := draw c 5 5) ?_ (by walk_at "ev") ?_)
        · apply eu_is
          walk_at "ev"
          rfl
        · show 0 ≤ _ ∧ _ < (5 : Int)
          exact hd5
      generalize PLC + g SPOT (draw c 5 5).toNat = sp
      have hr8 := e8 _ _ hr7
      have hs8 := e8 _ _ hs7
      have hra8 := e8 _ _ hra7
      have hoa8 := e8 _ _ hoa7
      refine q_parLL (k := 12) (l := 13) (xs := il (bent RU c p)) (ys := il (bent SH (c / 3) p)) ?_ ?_ fun p1 p2 H9 n1 n2 n12 e9 hp1 hp2 => ?_
      · walk_at "ev"
        all_goals exact ⟨hp, by omega⟩
      · walk_at "ev"
        all_goals exact ⟨hp, by omega⟩
      have bl1 := bent_len RU c p
      have bl2 := bent_len SH (c / 3) p
      have hr9 := e9 _ _ hr8
      have hs9 := e9 _ _ hs8
      have hra9 := e9 _ _ hra8
      have hoa9 := e9 _ _ hoa8
      refine q_skip (b := false) ?_ rfl fun H10 e10 => ?_
      · apply et_is
        walk_at "ev"
        all_goals first | exact ⟨hp, by omega, by omega, by omega⟩ | rfl
      have hr10 := e10 _ _ hr9
      have hs10 := e10 _ _ hs9
      have hra10 := e10 _ _ hra9
      have hoa10 := e10 _ _ hoa9
      have hp110 := e10 _ _ hp1
      refine q_asgL (i := 14) (xs := il (bent OL (c / 5) p)) ?_ fun p3 H11 n3 e11 hp3 => ?_
      · walk_at "ev"
        all_goals exact ⟨hp, by omega⟩
      have bl3 := bent_len OL (c / 5) p
      have hr11 := e11 _ _ hr10
      have hs11 := e11 _ _ hs10
      have hra11 := e11 _ _ hra10
      have hoa11 := e11 _ _ hoa10
      have hp111 := e11 _ _ hp110
      refine q_skip (b := false) ?_ rfl fun H12 e12 => ?_
      · apply et_is
        walk_at "ev"
        all_goals first | exact ⟨hp, by omega, by omega, by omega, by omega⟩ | rfl
      have hr12 := e12 _ _ hr11
      have hs12 := e12 _ _ hs11
      have hra12 := e12 _ _ hra11
      have hoa12 := e12 _ _ hoa11
      have hp112 := e12 _ _ hp111
      refine s_skip (b := false) ?_ rfl fun H13 e13 => ⟨_, _, _, _, _, _, rfl, (((((((e6.trans e7).trans e8).trans e9).trans e10).trans e11).trans e12)).trans e13⟩
      apply et_is
      walk_at "ev"
      all_goals first | exact ⟨hp, by omega, by omega, by omega, by omega⟩ | rfl
    rintro σ' H6 ⟨x9, x10, x11, x12, x13, x14, rfl, e6⟩
    have hp5 : Good 5 := good_of (n := 5) (by decide +kernel)
    have m4 : ∀ (rule sh : List Int) (pl : Int) (b : Bool), ∀ φ ∈ ([wM (il rule), wM (il sh), wIs (.int pl), wIs (.bl b)] : List Wd), Mono φ := fun rule sh pl b φ hφ => by
      simp only [List.mem_cons, List.mem_nil_iff, or_false] at hφ
      rcases hφ with rfl | rfl | rfl | rfl
      · exact mono_m
      · exact mono_m
      · exact mono_is
      · exact mono_is
    obtain ⟨W, hW⟩ : ∃ W : List Int → List Int → Int → Bool → Wd, W = fun rule sh pl b => wT [wM (il rule), wM (il sh), wIs (.int pl), wIs (.bl b)] := ⟨_, rfl⟩
    have mW : ∀ rule sh pl b, Mono (W rule sh pl b) := fun rule sh pl b => by rw [hW]; exact mono_t (m4 rule sh pl b)
    have eW : ∀ {te1 te2 te3 te4 : TE} {σ : L2.St} {H : Hp} {rule sh : List Int} {pl : Int} {b : Bool}, EvM te1 σ H (il rule) → EvM te2 σ H (il sh) → Ev te3 σ H (.int pl) → Ev te4 σ H (.bl b) → EvP (tTup (tCons te1 (tCons te2 (tCons te3 (tCons te4 tNil))))) σ H (W rule sh pl b) := fun h1 h2 h3 h4 => by
      rw [hW]
      exact ep_t (m4 _ _ _ _) (eps_cons mono_m (ep_m h1) (eps_cons mono_m (ep_m h2) (eps_cons mono_is (ep_v h3) (eps_cons mono_is (ep_v h4) eps_nil)))) (by simp)
    refine q_asgLW (k := 15) (φs := [W [1] [] 0 true, W [2] [] 0 false, W [1, 0] [] 0 false, W [0, 1] [1] 2 false]) ?_ (eps_cons (mW _ _ _ _) (eW (by walk_at "ev") (by walk_at "ev") (by walk_at "ev") (by walk_at "ev")) (eps_cons (mW _ _ _ _) (eW (by walk_at "ev") (by walk_at "ev") (by walk_at "ev") (by walk_at "ev"))
      (eps_cons (mW _ _ _ _) (eW (by walk_at "ev") (by walk_at "ev") (by walk_at "ev") (by walk_at "ev")) (eps_cons (mW _ _ _ _) (eW (by walk_at "ev") (by walk_at "ev") (by walk_at "ev") (by walk_at "ev")) eps_nil)))) (by simp) fun l vs H7 nl e7 hl hv => ?_
    · intro φ hφ
      simp only [List.mem_cons, List.mem_nil_iff, or_false] at hφ
      rcases hφ with rfl | rfl | rfl | rfl <;> exact mW _ _ _ _
    have hvl := allW_len hv
    have hvl4 : vs.length = 4 := hvl
    refine q_appW (l := l) (xs := vs) (φ := W [] [] (-1) false) hl (by walk_at "ev") (eW (by walk_at "ev") (by walk_at "ev") (by walk_at "ev") (by walk_at "ev")) (by omega) fun y5 H8 e8 hy5 => ?_
    obtain ⟨G8, hG8⟩ : ∃ G, upd H8 l (.lst (vs ++ [y5])) = G := ⟨_, rfl⟩
    have E8 : Ex H6 G8 := by rw [← hG8]; exact Ex.mut (e7.trans e8) nl
    have hl8 : G8 l = some (.lst (vs ++ [y5])) := by rw [← hG8]; exact upd_same
    -- each of the five stands still when l is changed: none of them is l
    have stay : ∀ (rule sh : List Int) (pl : Int) (b : Bool) (z : V), W rule sh pl b z H8 → (∀ q, H8 q = some (.lst (il rule)) → q ≠ l) → (∀ q, H8 q = some (.lst (il sh)) → q ≠ l) → W rule sh pl b z G8 := by
      intro rule sh pl b z hz f1 f2
      rw [hW] at hz ⊢
      obtain ⟨t, us, rfl, ht, u1, us1, rfl, ⟨q1, rfl, hq1⟩, u2, us2, rfl, ⟨q2, rfl, hq2⟩, u3, us3, rfl, h3, u4, us4, rfl, h4, h5⟩ := hz
      have hl8' := e8 _ _ hl
      have tl : t ≠ l := ne_of ht hl8' (by intro w; cases w)
      have mv : ∀ {q : Addr} {xs : List V}, H8 q = some (.lst xs) → q ≠ l → G8 q = some (.lst xs) := fun {q xs} h hq => by rw [← hG8, upd_ne hq]; exact h
      exact ⟨t, _, rfl, by rw [← hG8, upd_ne tl]; exact ht, _, _, rfl, ⟨q1, rfl, mv hq1 (f1 _ hq1)⟩, _, _, rfl, ⟨q2, rfl, mv hq2 (f2 _ hq2)⟩, _, _, rfl, h3, _, _, rfl, h4, h5⟩
    have notl : ∀ (zs : List Int) (q : Addr), H8 q = some (.lst (il zs)) → q ≠ l := by
      rintro zs q h rfl
      have hl8' := e8 _ _ hl
      rw [hl8'] at h
      have w : vs = il zs := by injection h with h; injection h
      obtain ⟨y0, ys, rfl, hy0, _⟩ := hv
      rw [hW] at hy0
      obtain ⟨t, us, rfl, _⟩ := hy0
      cases zs with
      | nil => cases w
      | cons z zs => injection w with w1 w2; cases w1
    rw [hG8]
    -- what holds of each of the five
    obtain ⟨WW, hWW⟩ : ∃ WW : V → Hp → Prop, WW = fun z H => ∃ rule sh pl b, W rule sh pl b z H ∧ isLeast 5 [1, 1, 1, 1] rule sh pl = b ∧ rule.length ≤ 10 ∧ sh.length ≤ 10 := ⟨_, rfl⟩
    have mWW : Mono WW := fun z G G' e h => by
      rw [hWW] at h ⊢
      obtain ⟨rule, sh, pl, b, h1, h2⟩ := h
      exact ⟨rule, sh, pl, b, mW _ _ _ _ _ _ _ e h1, h2⟩
    have all5 : ∀ (i : Nat) z, (vs ++ [y5])[i]? = some z → WW z G8 := by
      intro i z hz
      rw [hWW]
      have hv8 := allW_up (by
        intro φ hφ
        simp only [List.mem_cons, List.mem_nil_iff, or_false] at hφ
        rcases hφ with rfl | rfl | rfl | rfl <;> exact mW _ _ _ _) hv e8
      by_cases hi : i < vs.length
      · rw [List.getElem?_append_left hi] at hz
        obtain ⟨φ, hφ, hz2⟩ := allW_at hv8 hz
        have hφm := List.mem_of_getElem? hφ
        simp only [List.mem_cons, List.mem_nil_iff, or_false] at hφm
        rcases hφm with rfl | rfl | rfl | rfl
        · exact ⟨_, _, _, _, stay _ _ _ _ _ hz2 (notl _) (notl _), by decide +kernel, by decide, by decide⟩
        · exact ⟨_, _, _, _, stay _ _ _ _ _ hz2 (notl _) (notl _), by decide +kernel, by decide, by decide⟩
        · exact ⟨_, _, _, _, stay _ _ _ _ _ hz2 (notl _) (notl _), by decide +kernel, by decide, by decide⟩
        · exact ⟨_, _, _, _, stay _ _ _ _ _ hz2 (notl _) (notl _), by decide +kernel, by decide, by decide⟩
      · rw [List.getElem?_append_right (by omega)] at hz
        have : z = y5 := by
          have h0 : i - vs.length = 0 := by
            have := (List.getElem?_eq_some_iff.mp hz).1
            simp at this
            omega
          rw [h0] at hz
          exact (Option.some.inj hz).symm
        subst this
        exact ⟨_, _, _, _, stay _ _ _ _ _ hy5 (notl _) (notl _), by decide +kernel, by decide, by decide⟩
    refine q_forL (a := l) (xs := vs ++ [y5]) (by walk_at "ev") (sq_of hl8) (fun i σ' H' => ∃ x11 x13 x16 x17, σ' = [some (.ref a), some (.int p), some (.ref ra), some (.ref x), some (.ref y), some (.ref r), some (.ref s), some (.int PLC), some (.ref oa), x9, x10, x11, x12, x13, x14, some (.ref l), x16, x17] ∧ Ex G8 H')
      (fun H9 e9 => ⟨x11, x13, none, none, rfl, e9⟩) (fun i σ' H' _ ⟨_, _, _, _, _, e⟩ => sq_of (e _ _ hl8)) ?_ ?_
    · rintro i z σ' H9 hz ⟨x11, x13, x16, x17, rfl, e9⟩
      have hz2 := mWW _ _ _ e9 (all5 i z hz)
      rw [hWW] at hz2
      obtain ⟨rule, sh, pl, b, hz3, hz4, hz5, hz6⟩ := hz2
      rw [hW] at hz3
      obtain ⟨t, us, rfl, ht, u1, us1, rfl, ⟨q1, rfl, hq1⟩, u2, us2, rfl, ⟨q2, rfl, hq2⟩, u3, us3, rfl, h3, u4, us4, rfl, h4, h5⟩ := hz3
      obtain rfl : u3 = .int pl := h3
      obtain rfl : u4 = .bl b := h4
      obtain rfl : us4 = [] := h5
      refine ⟨t, _, rfl, st_of ht, rfl, _, _, rfl, _, _, rfl, _, _, rfl, _, _, rfl, rfl, ?_⟩
      refine s_skip (b := false) ?_ rfl fun H10 e10 => ⟨_, _, _, _, rfl, e9.trans e10⟩
      apply et_is
      walk_at "ev"
      all_goals first | exact ⟨hp5, by simp, by omega, by omega⟩ | (rw [hz4]; simp)
    · rintro σ' H9 ⟨x11, x13, x16, x17, rfl, e9⟩
      refine q_skip (b := false) ?_ rfl fun H10 e10 => ?_
      · apply et_is
        walk_at "ev"
        all_goals first | exact ⟨hp5, by simp, by simp, by simp⟩ | decide +kernel
      refine q_skip (b := false) ?_ rfl fun H11 e11 => ?_
      · apply et_is
        walk_at "ev"
        all_goals first | exact ⟨hp5, by simp, by simp, by simp, by simp⟩ | decide +kernel
      refine s_ret (v := .bl true) ?_ fun H12 e12 => q H12
      apply ev_is
      walk_at "ev"
      all_goals first | exact ⟨hp5, by simp, by simp, by simp, by simp⟩ | (exact congrArg V.bl (by decide +kernel))
end
def txt_mk {K : PySem.W.Frag} {h : Heap} {mg : Str → Option Value} (X : K.In h) (G : h.Ns mainGlobals mg)
    {x_is_whole : Addr} {od_is_whole an_is_whole : Option Addr} {sl_is_whole : Array (Option Value)} {oc_is_whole kV_is_whole dc_is_whole pm_is_whole cd_is_whole ct_is_whole : Value}
    {x_check_prime : Addr} {od_check_prime an_check_prime : Option Addr} {sl_check_prime : Array (Option Value)} {oc_check_prime kV_check_prime dc_check_prime pm_check_prime cd_check_prime ct_check_prime : Value}
    {x_are_rests : Addr} {od_are_rests an_are_rests : Option Addr} {sl_are_rests : Array (Option Value)} {oc_are_rests kV_are_rests dc_are_rests pm_are_rests cd_are_rests ct_are_rests : Value}
    {x_check_row : Addr} {od_check_row an_check_row : Option Addr} {sl_check_row : Array (Option Value)} {oc_check_row kV_check_row dc_check_row pm_check_row cd_check_row ct_check_row : Value}
    {x_inverse : Addr} {od_inverse an_inverse : Option Addr} {sl_inverse : Array (Option Value)} {oc_inverse kV_inverse dc_inverse pm_inverse cd_inverse ct_inverse : Value}
    {x_due_at : Addr} {od_due_at an_due_at : Option Addr} {sl_due_at : Array (Option Value)} {oc_due_at kV_due_at dc_due_at pm_due_at cd_due_at ct_due_at : Value}
    {x_makes_all : Addr} {od_makes_all an_makes_all : Option Addr} {sl_makes_all : Array (Option Value)} {oc_makes_all kV_makes_all dc_makes_all pm_makes_all cd_makes_all ct_makes_all : Value}
    {x_turned : Addr} {od_turned an_turned : Option Addr} {sl_turned : Array (Option Value)} {oc_turned kV_turned dc_turned pm_turned cd_turned ct_turned : Value}
    {x_told_back : Addr} {od_told_back an_told_back : Option Addr} {sl_told_back : Array (Option Value)} {oc_told_back kV_told_back dc_told_back pm_told_back cd_told_back ct_told_back : Value}
    {x_is_least : Addr} {od_is_least an_is_least : Option Addr} {sl_is_least : Array (Option Value)} {oc_is_least kV_is_least dc_is_least pm_is_least cd_is_least ct_is_least : Value}
    {x_taken_off : Addr} {od_taken_off an_taken_off : Option Addr} {sl_taken_off : Array (Option Value)} {oc_taken_off kV_taken_off dc_taken_off pm_taken_off cd_taken_off ct_taken_off : Value}
    {x_shortest : Addr} {od_shortest an_shortest : Option Addr} {sl_shortest : Array (Option Value)} {oc_shortest kV_shortest dc_shortest pm_shortest cd_shortest ct_shortest : Value}
    {x_Least___init__ : Addr} {od_Least___init__ an_Least___init__ : Option Addr} {sl_Least___init__ : Array (Option Value)} {oc_Least___init__ kV_Least___init__ dc_Least___init__ pm_Least___init__ cd_Least___init__ ct_Least___init__ : Value}
    {x_Least_shows : Addr} {od_Least_shows an_Least_shows : Option Addr} {sl_Least_shows : Array (Option Value)} {oc_Least_shows kV_Least_shows dc_Least_shows pm_Least_shows cd_Least_shows ct_Least_shows : Value}
    {x_Only___init__ : Addr} {od_Only___init__ an_Only___init__ : Option Addr} {sl_Only___init__ : Array (Option Value)} {oc_Only___init__ kV_Only___init__ dc_Only___init__ pm_Only___init__ cd_Only___init__ ct_Only___init__ : Value}
    {x_Only_shows : Addr} {od_Only_shows an_Only_shows : Option Addr} {sl_Only_shows : Array (Option Value)} {oc_Only_shows kV_Only_shows dc_Only_shows pm_Only_shows cd_Only_shows ct_Only_shows : Value}
    {x_Another___init__ : Addr} {od_Another___init__ an_Another___init__ : Option Addr} {sl_Another___init__ : Array (Option Value)} {oc_Another___init__ kV_Another___init__ dc_Another___init__ pm_Another___init__ cd_Another___init__ ct_Another___init__ : Value}
    {x_Another_shows : Addr} {od_Another_shows an_Another_shows : Option Addr} {sl_Another_shows : Array (Option Value)} {oc_Another_shows kV_Another_shows dc_Another_shows pm_Another_shows cd_Another_shows ct_Another_shows : Value}
    {x_unlike : Addr} {od_unlike an_unlike : Option Addr} {sl_unlike : Array (Option Value)} {oc_unlike kV_unlike dc_unlike pm_unlike cd_unlike ct_unlike : Value}
    {x_least : Addr} {od_least an_least : Option Addr} {sl_least : Array (Option Value)} {oc_least kV_least dc_least pm_least cd_least ct_least : Value}
    {x__law_cell_at : Addr} {od__law_cell_at an__law_cell_at : Option Addr} {sl__law_cell_at : Array (Option Value)} {oc__law_cell_at kV__law_cell_at dc__law_cell_at pm__law_cell_at cd__law_cell_at ct__law_cell_at : Value}
    {x__law_draw : Addr} {od__law_draw an__law_draw : Option Addr} {sl__law_draw : Array (Option Value)} {oc__law_draw kV__law_draw dc__law_draw pm__law_draw cd__law_draw ct__law_draw : Value}
    {x__law_prime : Addr} {od__law_prime an__law_prime : Option Addr} {sl__law_prime : Array (Option Value)} {oc__law_prime kV__law_prime dc__law_prime pm__law_prime cd__law_prime ct__law_prime : Value}
    {x__law_rests : Addr} {od__law_rests an__law_rests : Option Addr} {sl__law_rests : Array (Option Value)} {oc__law_rests kV__law_rests dc__law_rests pm__law_rests cd__law_rests ct__law_rests : Value}
    {x__law_due : Addr} {od__law_due an__law_due : Option Addr} {sl__law_due : Array (Option Value)} {oc__law_due kV__law_due dc__law_due pm__law_due cd__law_due ct__law_due : Value}
    {x__law_made : Addr} {od__law_made an__law_made : Option Addr} {sl__law_made : Array (Option Value)} {oc__law_made kV__law_made dc__law_made pm__law_made cd__law_made ct__law_made : Value}
    {x__law_rested : Addr} {od__law_rested an__law_rested : Option Addr} {sl__law_rested : Array (Option Value)} {oc__law_rested kV__law_rested dc__law_rested pm__law_rested cd__law_rested ct__law_rested : Value}
    {x__law_least : Addr} {od__law_least an__law_least : Option Addr} {sl__law_least : Array (Option Value)} {oc__law_least kV__law_least dc__law_least pm__law_least cd__law_least ct__law_least : Value}
    {x__law_row : Addr} {od__law_row an__law_row : Option Addr} {sl__law_row : Array (Option Value)} {oc__law_row kV__law_row dc__law_row pm__law_row cd__law_row ct__law_row : Value}
    {x__law_says : Addr} {od__law_says an__law_says : Option Addr} {sl__law_says : Array (Option Value)} {oc__law_says kV__law_says dc__law_says pm__law_says cd__law_says ct__law_says : Value}
    {x__law_bent : Addr} {od__law_bent an__law_bent : Option Addr} {sl__law_bent : Array (Option Value)} {oc__law_bent kV__law_bent dc__law_bent pm__law_bent cd__law_bent ct__law_bent : Value}
    {x__law_right : Addr} {od__law_right an__law_right : Option Addr} {sl__law_right : Array (Option Value)} {oc__law_right kV__law_right dc__law_right pm__law_right cd__law_right ct__law_right : Value}
    {x__law_another_right : Addr} {od__law_another_right an__law_another_right : Option Addr} {sl__law_another_right : Array (Option Value)} {oc__law_another_right kV__law_another_right dc__law_another_right pm__law_another_right cd__law_another_right ct__law_another_right : Value}
    {x_law : Addr} {od_law an_law : Option Addr} {sl_law : Array (Option Value)} {oc_law kV_law dc_law pm_law cd_law ct_law : Value}
    {x_Answer : Addr}
    {x_Least : Addr}
    {x_Only : Addr}
    {x_Another : Addr}
    {u_GREATEST : Tok}
    (ac_Answer : PySem.W.nsIn K mainGlobals "Answer" = some (some (.ref x_Answer)))
    (ac_Least : PySem.W.nsIn K mainGlobals "Least" = some (some (.ref x_Least)))
    (pg_Least : PySem.W.plainGet K x_Least Str.empty = true)
    (hd_Least : PySem.W.hasDictIn K x_Least = true)
    (po_Least : PySem.W.plainOver K x_Least = true)
    (sa_Least : PySem.W.findIn K (.ref x_Least) "__setattr__" = some (some (.builtin "object.__setattr__")))
    (mk_Least : PySem.W.makesIn K x_Least = true)
    (kc_Least : PySem.W.keepIn K (.ref x_Least) = true)
    (j1_Least : PySem.W.findIn K (.ref x_Least) "__class__" = some (some (.builtin "object.__class__")))
    (j4_Least : PySem.W.mroIn K x_Least (.type "object") = some true)
    (na_Least_rule : PySem.W.findIn K (.ref x_Least) "rule" = some none)
    (na_Least_shorter : PySem.W.findIn K (.ref x_Least) "shorter" = some none)
    (na_Least_place : PySem.W.findIn K (.ref x_Least) "place" = some none)
    (ac_Only : PySem.W.nsIn K mainGlobals "Only" = some (some (.ref x_Only)))
    (pg_Only : PySem.W.plainGet K x_Only Str.empty = true)
    (hd_Only : PySem.W.hasDictIn K x_Only = true)
    (po_Only : PySem.W.plainOver K x_Only = true)
    (sa_Only : PySem.W.findIn K (.ref x_Only) "__setattr__" = some (some (.builtin "object.__setattr__")))
    (mk_Only : PySem.W.makesIn K x_Only = true)
    (kc_Only : PySem.W.keepIn K (.ref x_Only) = true)
    (j1_Only : PySem.W.findIn K (.ref x_Only) "__class__" = some (some (.builtin "object.__class__")))
    (j4_Only : PySem.W.mroIn K x_Only (.type "object") = some true)
    (na_Only_rule : PySem.W.findIn K (.ref x_Only) "rule" = some none)
    (na_Only_shorter : PySem.W.findIn K (.ref x_Only) "shorter" = some none)
    (na_Only_place : PySem.W.findIn K (.ref x_Only) "place" = some none)
    (ac_Another : PySem.W.nsIn K mainGlobals "Another" = some (some (.ref x_Another)))
    (pg_Another : PySem.W.plainGet K x_Another Str.empty = true)
    (hd_Another : PySem.W.hasDictIn K x_Another = true)
    (po_Another : PySem.W.plainOver K x_Another = true)
    (sa_Another : PySem.W.findIn K (.ref x_Another) "__setattr__" = some (some (.builtin "object.__setattr__")))
    (mk_Another : PySem.W.makesIn K x_Another = true)
    (kc_Another : PySem.W.keepIn K (.ref x_Another) = true)
    (j1_Another : PySem.W.findIn K (.ref x_Another) "__class__" = some (some (.builtin "object.__class__")))
    (j4_Another : PySem.W.mroIn K x_Another (.type "object") = some true)
    (na_Another_one : PySem.W.findIn K (.ref x_Another) "one" = some none)
    (na_Another_other : PySem.W.findIn K (.ref x_Another) "other" = some none)
    (na_Another_shorter : PySem.W.findIn K (.ref x_Another) "shorter" = some none)
    (na_Another_place : PySem.W.findIn K (.ref x_Another) "place" = some none)
    (j2 : PySem.W.specialIn K (.builtin "object.__class__") "__get__" = some (some (.builtin "getset_descriptor.__get__")))
    (j3 : PySem.W.takesIn K (.builtin "object.__class__") = some true)
    (is_Answer : PySem.W.isClsIn K x_Answer = true)
    (ty_Answer : PySem.W.typeIn K (.ref x_Answer) = some (.type "type"))
    (sub_Least_Answer : PySem.W.subIn K (.ref x_Least) (.ref x_Answer) = some true)
    (is_Only : PySem.W.isClsIn K x_Only = true)
    (ty_Only : PySem.W.typeIn K (.ref x_Only) = some (.type "type"))
    (sub_Least_Only : PySem.W.subIn K (.ref x_Least) (.ref x_Only) = some false)
    (ne_Least_Only : x_Least ≠ x_Only)
    (is_Another : PySem.W.isClsIn K x_Another = true)
    (ty_Another : PySem.W.typeIn K (.ref x_Another) = some (.type "type"))
    (sub_Least_Another : PySem.W.subIn K (.ref x_Least) (.ref x_Another) = some false)
    (ne_Least_Another : x_Least ≠ x_Another)
    (sub_Only_Answer : PySem.W.subIn K (.ref x_Only) (.ref x_Answer) = some true)
    (is_Least : PySem.W.isClsIn K x_Least = true)
    (ty_Least : PySem.W.typeIn K (.ref x_Least) = some (.type "type"))
    (sub_Only_Least : PySem.W.subIn K (.ref x_Only) (.ref x_Least) = some false)
    (ne_Only_Least : x_Only ≠ x_Least)
    (sub_Only_Another : PySem.W.subIn K (.ref x_Only) (.ref x_Another) = some false)
    (ne_Only_Another : x_Only ≠ x_Another)
    (sub_Another_Answer : PySem.W.subIn K (.ref x_Another) (.ref x_Answer) = some true)
    (sub_Another_Least : PySem.W.subIn K (.ref x_Another) (.ref x_Least) = some false)
    (ne_Another_Least : x_Another ≠ x_Least)
    (sub_Another_Only : PySem.W.subIn K (.ref x_Another) (.ref x_Only) = some false)
    (ne_Another_Only : x_Another ≠ x_Only)
    (a_is_whole : PySem.W.nsIn K mainGlobals "is_whole" = some (some (.ref x_is_whole)))
    (l_is_whole : K.lookup x_is_whole = some ⟨oc_is_whole, od_is_whole, .func (PySem.W.fnOf "is_whole" "is_whole" (defArgs s_is_whole) (defBody s_is_whole) (defScope s_is_whole) .none kV_is_whole dc_is_whole pm_is_whole an_is_whole cd_is_whole ct_is_whole), sl_is_whole⟩)
    (c_is_whole : PySem.W.codeIn K cd_is_whole "is_whole" = true)
    (k_is_whole : PySem.W.keepIn K (.ref x_is_whole) = true)
    (a_check_prime : PySem.W.nsIn K mainGlobals "check_prime" = some (some (.ref x_check_prime)))
    (l_check_prime : K.lookup x_check_prime = some ⟨oc_check_prime, od_check_prime, .func (PySem.W.fnOf "check_prime" "check_prime" (defArgs s_check_prime) (defBody s_check_prime) (defScope s_check_prime) .none kV_check_prime dc_check_prime pm_check_prime an_check_prime cd_check_prime ct_check_prime), sl_check_prime⟩)
    (c_check_prime : PySem.W.codeIn K cd_check_prime "check_prime" = true)
    (k_check_prime : PySem.W.keepIn K (.ref x_check_prime) = true)
    (a_are_rests : PySem.W.nsIn K mainGlobals "are_rests" = some (some (.ref x_are_rests)))
    (l_are_rests : K.lookup x_are_rests = some ⟨oc_are_rests, od_are_rests, .func (PySem.W.fnOf "are_rests" "are_rests" (defArgs s_are_rests) (defBody s_are_rests) (defScope s_are_rests) .none kV_are_rests dc_are_rests pm_are_rests an_are_rests cd_are_rests ct_are_rests), sl_are_rests⟩)
    (c_are_rests : PySem.W.codeIn K cd_are_rests "are_rests" = true)
    (k_are_rests : PySem.W.keepIn K (.ref x_are_rests) = true)
    (a_check_row : PySem.W.nsIn K mainGlobals "check_row" = some (some (.ref x_check_row)))
    (l_check_row : K.lookup x_check_row = some ⟨oc_check_row, od_check_row, .func (PySem.W.fnOf "check_row" "check_row" (defArgs s_check_row) (defBody s_check_row) (defScope s_check_row) .none kV_check_row dc_check_row pm_check_row an_check_row cd_check_row ct_check_row), sl_check_row⟩)
    (c_check_row : PySem.W.codeIn K cd_check_row "check_row" = true)
    (k_check_row : PySem.W.keepIn K (.ref x_check_row) = true)
    (a_inverse : PySem.W.nsIn K mainGlobals "inverse" = some (some (.ref x_inverse)))
    (l_inverse : K.lookup x_inverse = some ⟨oc_inverse, od_inverse, .func (PySem.W.fnOf "inverse" "inverse" (defArgs s_inverse) (defBody s_inverse) (defScope s_inverse) .none kV_inverse dc_inverse pm_inverse an_inverse cd_inverse ct_inverse), sl_inverse⟩)
    (c_inverse : PySem.W.codeIn K cd_inverse "inverse" = true)
    (k_inverse : PySem.W.keepIn K (.ref x_inverse) = true)
    (a_due_at : PySem.W.nsIn K mainGlobals "due_at" = some (some (.ref x_due_at)))
    (l_due_at : K.lookup x_due_at = some ⟨oc_due_at, od_due_at, .func (PySem.W.fnOf "due_at" "due_at" (defArgs s_due_at) (defBody s_due_at) (defScope s_due_at) .none kV_due_at dc_due_at pm_due_at an_due_at cd_due_at ct_due_at), sl_due_at⟩)
    (c_due_at : PySem.W.codeIn K cd_due_at "due_at" = true)
    (k_due_at : PySem.W.keepIn K (.ref x_due_at) = true)
    (a_makes_all : PySem.W.nsIn K mainGlobals "makes_all" = some (some (.ref x_makes_all)))
    (l_makes_all : K.lookup x_makes_all = some ⟨oc_makes_all, od_makes_all, .func (PySem.W.fnOf "makes_all" "makes_all" (defArgs s_makes_all) (defBody s_makes_all) (defScope s_makes_all) .none kV_makes_all dc_makes_all pm_makes_all an_makes_all cd_makes_all ct_makes_all), sl_makes_all⟩)
    (c_makes_all : PySem.W.codeIn K cd_makes_all "makes_all" = true)
    (k_makes_all : PySem.W.keepIn K (.ref x_makes_all) = true)
    (a_turned : PySem.W.nsIn K mainGlobals "turned" = some (some (.ref x_turned)))
    (l_turned : K.lookup x_turned = some ⟨oc_turned, od_turned, .func (PySem.W.fnOf "turned" "turned" (defArgs s_turned) (defBody s_turned) (defScope s_turned) .none kV_turned dc_turned pm_turned an_turned cd_turned ct_turned), sl_turned⟩)
    (c_turned : PySem.W.codeIn K cd_turned "turned" = true)
    (k_turned : PySem.W.keepIn K (.ref x_turned) = true)
    (a_told_back : PySem.W.nsIn K mainGlobals "told_back" = some (some (.ref x_told_back)))
    (l_told_back : K.lookup x_told_back = some ⟨oc_told_back, od_told_back, .func (PySem.W.fnOf "told_back" "told_back" (defArgs s_told_back) (defBody s_told_back) (defScope s_told_back) .none kV_told_back dc_told_back pm_told_back an_told_back cd_told_back ct_told_back), sl_told_back⟩)
    (c_told_back : PySem.W.codeIn K cd_told_back "told_back" = true)
    (k_told_back : PySem.W.keepIn K (.ref x_told_back) = true)
    (a_is_least : PySem.W.nsIn K mainGlobals "is_least" = some (some (.ref x_is_least)))
    (l_is_least : K.lookup x_is_least = some ⟨oc_is_least, od_is_least, .func (PySem.W.fnOf "is_least" "is_least" (defArgs s_is_least) (defBody s_is_least) (defScope s_is_least) .none kV_is_least dc_is_least pm_is_least an_is_least cd_is_least ct_is_least), sl_is_least⟩)
    (c_is_least : PySem.W.codeIn K cd_is_least "is_least" = true)
    (k_is_least : PySem.W.keepIn K (.ref x_is_least) = true)
    (a_taken_off : PySem.W.nsIn K mainGlobals "taken_off" = some (some (.ref x_taken_off)))
    (l_taken_off : K.lookup x_taken_off = some ⟨oc_taken_off, od_taken_off, .func (PySem.W.fnOf "taken_off" "taken_off" (defArgs s_taken_off) (defBody s_taken_off) (defScope s_taken_off) .none kV_taken_off dc_taken_off pm_taken_off an_taken_off cd_taken_off ct_taken_off), sl_taken_off⟩)
    (c_taken_off : PySem.W.codeIn K cd_taken_off "taken_off" = true)
    (k_taken_off : PySem.W.keepIn K (.ref x_taken_off) = true)
    (a_shortest : PySem.W.nsIn K mainGlobals "shortest" = some (some (.ref x_shortest)))
    (l_shortest : K.lookup x_shortest = some ⟨oc_shortest, od_shortest, .func (PySem.W.fnOf "shortest" "shortest" (defArgs s_shortest) (defBody s_shortest) (defScope s_shortest) .none kV_shortest dc_shortest pm_shortest an_shortest cd_shortest ct_shortest), sl_shortest⟩)
    (c_shortest : PySem.W.codeIn K cd_shortest "shortest" = true)
    (k_shortest : PySem.W.keepIn K (.ref x_shortest) = true)
    (a_Least___init__ : PySem.W.findIn K (.ref x_Least) "__init__" = some (some (.ref x_Least___init__)))
    (i_Least___init__ : PySem.W.isFn K (.ref x_Least___init__) = true)
    (l_Least___init__ : K.lookup x_Least___init__ = some ⟨oc_Least___init__, od_Least___init__, .func (PySem.W.fnOf "__init__" "Least.__init__" (defArgs s_Least___init__) (defBody s_Least___init__) (defScope s_Least___init__) .none kV_Least___init__ dc_Least___init__ pm_Least___init__ an_Least___init__ cd_Least___init__ ct_Least___init__), sl_Least___init__⟩)
    (c_Least___init__ : PySem.W.codeIn K cd_Least___init__ "Least.__init__" = true)
    (k_Least___init__ : PySem.W.keepIn K (.ref x_Least___init__) = true)
    (a_Least_shows : PySem.W.findIn K (.ref x_Least) "shows" = some (some (.ref x_Least_shows)))
    (i_Least_shows : PySem.W.isFn K (.ref x_Least_shows) = true)
    (l_Least_shows : K.lookup x_Least_shows = some ⟨oc_Least_shows, od_Least_shows, .func (PySem.W.fnOf "shows" "Least.shows" (defArgs s_Least_shows) (defBody s_Least_shows) (defScope s_Least_shows) .none kV_Least_shows dc_Least_shows pm_Least_shows an_Least_shows cd_Least_shows ct_Least_shows), sl_Least_shows⟩)
    (c_Least_shows : PySem.W.codeIn K cd_Least_shows "Least.shows" = true)
    (k_Least_shows : PySem.W.keepIn K (.ref x_Least_shows) = true)
    (a_Only___init__ : PySem.W.findIn K (.ref x_Only) "__init__" = some (some (.ref x_Only___init__)))
    (i_Only___init__ : PySem.W.isFn K (.ref x_Only___init__) = true)
    (l_Only___init__ : K.lookup x_Only___init__ = some ⟨oc_Only___init__, od_Only___init__, .func (PySem.W.fnOf "__init__" "Only.__init__" (defArgs s_Only___init__) (defBody s_Only___init__) (defScope s_Only___init__) .none kV_Only___init__ dc_Only___init__ pm_Only___init__ an_Only___init__ cd_Only___init__ ct_Only___init__), sl_Only___init__⟩)
    (c_Only___init__ : PySem.W.codeIn K cd_Only___init__ "Only.__init__" = true)
    (k_Only___init__ : PySem.W.keepIn K (.ref x_Only___init__) = true)
    (a_Only_shows : PySem.W.findIn K (.ref x_Only) "shows" = some (some (.ref x_Only_shows)))
    (i_Only_shows : PySem.W.isFn K (.ref x_Only_shows) = true)
    (l_Only_shows : K.lookup x_Only_shows = some ⟨oc_Only_shows, od_Only_shows, .func (PySem.W.fnOf "shows" "Only.shows" (defArgs s_Only_shows) (defBody s_Only_shows) (defScope s_Only_shows) .none kV_Only_shows dc_Only_shows pm_Only_shows an_Only_shows cd_Only_shows ct_Only_shows), sl_Only_shows⟩)
    (c_Only_shows : PySem.W.codeIn K cd_Only_shows "Only.shows" = true)
    (k_Only_shows : PySem.W.keepIn K (.ref x_Only_shows) = true)
    (a_Another___init__ : PySem.W.findIn K (.ref x_Another) "__init__" = some (some (.ref x_Another___init__)))
    (i_Another___init__ : PySem.W.isFn K (.ref x_Another___init__) = true)
    (l_Another___init__ : K.lookup x_Another___init__ = some ⟨oc_Another___init__, od_Another___init__, .func (PySem.W.fnOf "__init__" "Another.__init__" (defArgs s_Another___init__) (defBody s_Another___init__) (defScope s_Another___init__) .none kV_Another___init__ dc_Another___init__ pm_Another___init__ an_Another___init__ cd_Another___init__ ct_Another___init__), sl_Another___init__⟩)
    (c_Another___init__ : PySem.W.codeIn K cd_Another___init__ "Another.__init__" = true)
    (k_Another___init__ : PySem.W.keepIn K (.ref x_Another___init__) = true)
    (a_Another_shows : PySem.W.findIn K (.ref x_Another) "shows" = some (some (.ref x_Another_shows)))
    (i_Another_shows : PySem.W.isFn K (.ref x_Another_shows) = true)
    (l_Another_shows : K.lookup x_Another_shows = some ⟨oc_Another_shows, od_Another_shows, .func (PySem.W.fnOf "shows" "Another.shows" (defArgs s_Another_shows) (defBody s_Another_shows) (defScope s_Another_shows) .none kV_Another_shows dc_Another_shows pm_Another_shows an_Another_shows cd_Another_shows ct_Another_shows), sl_Another_shows⟩)
    (c_Another_shows : PySem.W.codeIn K cd_Another_shows "Another.shows" = true)
    (k_Another_shows : PySem.W.keepIn K (.ref x_Another_shows) = true)
    (a_unlike : PySem.W.nsIn K mainGlobals "unlike" = some (some (.ref x_unlike)))
    (l_unlike : K.lookup x_unlike = some ⟨oc_unlike, od_unlike, .func (PySem.W.fnOf "unlike" "unlike" (defArgs s_unlike) (defBody s_unlike) (defScope s_unlike) .none kV_unlike dc_unlike pm_unlike an_unlike cd_unlike ct_unlike), sl_unlike⟩)
    (c_unlike : PySem.W.codeIn K cd_unlike "unlike" = true)
    (k_unlike : PySem.W.keepIn K (.ref x_unlike) = true)
    (a_least : PySem.W.nsIn K mainGlobals "least" = some (some (.ref x_least)))
    (l_least : K.lookup x_least = some ⟨oc_least, od_least, .func (PySem.W.fnOf "least" "least" (defArgs s_least) (defBody s_least) (defScope s_least) .none kV_least dc_least pm_least an_least cd_least ct_least), sl_least⟩)
    (c_least : PySem.W.codeIn K cd_least "least" = true)
    (k_least : PySem.W.keepIn K (.ref x_least) = true)
    (a__law_cell_at : PySem.W.nsIn K mainGlobals "_law_cell_at" = some (some (.ref x__law_cell_at)))
    (l__law_cell_at : K.lookup x__law_cell_at = some ⟨oc__law_cell_at, od__law_cell_at, .func (PySem.W.fnOf "_law_cell_at" "_law_cell_at" (defArgs s__law_cell_at) (defBody s__law_cell_at) (defScope s__law_cell_at) .none kV__law_cell_at dc__law_cell_at pm__law_cell_at an__law_cell_at cd__law_cell_at ct__law_cell_at), sl__law_cell_at⟩)
    (c__law_cell_at : PySem.W.codeIn K cd__law_cell_at "_law_cell_at" = true)
    (k__law_cell_at : PySem.W.keepIn K (.ref x__law_cell_at) = true)
    (a__law_draw : PySem.W.nsIn K mainGlobals "_law_draw" = some (some (.ref x__law_draw)))
    (l__law_draw : K.lookup x__law_draw = some ⟨oc__law_draw, od__law_draw, .func (PySem.W.fnOf "_law_draw" "_law_draw" (defArgs s__law_draw) (defBody s__law_draw) (defScope s__law_draw) .none kV__law_draw dc__law_draw pm__law_draw an__law_draw cd__law_draw ct__law_draw), sl__law_draw⟩)
    (c__law_draw : PySem.W.codeIn K cd__law_draw "_law_draw" = true)
    (k__law_draw : PySem.W.keepIn K (.ref x__law_draw) = true)
    (a__law_prime : PySem.W.nsIn K mainGlobals "_law_prime" = some (some (.ref x__law_prime)))
    (l__law_prime : K.lookup x__law_prime = some ⟨oc__law_prime, od__law_prime, .func (PySem.W.fnOf "_law_prime" "_law_prime" (defArgs s__law_prime) (defBody s__law_prime) (defScope s__law_prime) .none kV__law_prime dc__law_prime pm__law_prime an__law_prime cd__law_prime ct__law_prime), sl__law_prime⟩)
    (c__law_prime : PySem.W.codeIn K cd__law_prime "_law_prime" = true)
    (k__law_prime : PySem.W.keepIn K (.ref x__law_prime) = true)
    (a__law_rests : PySem.W.nsIn K mainGlobals "_law_rests" = some (some (.ref x__law_rests)))
    (l__law_rests : K.lookup x__law_rests = some ⟨oc__law_rests, od__law_rests, .func (PySem.W.fnOf "_law_rests" "_law_rests" (defArgs s__law_rests) (defBody s__law_rests) (defScope s__law_rests) .none kV__law_rests dc__law_rests pm__law_rests an__law_rests cd__law_rests ct__law_rests), sl__law_rests⟩)
    (c__law_rests : PySem.W.codeIn K cd__law_rests "_law_rests" = true)
    (k__law_rests : PySem.W.keepIn K (.ref x__law_rests) = true)
    (a__law_due : PySem.W.nsIn K mainGlobals "_law_due" = some (some (.ref x__law_due)))
    (l__law_due : K.lookup x__law_due = some ⟨oc__law_due, od__law_due, .func (PySem.W.fnOf "_law_due" "_law_due" (defArgs s__law_due) (defBody s__law_due) (defScope s__law_due) .none kV__law_due dc__law_due pm__law_due an__law_due cd__law_due ct__law_due), sl__law_due⟩)
    (c__law_due : PySem.W.codeIn K cd__law_due "_law_due" = true)
    (k__law_due : PySem.W.keepIn K (.ref x__law_due) = true)
    (a__law_made : PySem.W.nsIn K mainGlobals "_law_made" = some (some (.ref x__law_made)))
    (l__law_made : K.lookup x__law_made = some ⟨oc__law_made, od__law_made, .func (PySem.W.fnOf "_law_made" "_law_made" (defArgs s__law_made) (defBody s__law_made) (defScope s__law_made) .none kV__law_made dc__law_made pm__law_made an__law_made cd__law_made ct__law_made), sl__law_made⟩)
    (c__law_made : PySem.W.codeIn K cd__law_made "_law_made" = true)
    (k__law_made : PySem.W.keepIn K (.ref x__law_made) = true)
    (a__law_rested : PySem.W.nsIn K mainGlobals "_law_rested" = some (some (.ref x__law_rested)))
    (l__law_rested : K.lookup x__law_rested = some ⟨oc__law_rested, od__law_rested, .func (PySem.W.fnOf "_law_rested" "_law_rested" (defArgs s__law_rested) (defBody s__law_rested) (defScope s__law_rested) .none kV__law_rested dc__law_rested pm__law_rested an__law_rested cd__law_rested ct__law_rested), sl__law_rested⟩)
    (c__law_rested : PySem.W.codeIn K cd__law_rested "_law_rested" = true)
    (k__law_rested : PySem.W.keepIn K (.ref x__law_rested) = true)
    (a__law_least : PySem.W.nsIn K mainGlobals "_law_least" = some (some (.ref x__law_least)))
    (l__law_least : K.lookup x__law_least = some ⟨oc__law_least, od__law_least, .func (PySem.W.fnOf "_law_least" "_law_least" (defArgs s__law_least) (defBody s__law_least) (defScope s__law_least) .none kV__law_least dc__law_least pm__law_least an__law_least cd__law_least ct__law_least), sl__law_least⟩)
    (c__law_least : PySem.W.codeIn K cd__law_least "_law_least" = true)
    (k__law_least : PySem.W.keepIn K (.ref x__law_least) = true)
    (a__law_row : PySem.W.nsIn K mainGlobals "_law_row" = some (some (.ref x__law_row)))
    (l__law_row : K.lookup x__law_row = some ⟨oc__law_row, od__law_row, .func (PySem.W.fnOf "_law_row" "_law_row" (defArgs s__law_row) (defBody s__law_row) (defScope s__law_row) .none kV__law_row dc__law_row pm__law_row an__law_row cd__law_row ct__law_row), sl__law_row⟩)
    (c__law_row : PySem.W.codeIn K cd__law_row "_law_row" = true)
    (k__law_row : PySem.W.keepIn K (.ref x__law_row) = true)
    (a__law_says : PySem.W.nsIn K mainGlobals "_law_says" = some (some (.ref x__law_says)))
    (l__law_says : K.lookup x__law_says = some ⟨oc__law_says, od__law_says, .func (PySem.W.fnOf "_law_says" "_law_says" (defArgs s__law_says) (defBody s__law_says) (defScope s__law_says) .none kV__law_says dc__law_says pm__law_says an__law_says cd__law_says ct__law_says), sl__law_says⟩)
    (c__law_says : PySem.W.codeIn K cd__law_says "_law_says" = true)
    (k__law_says : PySem.W.keepIn K (.ref x__law_says) = true)
    (a__law_bent : PySem.W.nsIn K mainGlobals "_law_bent" = some (some (.ref x__law_bent)))
    (l__law_bent : K.lookup x__law_bent = some ⟨oc__law_bent, od__law_bent, .func (PySem.W.fnOf "_law_bent" "_law_bent" (defArgs s__law_bent) (defBody s__law_bent) (defScope s__law_bent) .none kV__law_bent dc__law_bent pm__law_bent an__law_bent cd__law_bent ct__law_bent), sl__law_bent⟩)
    (c__law_bent : PySem.W.codeIn K cd__law_bent "_law_bent" = true)
    (k__law_bent : PySem.W.keepIn K (.ref x__law_bent) = true)
    (a__law_right : PySem.W.nsIn K mainGlobals "_law_right" = some (some (.ref x__law_right)))
    (l__law_right : K.lookup x__law_right = some ⟨oc__law_right, od__law_right, .func (PySem.W.fnOf "_law_right" "_law_right" (defArgs s__law_right) (defBody s__law_right) (defScope s__law_right) .none kV__law_right dc__law_right pm__law_right an__law_right cd__law_right ct__law_right), sl__law_right⟩)
    (c__law_right : PySem.W.codeIn K cd__law_right "_law_right" = true)
    (k__law_right : PySem.W.keepIn K (.ref x__law_right) = true)
    (a__law_another_right : PySem.W.nsIn K mainGlobals "_law_another_right" = some (some (.ref x__law_another_right)))
    (l__law_another_right : K.lookup x__law_another_right = some ⟨oc__law_another_right, od__law_another_right, .func (PySem.W.fnOf "_law_another_right" "_law_another_right" (defArgs s__law_another_right) (defBody s__law_another_right) (defScope s__law_another_right) .none kV__law_another_right dc__law_another_right pm__law_another_right an__law_another_right cd__law_another_right ct__law_another_right), sl__law_another_right⟩)
    (c__law_another_right : PySem.W.codeIn K cd__law_another_right "_law_another_right" = true)
    (k__law_another_right : PySem.W.keepIn K (.ref x__law_another_right) = true)
    (a_law : PySem.W.nsIn K mainGlobals "law" = some (some (.ref x_law)))
    (l_law : K.lookup x_law = some ⟨oc_law, od_law, .func (PySem.W.fnOf "law" "law" (defArgs s_law) (defBody s_law) (defScope s_law) .none kV_law dc_law pm_law an_law cd_law ct_law), sl_law⟩)
    (c_law : PySem.W.codeIn K cd_law "law" = true)
    (k_law : PySem.W.keepIn K (.ref x_law) = true)
    (z_len : PySem.W.nsIn K mainGlobals "len" = some none)
    (z_sum : PySem.W.nsIn K mainGlobals "sum" = some none)
    (z_all : PySem.W.nsIn K mainGlobals "all" = some none)
    (z_any : PySem.W.nsIn K mainGlobals "any" = some none)
    (z_list : PySem.W.nsIn K mainGlobals "list" = some none)
    (z_max : PySem.W.nsIn K mainGlobals "max" = some none)
    (z_isinstance : PySem.W.nsIn K mainGlobals "isinstance" = some none)
    (z_range : PySem.W.nsIn K mainGlobals "range" = some none)
    (z_enumerate : PySem.W.nsIn K mainGlobals "enumerate" = some none)
    (z_int : PySem.W.nsIn K mainGlobals "int" = some none)
    (z_bool : PySem.W.nsIn K mainGlobals "bool" = some none)
    (z_abs : PySem.W.nsIn K mainGlobals "abs" = some none)
    (z_reversed : PySem.W.nsIn K mainGlobals "reversed" = some none)
    (z_str : PySem.W.nsIn K mainGlobals "str" = some none)
    (z_tuple : PySem.W.nsIn K mainGlobals "tuple" = some none)
    (z_GREATEST : PySem.W.nsIn K mainGlobals "GREATEST" = some (some (.int 997 u_GREATEST))) : Txt K mg where
  a_is_whole := x_is_whole
  f_is_whole := _
  F_is_whole := fun_mk (st := s_is_whole) l_is_whole c_is_whole k_is_whole
  b_is_whole := (fun_mk (st := s_is_whole) l_is_whole c_is_whole k_is_whole).binds (ps := ["thing"]) fun _ _ _ _ _ _ us hl => match us, hl with | [_], _ => rfl
  g_is_whole := PySem.W.mg_of X G a_is_whole
  a_check_prime := x_check_prime
  f_check_prime := _
  F_check_prime := fun_mk (st := s_check_prime) l_check_prime c_check_prime k_check_prime
  b_check_prime := (fun_mk (st := s_check_prime) l_check_prime c_check_prime k_check_prime).binds (ps := ["prime"]) fun _ _ _ _ _ _ us hl => match us, hl with | [_], _ => rfl
  g_check_prime := PySem.W.mg_of X G a_check_prime
  a_are_rests := x_are_rests
  f_are_rests := _
  F_are_rests := fun_mk (st := s_are_rests) l_are_rests c_are_rests k_are_rests
  b_are_rests := (fun_mk (st := s_are_rests) l_are_rests c_are_rests k_are_rests).binds (ps := ["prime", "thing"]) fun _ _ _ _ _ _ us hl => match us, hl with | [_, _], _ => rfl
  g_are_rests := PySem.W.mg_of X G a_are_rests
  a_check_row := x_check_row
  f_check_row := _
  F_check_row := fun_mk (st := s_check_row) l_check_row c_check_row k_check_row
  b_check_row := (fun_mk (st := s_check_row) l_check_row c_check_row k_check_row).binds (ps := ["prime", "row"]) fun _ _ _ _ _ _ us hl => match us, hl with | [_, _], _ => rfl
  g_check_row := PySem.W.mg_of X G a_check_row
  a_inverse := x_inverse
  f_inverse := _
  F_inverse := fun_mk (st := s_inverse) l_inverse c_inverse k_inverse
  b_inverse := (fun_mk (st := s_inverse) l_inverse c_inverse k_inverse).binds (ps := ["prime", "rest"]) fun _ _ _ _ _ _ us hl => match us, hl with | [_, _], _ => rfl
  g_inverse := PySem.W.mg_of X G a_inverse
  a_due_at := x_due_at
  f_due_at := _
  F_due_at := fun_mk (st := s_due_at) l_due_at c_due_at k_due_at
  b_due_at := (fun_mk (st := s_due_at) l_due_at c_due_at k_due_at).binds (ps := ["prime", "rule", "row", "place"]) fun _ _ _ _ _ _ us hl => match us, hl with | [_, _, _, _], _ => rfl
  g_due_at := PySem.W.mg_of X G a_due_at
  a_makes_all := x_makes_all
  f_makes_all := _
  F_makes_all := fun_mk (st := s_makes_all) l_makes_all c_makes_all k_makes_all
  b_makes_all := (fun_mk (st := s_makes_all) l_makes_all c_makes_all k_makes_all).binds (ps := ["prime", "rule", "row"]) fun _ _ _ _ _ _ us hl => match us, hl with | [_, _, _], _ => rfl
  g_makes_all := PySem.W.mg_of X G a_makes_all
  a_turned := x_turned
  f_turned := _
  F_turned := fun_mk (st := s_turned) l_turned c_turned k_turned
  b_turned := (fun_mk (st := s_turned) l_turned c_turned k_turned).binds (ps := ["prime", "rule"]) fun _ _ _ _ _ _ us hl => match us, hl with | [_, _], _ => rfl
  g_turned := PySem.W.mg_of X G a_turned
  a_told_back := x_told_back
  f_told_back := _
  F_told_back := fun_mk (st := s_told_back) l_told_back c_told_back k_told_back
  b_told_back := (fun_mk (st := s_told_back) l_told_back c_told_back k_told_back).binds (ps := ["prime", "rests"]) fun _ _ _ _ _ _ us hl => match us, hl with | [_, _], _ => rfl
  g_told_back := PySem.W.mg_of X G a_told_back
  a_is_least := x_is_least
  f_is_least := _
  F_is_least := fun_mk (st := s_is_least) l_is_least c_is_least k_is_least
  b_is_least := (fun_mk (st := s_is_least) l_is_least c_is_least k_is_least).binds (ps := ["prime", "row", "rule", "shorter", "place"]) fun _ _ _ _ _ _ us hl => match us, hl with | [_, _, _, _, _], _ => rfl
  g_is_least := PySem.W.mg_of X G a_is_least
  a_taken_off := x_taken_off
  f_taken_off := _
  F_taken_off := fun_mk (st := s_taken_off) l_taken_off c_taken_off k_taken_off
  b_taken_off := (fun_mk (st := s_taken_off) l_taken_off c_taken_off k_taken_off).binds (ps := ["prime", "one", "other", "by", "ahead", "length"]) fun _ _ _ _ _ _ us hl => match us, hl with | [_, _, _, _, _, _], _ => rfl
  g_taken_off := PySem.W.mg_of X G a_taken_off
  a_shortest := x_shortest
  f_shortest := _
  F_shortest := fun_mk (st := s_shortest) l_shortest c_shortest k_shortest
  b_shortest := (fun_mk (st := s_shortest) l_shortest c_shortest k_shortest).binds (ps := ["prime", "row"]) fun _ _ _ _ _ _ us hl => match us, hl with | [_, _], _ => rfl
  g_shortest := PySem.W.mg_of X G a_shortest
  a_Least___init__ := x_Least___init__
  f_Least___init__ := _
  F_Least___init__ := fun_mk (st := s_Least___init__) l_Least___init__ c_Least___init__ k_Least___init__
  b_Least___init__ := (fun_mk (st := s_Least___init__) l_Least___init__ c_Least___init__ k_Least___init__).binds (ps := ["self", "rule", "shorter", "place"]) fun _ _ _ _ _ _ us hl => match us, hl with | [_, _, _, _], _ => rfl
  a_Least_shows := x_Least_shows
  f_Least_shows := _
  F_Least_shows := fun_mk (st := s_Least_shows) l_Least_shows c_Least_shows k_Least_shows
  b_Least_shows := (fun_mk (st := s_Least_shows) l_Least_shows c_Least_shows k_Least_shows).binds (ps := ["self", "prime", "row"]) fun _ _ _ _ _ _ us hl => match us, hl with | [_, _, _], _ => rfl
  a_Only___init__ := x_Only___init__
  f_Only___init__ := _
  F_Only___init__ := fun_mk (st := s_Only___init__) l_Only___init__ c_Only___init__ k_Only___init__
  b_Only___init__ := (fun_mk (st := s_Only___init__) l_Only___init__ c_Only___init__ k_Only___init__).binds (ps := ["self", "rule", "shorter", "place"]) fun _ _ _ _ _ _ us hl => match us, hl with | [_, _, _, _], _ => rfl
  a_Only_shows := x_Only_shows
  f_Only_shows := _
  F_Only_shows := fun_mk (st := s_Only_shows) l_Only_shows c_Only_shows k_Only_shows
  b_Only_shows := (fun_mk (st := s_Only_shows) l_Only_shows c_Only_shows k_Only_shows).binds (ps := ["self", "prime", "row"]) fun _ _ _ _ _ _ us hl => match us, hl with | [_, _, _], _ => rfl
  a_Another___init__ := x_Another___init__
  f_Another___init__ := _
  F_Another___init__ := fun_mk (st := s_Another___init__) l_Another___init__ c_Another___init__ k_Another___init__
  b_Another___init__ := (fun_mk (st := s_Another___init__) l_Another___init__ c_Another___init__ k_Another___init__).binds (ps := ["self", "one", "other", "shorter", "place"]) fun _ _ _ _ _ _ us hl => match us, hl with | [_, _, _, _, _], _ => rfl
  a_Another_shows := x_Another_shows
  f_Another_shows := _
  F_Another_shows := fun_mk (st := s_Another_shows) l_Another_shows c_Another_shows k_Another_shows
  b_Another_shows := (fun_mk (st := s_Another_shows) l_Another_shows c_Another_shows k_Another_shows).binds (ps := ["self", "prime", "row"]) fun _ _ _ _ _ _ us hl => match us, hl with | [_, _, _], _ => rfl
  a_unlike := x_unlike
  f_unlike := _
  F_unlike := fun_mk (st := s_unlike) l_unlike c_unlike k_unlike
  b_unlike := (fun_mk (st := s_unlike) l_unlike c_unlike k_unlike).binds (ps := ["prime", "row"]) fun _ _ _ _ _ _ us hl => match us, hl with | [_, _], _ => rfl
  g_unlike := PySem.W.mg_of X G a_unlike
  a_least := x_least
  f_least := _
  F_least := fun_mk (st := s_least) l_least c_least k_least
  b_least := (fun_mk (st := s_least) l_least c_least k_least).binds (ps := ["prime", "row"]) fun _ _ _ _ _ _ us hl => match us, hl with | [_, _], _ => rfl
  g_least := PySem.W.mg_of X G a_least
  a__law_cell_at := x__law_cell_at
  f__law_cell_at := _
  F__law_cell_at := fun_mk (st := s__law_cell_at) l__law_cell_at c__law_cell_at k__law_cell_at
  b__law_cell_at := (fun_mk (st := s__law_cell_at) l__law_cell_at c__law_cell_at k__law_cell_at).binds (ps := ["_law_script", "_law_k"]) fun _ _ _ _ _ _ us hl => match us, hl with | [_, _], _ => rfl
  g__law_cell_at := PySem.W.mg_of X G a__law_cell_at
  a__law_draw := x__law_draw
  f__law_draw := _
  F__law_draw := fun_mk (st := s__law_draw) l__law_draw c__law_draw k__law_draw
  b__law_draw := (fun_mk (st := s__law_draw) l__law_draw c__law_draw k__law_draw).binds (ps := ["_law_cell", "_law_k", "_law_many"]) fun _ _ _ _ _ _ us hl => match us, hl with | [_, _, _], _ => rfl
  g__law_draw := PySem.W.mg_of X G a__law_draw
  a__law_prime := x__law_prime
  f__law_prime := _
  F__law_prime := fun_mk (st := s__law_prime) l__law_prime c__law_prime k__law_prime
  b__law_prime := (fun_mk (st := s__law_prime) l__law_prime c__law_prime k__law_prime).binds (ps := ["_law_script"]) fun _ _ _ _ _ _ us hl => match us, hl with | [_], _ => rfl
  g__law_prime := PySem.W.mg_of X G a__law_prime
  a__law_rests := x__law_rests
  f__law_rests := _
  F__law_rests := fun_mk (st := s__law_rests) l__law_rests c__law_rests k__law_rests
  b__law_rests := (fun_mk (st := s__law_rests) l__law_rests c__law_rests k__law_rests).binds (ps := ["_law_script", "_law_by", "_law_prime_here", "_law_many"]) fun _ _ _ _ _ _ us hl => match us, hl with | [_, _, _, _], _ => rfl
  g__law_rests := PySem.W.mg_of X G a__law_rests
  a__law_due := x__law_due
  f__law_due := _
  F__law_due := fun_mk (st := s__law_due) l__law_due c__law_due k__law_due
  b__law_due := (fun_mk (st := s__law_due) l__law_due c__law_due k__law_due).binds (ps := ["_law_prime_here", "_law_rule", "_law_row_here", "_law_place"]) fun _ _ _ _ _ _ us hl => match us, hl with | [_, _, _, _], _ => rfl
  g__law_due := PySem.W.mg_of X G a__law_due
  a__law_made := x__law_made
  f__law_made := _
  F__law_made := fun_mk (st := s__law_made) l__law_made c__law_made k__law_made
  b__law_made := (fun_mk (st := s__law_made) l__law_made c__law_made k__law_made).binds (ps := ["_law_prime_here", "_law_rule", "_law_row_here"]) fun _ _ _ _ _ _ us hl => match us, hl with | [_, _, _], _ => rfl
  g__law_made := PySem.W.mg_of X G a__law_made
  a__law_rested := x__law_rested
  f__law_rested := _
  F__law_rested := fun_mk (st := s__law_rested) l__law_rested c__law_rested k__law_rested
  b__law_rested := (fun_mk (st := s__law_rested) l__law_rested c__law_rested k__law_rested).binds (ps := ["_law_prime_here", "_law_found"]) fun _ _ _ _ _ _ us hl => match us, hl with | [_, _], _ => rfl
  g__law_rested := PySem.W.mg_of X G a__law_rested
  a__law_least := x__law_least
  f__law_least := _
  F__law_least := fun_mk (st := s__law_least) l__law_least c__law_least k__law_least
  b__law_least := (fun_mk (st := s__law_least) l__law_least c__law_least k__law_least).binds (ps := ["_law_prime_here", "_law_row_here", "_law_rule", "_law_shorter", "_law_place"]) fun _ _ _ _ _ _ us hl => match us, hl with | [_, _, _, _, _], _ => rfl
  g__law_least := PySem.W.mg_of X G a__law_least
  a__law_row := x__law_row
  f__law_row := _
  F__law_row := fun_mk (st := s__law_row) l__law_row c__law_row k__law_row
  b__law_row := (fun_mk (st := s__law_row) l__law_row c__law_row k__law_row).binds (ps := ["_law_script", "_law_prime_here"]) fun _ _ _ _ _ _ us hl => match us, hl with | [_, _], _ => rfl
  g__law_row := PySem.W.mg_of X G a__law_row
  a__law_says := x__law_says
  f__law_says := _
  F__law_says := fun_mk (st := s__law_says) l__law_says c__law_says k__law_says
  b__law_says := (fun_mk (st := s__law_says) l__law_says c__law_says k__law_says).binds (ps := ["_law_said", "_law_due_here"]) fun _ _ _ _ _ _ us hl => match us, hl with | [_, _], _ => rfl
  g__law_says := PySem.W.mg_of X G a__law_says
  a__law_bent := x__law_bent
  f__law_bent := _
  F__law_bent := fun_mk (st := s__law_bent) l__law_bent c__law_bent k__law_bent
  b__law_bent := (fun_mk (st := s__law_bent) l__law_bent c__law_bent k__law_bent).binds (ps := ["_law_some", "_law_cell", "_law_prime_here"]) fun _ _ _ _ _ _ us hl => match us, hl with | [_, _, _], _ => rfl
  g__law_bent := PySem.W.mg_of X G a__law_bent
  a__law_right := x__law_right
  f__law_right := _
  F__law_right := fun_mk (st := s__law_right) l__law_right c__law_right k__law_right
  b__law_right := (fun_mk (st := s__law_right) l__law_right c__law_right k__law_right).binds (ps := ["_law_prime_here", "_law_row_here", "_law_rule", "_law_shorter", "_law_place"]) fun _ _ _ _ _ _ us hl => match us, hl with | [_, _, _, _, _], _ => rfl
  g__law_right := PySem.W.mg_of X G a__law_right
  a__law_another_right := x__law_another_right
  f__law_another_right := _
  F__law_another_right := fun_mk (st := s__law_another_right) l__law_another_right c__law_another_right k__law_another_right
  b__law_another_right := (fun_mk (st := s__law_another_right) l__law_another_right c__law_another_right k__law_another_right).binds (ps := ["_law_prime_here", "_law_row_here", "_law_one", "_law_other", "_law_shorter", "_law_place"]) fun _ _ _ _ _ _ us hl => match us, hl with | [_, _, _, _, _, _], _ => rfl
  g__law_another_right := PySem.W.mg_of X G a__law_another_right
  a_law := x_law
  f_law := _
  F_law := fun_mk (st := s_law) l_law c_law k_law
  b_law := (fun_mk (st := s_law) l_law c_law k_law).binds (ps := ["_law_script"]) fun _ _ _ _ _ _ us hl => match us, hl with | [_], _ => rfl
  g_law := PySem.W.mg_of X G a_law
  a_Answer := x_Answer
  g_Answer := PySem.W.mg_of X G ac_Answer
  a_Least := x_Least
  g_Least := PySem.W.mg_of X G ac_Least
  cl_Least := ⟨pg_Least, hd_Least, po_Least, sa_Least⟩
  M_Least := ⟨mk_Least, a_Least___init__, i_Least___init__, kc_Least⟩
  i1_Least := j1_Least
  i4_Least := j4_Least
  m_Least_shows := ⟨a_Least_shows, i_Least_shows, k_Least_shows⟩
  na_Least_rule := na_Least_rule
  na_Least_shorter := na_Least_shorter
  na_Least_place := na_Least_place
  isa_Least_Answer := kit_own is_Answer ty_Answer sub_Least_Answer (.inl rfl)
  isa_Least_Least := kit_self
  isa_Least_Only := kit_own is_Only ty_Only sub_Least_Only (.inr ne_Least_Only)
  isa_Least_Another := kit_own is_Another ty_Another sub_Least_Another (.inr ne_Least_Another)
  a_Only := x_Only
  g_Only := PySem.W.mg_of X G ac_Only
  cl_Only := ⟨pg_Only, hd_Only, po_Only, sa_Only⟩
  M_Only := ⟨mk_Only, a_Only___init__, i_Only___init__, kc_Only⟩
  i1_Only := j1_Only
  i4_Only := j4_Only
  m_Only_shows := ⟨a_Only_shows, i_Only_shows, k_Only_shows⟩
  na_Only_rule := na_Only_rule
  na_Only_shorter := na_Only_shorter
  na_Only_place := na_Only_place
  isa_Only_Answer := kit_own is_Answer ty_Answer sub_Only_Answer (.inl rfl)
  isa_Only_Least := kit_own is_Least ty_Least sub_Only_Least (.inr ne_Only_Least)
  isa_Only_Only := kit_self
  isa_Only_Another := kit_own is_Another ty_Another sub_Only_Another (.inr ne_Only_Another)
  a_Another := x_Another
  g_Another := PySem.W.mg_of X G ac_Another
  cl_Another := ⟨pg_Another, hd_Another, po_Another, sa_Another⟩
  M_Another := ⟨mk_Another, a_Another___init__, i_Another___init__, kc_Another⟩
  i1_Another := j1_Another
  i4_Another := j4_Another
  m_Another_shows := ⟨a_Another_shows, i_Another_shows, k_Another_shows⟩
  na_Another_one := na_Another_one
  na_Another_other := na_Another_other
  na_Another_shorter := na_Another_shorter
  na_Another_place := na_Another_place
  isa_Another_Answer := kit_own is_Answer ty_Answer sub_Another_Answer (.inl rfl)
  isa_Another_Least := kit_own is_Least ty_Least sub_Another_Least (.inr ne_Another_Least)
  isa_Another_Only := kit_own is_Only ty_Only sub_Another_Only (.inr ne_Another_Only)
  isa_Another_Another := kit_self
  i2 := j2
  i3 := j3
  n_len := PySem.W.mg_none_of X G z_len
  n_sum := PySem.W.mg_none_of X G z_sum
  n_all := PySem.W.mg_none_of X G z_all
  n_any := PySem.W.mg_none_of X G z_any
  n_list := PySem.W.mg_none_of X G z_list
  n_max := PySem.W.mg_none_of X G z_max
  n_isinstance := PySem.W.mg_none_of X G z_isinstance
  n_range := PySem.W.mg_none_of X G z_range
  n_enumerate := PySem.W.mg_none_of X G z_enumerate
  n_int := PySem.W.mg_none_of X G z_int
  n_bool := PySem.W.mg_none_of X G z_bool
  n_abs := PySem.W.mg_none_of X G z_abs
  n_reversed := PySem.W.mg_none_of X G z_reversed
  n_str := PySem.W.mg_none_of X G z_str
  n_tuple := PySem.W.mg_none_of X G z_tuple
  t_GREATEST := u_GREATEST
  c_GREATEST := PySem.W.mg_of X G z_GREATEST
theorem all_mk {l : PySem.W.OpenLaw} {w : World} {K : PySem.W.Frag} {h : Heap} {mg : Str → Option Value} {fa : Addr} (X : K.In h) (G : h.Ns mainGlobals mg) (hfa : mg "law" = some (.ref fa))
    {x_is_whole : Addr} {od_is_whole an_is_whole : Option Addr} {sl_is_whole : Array (Option Value)} {oc_is_whole kV_is_whole dc_is_whole pm_is_whole cd_is_whole ct_is_whole : Value}
    {x_check_prime : Addr} {od_check_prime an_check_prime : Option Addr} {sl_check_prime : Array (Option Value)} {oc_check_prime kV_check_prime dc_check_prime pm_check_prime cd_check_prime ct_check_prime : Value}
    {x_are_rests : Addr} {od_are_rests an_are_rests : Option Addr} {sl_are_rests : Array (Option Value)} {oc_are_rests kV_are_rests dc_are_rests pm_are_rests cd_are_rests ct_are_rests : Value}
    {x_check_row : Addr} {od_check_row an_check_row : Option Addr} {sl_check_row : Array (Option Value)} {oc_check_row kV_check_row dc_check_row pm_check_row cd_check_row ct_check_row : Value}
    {x_inverse : Addr} {od_inverse an_inverse : Option Addr} {sl_inverse : Array (Option Value)} {oc_inverse kV_inverse dc_inverse pm_inverse cd_inverse ct_inverse : Value}
    {x_due_at : Addr} {od_due_at an_due_at : Option Addr} {sl_due_at : Array (Option Value)} {oc_due_at kV_due_at dc_due_at pm_due_at cd_due_at ct_due_at : Value}
    {x_makes_all : Addr} {od_makes_all an_makes_all : Option Addr} {sl_makes_all : Array (Option Value)} {oc_makes_all kV_makes_all dc_makes_all pm_makes_all cd_makes_all ct_makes_all : Value}
    {x_turned : Addr} {od_turned an_turned : Option Addr} {sl_turned : Array (Option Value)} {oc_turned kV_turned dc_turned pm_turned cd_turned ct_turned : Value}
    {x_told_back : Addr} {od_told_back an_told_back : Option Addr} {sl_told_back : Array (Option Value)} {oc_told_back kV_told_back dc_told_back pm_told_back cd_told_back ct_told_back : Value}
    {x_is_least : Addr} {od_is_least an_is_least : Option Addr} {sl_is_least : Array (Option Value)} {oc_is_least kV_is_least dc_is_least pm_is_least cd_is_least ct_is_least : Value}
    {x_taken_off : Addr} {od_taken_off an_taken_off : Option Addr} {sl_taken_off : Array (Option Value)} {oc_taken_off kV_taken_off dc_taken_off pm_taken_off cd_taken_off ct_taken_off : Value}
    {x_shortest : Addr} {od_shortest an_shortest : Option Addr} {sl_shortest : Array (Option Value)} {oc_shortest kV_shortest dc_shortest pm_shortest cd_shortest ct_shortest : Value}
    {x_Least___init__ : Addr} {od_Least___init__ an_Least___init__ : Option Addr} {sl_Least___init__ : Array (Option Value)} {oc_Least___init__ kV_Least___init__ dc_Least___init__ pm_Least___init__ cd_Least___init__ ct_Least___init__ : Value}
    {x_Least_shows : Addr} {od_Least_shows an_Least_shows : Option Addr} {sl_Least_shows : Array (Option Value)} {oc_Least_shows kV_Least_shows dc_Least_shows pm_Least_shows cd_Least_shows ct_Least_shows : Value}
    {x_Only___init__ : Addr} {od_Only___init__ an_Only___init__ : Option Addr} {sl_Only___init__ : Array (Option Value)} {oc_Only___init__ kV_Only___init__ dc_Only___init__ pm_Only___init__ cd_Only___init__ ct_Only___init__ : Value}
    {x_Only_shows : Addr} {od_Only_shows an_Only_shows : Option Addr} {sl_Only_shows : Array (Option Value)} {oc_Only_shows kV_Only_shows dc_Only_shows pm_Only_shows cd_Only_shows ct_Only_shows : Value}
    {x_Another___init__ : Addr} {od_Another___init__ an_Another___init__ : Option Addr} {sl_Another___init__ : Array (Option Value)} {oc_Another___init__ kV_Another___init__ dc_Another___init__ pm_Another___init__ cd_Another___init__ ct_Another___init__ : Value}
    {x_Another_shows : Addr} {od_Another_shows an_Another_shows : Option Addr} {sl_Another_shows : Array (Option Value)} {oc_Another_shows kV_Another_shows dc_Another_shows pm_Another_shows cd_Another_shows ct_Another_shows : Value}
    {x_unlike : Addr} {od_unlike an_unlike : Option Addr} {sl_unlike : Array (Option Value)} {oc_unlike kV_unlike dc_unlike pm_unlike cd_unlike ct_unlike : Value}
    {x_least : Addr} {od_least an_least : Option Addr} {sl_least : Array (Option Value)} {oc_least kV_least dc_least pm_least cd_least ct_least : Value}
    {x__law_cell_at : Addr} {od__law_cell_at an__law_cell_at : Option Addr} {sl__law_cell_at : Array (Option Value)} {oc__law_cell_at kV__law_cell_at dc__law_cell_at pm__law_cell_at cd__law_cell_at ct__law_cell_at : Value}
    {x__law_draw : Addr} {od__law_draw an__law_draw : Option Addr} {sl__law_draw : Array (Option Value)} {oc__law_draw kV__law_draw dc__law_draw pm__law_draw cd__law_draw ct__law_draw : Value}
    {x__law_prime : Addr} {od__law_prime an__law_prime : Option Addr} {sl__law_prime : Array (Option Value)} {oc__law_prime kV__law_prime dc__law_prime pm__law_prime cd__law_prime ct__law_prime : Value}
    {x__law_rests : Addr} {od__law_rests an__law_rests : Option Addr} {sl__law_rests : Array (Option Value)} {oc__law_rests kV__law_rests dc__law_rests pm__law_rests cd__law_rests ct__law_rests : Value}
    {x__law_due : Addr} {od__law_due an__law_due : Option Addr} {sl__law_due : Array (Option Value)} {oc__law_due kV__law_due dc__law_due pm__law_due cd__law_due ct__law_due : Value}
    {x__law_made : Addr} {od__law_made an__law_made : Option Addr} {sl__law_made : Array (Option Value)} {oc__law_made kV__law_made dc__law_made pm__law_made cd__law_made ct__law_made : Value}
    {x__law_rested : Addr} {od__law_rested an__law_rested : Option Addr} {sl__law_rested : Array (Option Value)} {oc__law_rested kV__law_rested dc__law_rested pm__law_rested cd__law_rested ct__law_rested : Value}
    {x__law_least : Addr} {od__law_least an__law_least : Option Addr} {sl__law_least : Array (Option Value)} {oc__law_least kV__law_least dc__law_least pm__law_least cd__law_least ct__law_least : Value}
    {x__law_row : Addr} {od__law_row an__law_row : Option Addr} {sl__law_row : Array (Option Value)} {oc__law_row kV__law_row dc__law_row pm__law_row cd__law_row ct__law_row : Value}
    {x__law_says : Addr} {od__law_says an__law_says : Option Addr} {sl__law_says : Array (Option Value)} {oc__law_says kV__law_says dc__law_says pm__law_says cd__law_says ct__law_says : Value}
    {x__law_bent : Addr} {od__law_bent an__law_bent : Option Addr} {sl__law_bent : Array (Option Value)} {oc__law_bent kV__law_bent dc__law_bent pm__law_bent cd__law_bent ct__law_bent : Value}
    {x__law_right : Addr} {od__law_right an__law_right : Option Addr} {sl__law_right : Array (Option Value)} {oc__law_right kV__law_right dc__law_right pm__law_right cd__law_right ct__law_right : Value}
    {x__law_another_right : Addr} {od__law_another_right an__law_another_right : Option Addr} {sl__law_another_right : Array (Option Value)} {oc__law_another_right kV__law_another_right dc__law_another_right pm__law_another_right cd__law_another_right ct__law_another_right : Value}
    {x_law : Addr} {od_law an_law : Option Addr} {sl_law : Array (Option Value)} {oc_law kV_law dc_law pm_law cd_law ct_law : Value}
    {x_Answer : Addr}
    {x_Least : Addr}
    {x_Only : Addr}
    {x_Another : Addr}
    {u_GREATEST : Tok}
    (ac_Answer : PySem.W.nsIn K mainGlobals "Answer" = some (some (.ref x_Answer)))
    (ac_Least : PySem.W.nsIn K mainGlobals "Least" = some (some (.ref x_Least)))
    (pg_Least : PySem.W.plainGet K x_Least Str.empty = true)
    (hd_Least : PySem.W.hasDictIn K x_Least = true)
    (po_Least : PySem.W.plainOver K x_Least = true)
    (sa_Least : PySem.W.findIn K (.ref x_Least) "__setattr__" = some (some (.builtin "object.__setattr__")))
    (mk_Least : PySem.W.makesIn K x_Least = true)
    (kc_Least : PySem.W.keepIn K (.ref x_Least) = true)
    (j1_Least : PySem.W.findIn K (.ref x_Least) "__class__" = some (some (.builtin "object.__class__")))
    (j4_Least : PySem.W.mroIn K x_Least (.type "object") = some true)
    (na_Least_rule : PySem.W.findIn K (.ref x_Least) "rule" = some none)
    (na_Least_shorter : PySem.W.findIn K (.ref x_Least) "shorter" = some none)
    (na_Least_place : PySem.W.findIn K (.ref x_Least) "place" = some none)
    (ac_Only : PySem.W.nsIn K mainGlobals "Only" = some (some (.ref x_Only)))
    (pg_Only : PySem.W.plainGet K x_Only Str.empty = true)
    (hd_Only : PySem.W.hasDictIn K x_Only = true)
    (po_Only : PySem.W.plainOver K x_Only = true)
    (sa_Only : PySem.W.findIn K (.ref x_Only) "__setattr__" = some (some (.builtin "object.__setattr__")))
    (mk_Only : PySem.W.makesIn K x_Only = true)
    (kc_Only : PySem.W.keepIn K (.ref x_Only) = true)
    (j1_Only : PySem.W.findIn K (.ref x_Only) "__class__" = some (some (.builtin "object.__class__")))
    (j4_Only : PySem.W.mroIn K x_Only (.type "object") = some true)
    (na_Only_rule : PySem.W.findIn K (.ref x_Only) "rule" = some none)
    (na_Only_shorter : PySem.W.findIn K (.ref x_Only) "shorter" = some none)
    (na_Only_place : PySem.W.findIn K (.ref x_Only) "place" = some none)
    (ac_Another : PySem.W.nsIn K mainGlobals "Another" = some (some (.ref x_Another)))
    (pg_Another : PySem.W.plainGet K x_Another Str.empty = true)
    (hd_Another : PySem.W.hasDictIn K x_Another = true)
    (po_Another : PySem.W.plainOver K x_Another = true)
    (sa_Another : PySem.W.findIn K (.ref x_Another) "__setattr__" = some (some (.builtin "object.__setattr__")))
    (mk_Another : PySem.W.makesIn K x_Another = true)
    (kc_Another : PySem.W.keepIn K (.ref x_Another) = true)
    (j1_Another : PySem.W.findIn K (.ref x_Another) "__class__" = some (some (.builtin "object.__class__")))
    (j4_Another : PySem.W.mroIn K x_Another (.type "object") = some true)
    (na_Another_one : PySem.W.findIn K (.ref x_Another) "one" = some none)
    (na_Another_other : PySem.W.findIn K (.ref x_Another) "other" = some none)
    (na_Another_shorter : PySem.W.findIn K (.ref x_Another) "shorter" = some none)
    (na_Another_place : PySem.W.findIn K (.ref x_Another) "place" = some none)
    (j2 : PySem.W.specialIn K (.builtin "object.__class__") "__get__" = some (some (.builtin "getset_descriptor.__get__")))
    (j3 : PySem.W.takesIn K (.builtin "object.__class__") = some true)
    (is_Answer : PySem.W.isClsIn K x_Answer = true)
    (ty_Answer : PySem.W.typeIn K (.ref x_Answer) = some (.type "type"))
    (sub_Least_Answer : PySem.W.subIn K (.ref x_Least) (.ref x_Answer) = some true)
    (is_Only : PySem.W.isClsIn K x_Only = true)
    (ty_Only : PySem.W.typeIn K (.ref x_Only) = some (.type "type"))
    (sub_Least_Only : PySem.W.subIn K (.ref x_Least) (.ref x_Only) = some false)
    (ne_Least_Only : x_Least ≠ x_Only)
    (is_Another : PySem.W.isClsIn K x_Another = true)
    (ty_Another : PySem.W.typeIn K (.ref x_Another) = some (.type "type"))
    (sub_Least_Another : PySem.W.subIn K (.ref x_Least) (.ref x_Another) = some false)
    (ne_Least_Another : x_Least ≠ x_Another)
    (sub_Only_Answer : PySem.W.subIn K (.ref x_Only) (.ref x_Answer) = some true)
    (is_Least : PySem.W.isClsIn K x_Least = true)
    (ty_Least : PySem.W.typeIn K (.ref x_Least) = some (.type "type"))
    (sub_Only_Least : PySem.W.subIn K (.ref x_Only) (.ref x_Least) = some false)
    (ne_Only_Least : x_Only ≠ x_Least)
    (sub_Only_Another : PySem.W.subIn K (.ref x_Only) (.ref x_Another) = some false)
    (ne_Only_Another : x_Only ≠ x_Another)
    (sub_Another_Answer : PySem.W.subIn K (.ref x_Another) (.ref x_Answer) = some true)
    (sub_Another_Least : PySem.W.subIn K (.ref x_Another) (.ref x_Least) = some false)
    (ne_Another_Least : x_Another ≠ x_Least)
    (sub_Another_Only : PySem.W.subIn K (.ref x_Another) (.ref x_Only) = some false)
    (ne_Another_Only : x_Another ≠ x_Only)
    (a_is_whole : PySem.W.nsIn K mainGlobals "is_whole" = some (some (.ref x_is_whole)))
    (l_is_whole : K.lookup x_is_whole = some ⟨oc_is_whole, od_is_whole, .func (PySem.W.fnOf "is_whole" "is_whole" (defArgs s_is_whole) (defBody s_is_whole) (defScope s_is_whole) .none kV_is_whole dc_is_whole pm_is_whole an_is_whole cd_is_whole ct_is_whole), sl_is_whole⟩)
    (c_is_whole : PySem.W.codeIn K cd_is_whole "is_whole" = true)
    (k_is_whole : PySem.W.keepIn K (.ref x_is_whole) = true)
    (a_check_prime : PySem.W.nsIn K mainGlobals "check_prime" = some (some (.ref x_check_prime)))
    (l_check_prime : K.lookup x_check_prime = some ⟨oc_check_prime, od_check_prime, .func (PySem.W.fnOf "check_prime" "check_prime" (defArgs s_check_prime) (defBody s_check_prime) (defScope s_check_prime) .none kV_check_prime dc_check_prime pm_check_prime an_check_prime cd_check_prime ct_check_prime), sl_check_prime⟩)
    (c_check_prime : PySem.W.codeIn K cd_check_prime "check_prime" = true)
    (k_check_prime : PySem.W.keepIn K (.ref x_check_prime) = true)
    (a_are_rests : PySem.W.nsIn K mainGlobals "are_rests" = some (some (.ref x_are_rests)))
    (l_are_rests : K.lookup x_are_rests = some ⟨oc_are_rests, od_are_rests, .func (PySem.W.fnOf "are_rests" "are_rests" (defArgs s_are_rests) (defBody s_are_rests) (defScope s_are_rests) .none kV_are_rests dc_are_rests pm_are_rests an_are_rests cd_are_rests ct_are_rests), sl_are_rests⟩)
    (c_are_rests : PySem.W.codeIn K cd_are_rests "are_rests" = true)
    (k_are_rests : PySem.W.keepIn K (.ref x_are_rests) = true)
    (a_check_row : PySem.W.nsIn K mainGlobals "check_row" = some (some (.ref x_check_row)))
    (l_check_row : K.lookup x_check_row = some ⟨oc_check_row, od_check_row, .func (PySem.W.fnOf "check_row" "check_row" (defArgs s_check_row) (defBody s_check_row) (defScope s_check_row) .none kV_check_row dc_check_row pm_check_row an_check_row cd_check_row ct_check_row), sl_check_row⟩)
    (c_check_row : PySem.W.codeIn K cd_check_row "check_row" = true)
    (k_check_row : PySem.W.keepIn K (.ref x_check_row) = true)
    (a_inverse : PySem.W.nsIn K mainGlobals "inverse" = some (some (.ref x_inverse)))
    (l_inverse : K.lookup x_inverse = some ⟨oc_inverse, od_inverse, .func (PySem.W.fnOf "inverse" "inverse" (defArgs s_inverse) (defBody s_inverse) (defScope s_inverse) .none kV_inverse dc_inverse pm_inverse an_inverse cd_inverse ct_inverse), sl_inverse⟩)
    (c_inverse : PySem.W.codeIn K cd_inverse "inverse" = true)
    (k_inverse : PySem.W.keepIn K (.ref x_inverse) = true)
    (a_due_at : PySem.W.nsIn K mainGlobals "due_at" = some (some (.ref x_due_at)))
    (l_due_at : K.lookup x_due_at = some ⟨oc_due_at, od_due_at, .func (PySem.W.fnOf "due_at" "due_at" (defArgs s_due_at) (defBody s_due_at) (defScope s_due_at) .none kV_due_at dc_due_at pm_due_at an_due_at cd_due_at ct_due_at), sl_due_at⟩)
    (c_due_at : PySem.W.codeIn K cd_due_at "due_at" = true)
    (k_due_at : PySem.W.keepIn K (.ref x_due_at) = true)
    (a_makes_all : PySem.W.nsIn K mainGlobals "makes_all" = some (some (.ref x_makes_all)))
    (l_makes_all : K.lookup x_makes_all = some ⟨oc_makes_all, od_makes_all, .func (PySem.W.fnOf "makes_all" "makes_all" (defArgs s_makes_all) (defBody s_makes_all) (defScope s_makes_all) .none kV_makes_all dc_makes_all pm_makes_all an_makes_all cd_makes_all ct_makes_all), sl_makes_all⟩)
    (c_makes_all : PySem.W.codeIn K cd_makes_all "makes_all" = true)
    (k_makes_all : PySem.W.keepIn K (.ref x_makes_all) = true)
    (a_turned : PySem.W.nsIn K mainGlobals "turned" = some (some (.ref x_turned)))
    (l_turned : K.lookup x_turned = some ⟨oc_turned, od_turned, .func (PySem.W.fnOf "turned" "turned" (defArgs s_turned) (defBody s_turned) (defScope s_turned) .none kV_turned dc_turned pm_turned an_turned cd_turned ct_turned), sl_turned⟩)
    (c_turned : PySem.W.codeIn K cd_turned "turned" = true)
    (k_turned : PySem.W.keepIn K (.ref x_turned) = true)
    (a_told_back : PySem.W.nsIn K mainGlobals "told_back" = some (some (.ref x_told_back)))
    (l_told_back : K.lookup x_told_back = some ⟨oc_told_back, od_told_back, .func (PySem.W.fnOf "told_back" "told_back" (defArgs s_told_back) (defBody s_told_back) (defScope s_told_back) .none kV_told_back dc_told_back pm_told_back an_told_back cd_told_back ct_told_back), sl_told_back⟩)
    (c_told_back : PySem.W.codeIn K cd_told_back "told_back" = true)
    (k_told_back : PySem.W.keepIn K (.ref x_told_back) = true)
    (a_is_least : PySem.W.nsIn K mainGlobals "is_least" = some (some (.ref x_is_least)))
    (l_is_least : K.lookup x_is_least = some ⟨oc_is_least, od_is_least, .func (PySem.W.fnOf "is_least" "is_least" (defArgs s_is_least) (defBody s_is_least) (defScope s_is_least) .none kV_is_least dc_is_least pm_is_least an_is_least cd_is_least ct_is_least), sl_is_least⟩)
    (c_is_least : PySem.W.codeIn K cd_is_least "is_least" = true)
    (k_is_least : PySem.W.keepIn K (.ref x_is_least) = true)
    (a_taken_off : PySem.W.nsIn K mainGlobals "taken_off" = some (some (.ref x_taken_off)))
    (l_taken_off : K.lookup x_taken_off = some ⟨oc_taken_off, od_taken_off, .func (PySem.W.fnOf "taken_off" "taken_off" (defArgs s_taken_off) (defBody s_taken_off) (defScope s_taken_off) .none kV_taken_off dc_taken_off pm_taken_off an_taken_off cd_taken_off ct_taken_off), sl_taken_off⟩)
    (c_taken_off : PySem.W.codeIn K cd_taken_off "taken_off" = true)
    (k_taken_off : PySem.W.keepIn K (.ref x_taken_off) = true)
    (a_shortest : PySem.W.nsIn K mainGlobals "shortest" = some (some (.ref x_shortest)))
    (l_shortest : K.lookup x_shortest = some ⟨oc_shortest, od_shortest, .func (PySem.W.fnOf "shortest" "shortest" (defArgs s_shortest) (defBody s_shortest) (defScope s_shortest) .none kV_shortest dc_shortest pm_shortest an_shortest cd_shortest ct_shortest), sl_shortest⟩)
    (c_shortest : PySem.W.codeIn K cd_shortest "shortest" = true)
    (k_shortest : PySem.W.keepIn K (.ref x_shortest) = true)
    (a_Least___init__ : PySem.W.findIn K (.ref x_Least) "__init__" = some (some (.ref x_Least___init__)))
    (i_Least___init__ : PySem.W.isFn K (.ref x_Least___init__) = true)
    (l_Least___init__ : K.lookup x_Least___init__ = some ⟨oc_Least___init__, od_Least___init__, .func (PySem.W.fnOf "__init__" "Least.__init__" (defArgs s_Least___init__) (defBody s_Least___init__) (defScope s_Least___init__) .none kV_Least___init__ dc_Least___init__ pm_Least___init__ an_Least___init__ cd_Least___init__ ct_Least___init__), sl_Least___init__⟩)
    (c_Least___init__ : PySem.W.codeIn K cd_Least___init__ "Least.__init__" = true)
    (k_Least___init__ : PySem.W.keepIn K (.ref x_Least___init__) = true)
    (a_Least_shows : PySem.W.findIn K (.ref x_Least) "shows" = some (some (.ref x_Least_shows)))
    (i_Least_shows : PySem.W.isFn K (.ref x_Least_shows) = true)
    (l_Least_shows : K.lookup x_Least_shows = some ⟨oc_Least_shows, od_Least_shows, .func (PySem.W.fnOf "shows" "Least.shows" (defArgs s_Least_shows) (defBody s_Least_shows) (defScope s_Least_shows) .none kV_Least_shows dc_Least_shows pm_Least_shows an_Least_shows cd_Least_shows ct_Least_shows), sl_Least_shows⟩)
    (c_Least_shows : PySem.W.codeIn K cd_Least_shows "Least.shows" = true)
    (k_Least_shows : PySem.W.keepIn K (.ref x_Least_shows) = true)
    (a_Only___init__ : PySem.W.findIn K (.ref x_Only) "__init__" = some (some (.ref x_Only___init__)))
    (i_Only___init__ : PySem.W.isFn K (.ref x_Only___init__) = true)
    (l_Only___init__ : K.lookup x_Only___init__ = some ⟨oc_Only___init__, od_Only___init__, .func (PySem.W.fnOf "__init__" "Only.__init__" (defArgs s_Only___init__) (defBody s_Only___init__) (defScope s_Only___init__) .none kV_Only___init__ dc_Only___init__ pm_Only___init__ an_Only___init__ cd_Only___init__ ct_Only___init__), sl_Only___init__⟩)
    (c_Only___init__ : PySem.W.codeIn K cd_Only___init__ "Only.__init__" = true)
    (k_Only___init__ : PySem.W.keepIn K (.ref x_Only___init__) = true)
    (a_Only_shows : PySem.W.findIn K (.ref x_Only) "shows" = some (some (.ref x_Only_shows)))
    (i_Only_shows : PySem.W.isFn K (.ref x_Only_shows) = true)
    (l_Only_shows : K.lookup x_Only_shows = some ⟨oc_Only_shows, od_Only_shows, .func (PySem.W.fnOf "shows" "Only.shows" (defArgs s_Only_shows) (defBody s_Only_shows) (defScope s_Only_shows) .none kV_Only_shows dc_Only_shows pm_Only_shows an_Only_shows cd_Only_shows ct_Only_shows), sl_Only_shows⟩)
    (c_Only_shows : PySem.W.codeIn K cd_Only_shows "Only.shows" = true)
    (k_Only_shows : PySem.W.keepIn K (.ref x_Only_shows) = true)
    (a_Another___init__ : PySem.W.findIn K (.ref x_Another) "__init__" = some (some (.ref x_Another___init__)))
    (i_Another___init__ : PySem.W.isFn K (.ref x_Another___init__) = true)
    (l_Another___init__ : K.lookup x_Another___init__ = some ⟨oc_Another___init__, od_Another___init__, .func (PySem.W.fnOf "__init__" "Another.__init__" (defArgs s_Another___init__) (defBody s_Another___init__) (defScope s_Another___init__) .none kV_Another___init__ dc_Another___init__ pm_Another___init__ an_Another___init__ cd_Another___init__ ct_Another___init__), sl_Another___init__⟩)
    (c_Another___init__ : PySem.W.codeIn K cd_Another___init__ "Another.__init__" = true)
    (k_Another___init__ : PySem.W.keepIn K (.ref x_Another___init__) = true)
    (a_Another_shows : PySem.W.findIn K (.ref x_Another) "shows" = some (some (.ref x_Another_shows)))
    (i_Another_shows : PySem.W.isFn K (.ref x_Another_shows) = true)
    (l_Another_shows : K.lookup x_Another_shows = some ⟨oc_Another_shows, od_Another_shows, .func (PySem.W.fnOf "shows" "Another.shows" (defArgs s_Another_shows) (defBody s_Another_shows) (defScope s_Another_shows) .none kV_Another_shows dc_Another_shows pm_Another_shows an_Another_shows cd_Another_shows ct_Another_shows), sl_Another_shows⟩)
    (c_Another_shows : PySem.W.codeIn K cd_Another_shows "Another.shows" = true)
    (k_Another_shows : PySem.W.keepIn K (.ref x_Another_shows) = true)
    (a_unlike : PySem.W.nsIn K mainGlobals "unlike" = some (some (.ref x_unlike)))
    (l_unlike : K.lookup x_unlike = some ⟨oc_unlike, od_unlike, .func (PySem.W.fnOf "unlike" "unlike" (defArgs s_unlike) (defBody s_unlike) (defScope s_unlike) .none kV_unlike dc_unlike pm_unlike an_unlike cd_unlike ct_unlike), sl_unlike⟩)
    (c_unlike : PySem.W.codeIn K cd_unlike "unlike" = true)
    (k_unlike : PySem.W.keepIn K (.ref x_unlike) = true)
    (a_least : PySem.W.nsIn K mainGlobals "least" = some (some (.ref x_least)))
    (l_least : K.lookup x_least = some ⟨oc_least, od_least, .func (PySem.W.fnOf "least" "least" (defArgs s_least) (defBody s_least) (defScope s_least) .none kV_least dc_least pm_least an_least cd_least ct_least), sl_least⟩)
    (c_least : PySem.W.codeIn K cd_least "least" = true)
    (k_least : PySem.W.keepIn K (.ref x_least) = true)
    (a__law_cell_at : PySem.W.nsIn K mainGlobals "_law_cell_at" = some (some (.ref x__law_cell_at)))
    (l__law_cell_at : K.lookup x__law_cell_at = some ⟨oc__law_cell_at, od__law_cell_at, .func (PySem.W.fnOf "_law_cell_at" "_law_cell_at" (defArgs s__law_cell_at) (defBody s__law_cell_at) (defScope s__law_cell_at) .none kV__law_cell_at dc__law_cell_at pm__law_cell_at an__law_cell_at cd__law_cell_at ct__law_cell_at), sl__law_cell_at⟩)
    (c__law_cell_at : PySem.W.codeIn K cd__law_cell_at "_law_cell_at" = true)
    (k__law_cell_at : PySem.W.keepIn K (.ref x__law_cell_at) = true)
    (a__law_draw : PySem.W.nsIn K mainGlobals "_law_draw" = some (some (.ref x__law_draw)))
    (l__law_draw : K.lookup x__law_draw = some ⟨oc__law_draw, od__law_draw, .func (PySem.W.fnOf "_law_draw" "_law_draw" (defArgs s__law_draw) (defBody s__law_draw) (defScope s__law_draw) .none kV__law_draw dc__law_draw pm__law_draw an__law_draw cd__law_draw ct__law_draw), sl__law_draw⟩)
    (c__law_draw : PySem.W.codeIn K cd__law_draw "_law_draw" = true)
    (k__law_draw : PySem.W.keepIn K (.ref x__law_draw) = true)
    (a__law_prime : PySem.W.nsIn K mainGlobals "_law_prime" = some (some (.ref x__law_prime)))
    (l__law_prime : K.lookup x__law_prime = some ⟨oc__law_prime, od__law_prime, .func (PySem.W.fnOf "_law_prime" "_law_prime" (defArgs s__law_prime) (defBody s__law_prime) (defScope s__law_prime) .none kV__law_prime dc__law_prime pm__law_prime an__law_prime cd__law_prime ct__law_prime), sl__law_prime⟩)
    (c__law_prime : PySem.W.codeIn K cd__law_prime "_law_prime" = true)
    (k__law_prime : PySem.W.keepIn K (.ref x__law_prime) = true)
    (a__law_rests : PySem.W.nsIn K mainGlobals "_law_rests" = some (some (.ref x__law_rests)))
    (l__law_rests : K.lookup x__law_rests = some ⟨oc__law_rests, od__law_rests, .func (PySem.W.fnOf "_law_rests" "_law_rests" (defArgs s__law_rests) (defBody s__law_rests) (defScope s__law_rests) .none kV__law_rests dc__law_rests pm__law_rests an__law_rests cd__law_rests ct__law_rests), sl__law_rests⟩)
    (c__law_rests : PySem.W.codeIn K cd__law_rests "_law_rests" = true)
    (k__law_rests : PySem.W.keepIn K (.ref x__law_rests) = true)
    (a__law_due : PySem.W.nsIn K mainGlobals "_law_due" = some (some (.ref x__law_due)))
    (l__law_due : K.lookup x__law_due = some ⟨oc__law_due, od__law_due, .func (PySem.W.fnOf "_law_due" "_law_due" (defArgs s__law_due) (defBody s__law_due) (defScope s__law_due) .none kV__law_due dc__law_due pm__law_due an__law_due cd__law_due ct__law_due), sl__law_due⟩)
    (c__law_due : PySem.W.codeIn K cd__law_due "_law_due" = true)
    (k__law_due : PySem.W.keepIn K (.ref x__law_due) = true)
    (a__law_made : PySem.W.nsIn K mainGlobals "_law_made" = some (some (.ref x__law_made)))
    (l__law_made : K.lookup x__law_made = some ⟨oc__law_made, od__law_made, .func (PySem.W.fnOf "_law_made" "_law_made" (defArgs s__law_made) (defBody s__law_made) (defScope s__law_made) .none kV__law_made dc__law_made pm__law_made an__law_made cd__law_made ct__law_made), sl__law_made⟩)
    (c__law_made : PySem.W.codeIn K cd__law_made "_law_made" = true)
    (k__law_made : PySem.W.keepIn K (.ref x__law_made) = true)
    (a__law_rested : PySem.W.nsIn K mainGlobals "_law_rested" = some (some (.ref x__law_rested)))
    (l__law_rested : K.lookup x__law_rested = some ⟨oc__law_rested, od__law_rested, .func (PySem.W.fnOf "_law_rested" "_law_rested" (defArgs s__law_rested) (defBody s__law_rested) (defScope s__law_rested) .none kV__law_rested dc__law_rested pm__law_rested an__law_rested cd__law_rested ct__law_rested), sl__law_rested⟩)
    (c__law_rested : PySem.W.codeIn K cd__law_rested "_law_rested" = true)
    (k__law_rested : PySem.W.keepIn K (.ref x__law_rested) = true)
    (a__law_least : PySem.W.nsIn K mainGlobals "_law_least" = some (some (.ref x__law_least)))
    (l__law_least : K.lookup x__law_least = some ⟨oc__law_least, od__law_least, .func (PySem.W.fnOf "_law_least" "_law_least" (defArgs s__law_least) (defBody s__law_least) (defScope s__law_least) .none kV__law_least dc__law_least pm__law_least an__law_least cd__law_least ct__law_least), sl__law_least⟩)
    (c__law_least : PySem.W.codeIn K cd__law_least "_law_least" = true)
    (k__law_least : PySem.W.keepIn K (.ref x__law_least) = true)
    (a__law_row : PySem.W.nsIn K mainGlobals "_law_row" = some (some (.ref x__law_row)))
    (l__law_row : K.lookup x__law_row = some ⟨oc__law_row, od__law_row, .func (PySem.W.fnOf "_law_row" "_law_row" (defArgs s__law_row) (defBody s__law_row) (defScope s__law_row) .none kV__law_row dc__law_row pm__law_row an__law_row cd__law_row ct__law_row), sl__law_row⟩)
    (c__law_row : PySem.W.codeIn K cd__law_row "_law_row" = true)
    (k__law_row : PySem.W.keepIn K (.ref x__law_row) = true)
    (a__law_says : PySem.W.nsIn K mainGlobals "_law_says" = some (some (.ref x__law_says)))
    (l__law_says : K.lookup x__law_says = some ⟨oc__law_says, od__law_says, .func (PySem.W.fnOf "_law_says" "_law_says" (defArgs s__law_says) (defBody s__law_says) (defScope s__law_says) .none kV__law_says dc__law_says pm__law_says an__law_says cd__law_says ct__law_says), sl__law_says⟩)
    (c__law_says : PySem.W.codeIn K cd__law_says "_law_says" = true)
    (k__law_says : PySem.W.keepIn K (.ref x__law_says) = true)
    (a__law_bent : PySem.W.nsIn K mainGlobals "_law_bent" = some (some (.ref x__law_bent)))
    (l__law_bent : K.lookup x__law_bent = some ⟨oc__law_bent, od__law_bent, .func (PySem.W.fnOf "_law_bent" "_law_bent" (defArgs s__law_bent) (defBody s__law_bent) (defScope s__law_bent) .none kV__law_bent dc__law_bent pm__law_bent an__law_bent cd__law_bent ct__law_bent), sl__law_bent⟩)
    (c__law_bent : PySem.W.codeIn K cd__law_bent "_law_bent" = true)
    (k__law_bent : PySem.W.keepIn K (.ref x__law_bent) = true)
    (a__law_right : PySem.W.nsIn K mainGlobals "_law_right" = some (some (.ref x__law_right)))
    (l__law_right : K.lookup x__law_right = some ⟨oc__law_right, od__law_right, .func (PySem.W.fnOf "_law_right" "_law_right" (defArgs s__law_right) (defBody s__law_right) (defScope s__law_right) .none kV__law_right dc__law_right pm__law_right an__law_right cd__law_right ct__law_right), sl__law_right⟩)
    (c__law_right : PySem.W.codeIn K cd__law_right "_law_right" = true)
    (k__law_right : PySem.W.keepIn K (.ref x__law_right) = true)
    (a__law_another_right : PySem.W.nsIn K mainGlobals "_law_another_right" = some (some (.ref x__law_another_right)))
    (l__law_another_right : K.lookup x__law_another_right = some ⟨oc__law_another_right, od__law_another_right, .func (PySem.W.fnOf "_law_another_right" "_law_another_right" (defArgs s__law_another_right) (defBody s__law_another_right) (defScope s__law_another_right) .none kV__law_another_right dc__law_another_right pm__law_another_right an__law_another_right cd__law_another_right ct__law_another_right), sl__law_another_right⟩)
    (c__law_another_right : PySem.W.codeIn K cd__law_another_right "_law_another_right" = true)
    (k__law_another_right : PySem.W.keepIn K (.ref x__law_another_right) = true)
    (a_law : PySem.W.nsIn K mainGlobals "law" = some (some (.ref x_law)))
    (l_law : K.lookup x_law = some ⟨oc_law, od_law, .func (PySem.W.fnOf "law" "law" (defArgs s_law) (defBody s_law) (defScope s_law) .none kV_law dc_law pm_law an_law cd_law ct_law), sl_law⟩)
    (c_law : PySem.W.codeIn K cd_law "law" = true)
    (k_law : PySem.W.keepIn K (.ref x_law) = true)
    (z_len : PySem.W.nsIn K mainGlobals "len" = some none)
    (z_sum : PySem.W.nsIn K mainGlobals "sum" = some none)
    (z_all : PySem.W.nsIn K mainGlobals "all" = some none)
    (z_any : PySem.W.nsIn K mainGlobals "any" = some none)
    (z_list : PySem.W.nsIn K mainGlobals "list" = some none)
    (z_max : PySem.W.nsIn K mainGlobals "max" = some none)
    (z_isinstance : PySem.W.nsIn K mainGlobals "isinstance" = some none)
    (z_range : PySem.W.nsIn K mainGlobals "range" = some none)
    (z_enumerate : PySem.W.nsIn K mainGlobals "enumerate" = some none)
    (z_int : PySem.W.nsIn K mainGlobals "int" = some none)
    (z_bool : PySem.W.nsIn K mainGlobals "bool" = some none)
    (z_abs : PySem.W.nsIn K mainGlobals "abs" = some none)
    (z_reversed : PySem.W.nsIn K mainGlobals "reversed" = some none)
    (z_str : PySem.W.nsIn K mainGlobals "str" = some none)
    (z_tuple : PySem.W.nsIn K mainGlobals "tuple" = some none)
    (z_GREATEST : PySem.W.nsIn K mainGlobals "GREATEST" = some (some (.int 997 u_GREATEST))) :
    ∃ fd : FuncData, (∀ (s : Shared) (v : Value), BindsTo s fd ⟨[v], []⟩ [("_law_script", v)]) ∧ ∀ base : Heap, K.In base → base.Ns mainGlobals mg → FnOk l.prog w K mg base CX0 7 fa fd ["_law_script"] (sp_law K) := by
  have e := hfa.symm.trans (PySem.W.mg_of X G a_law)
  cases e
  let T := txt_mk X G ac_Answer ac_Least pg_Least hd_Least po_Least sa_Least mk_Least kc_Least j1_Least j4_Least na_Least_rule na_Least_shorter na_Least_place ac_Only pg_Only hd_Only po_Only sa_Only mk_Only kc_Only j1_Only j4_Only na_Only_rule na_Only_shorter na_Only_place ac_Another pg_Another hd_Another po_Another sa_Another mk_Another kc_Another j1_Another j4_Another na_Another_one na_Another_other na_Another_shorter na_Another_place j2 j3 is_Answer ty_Answer sub_Least_Answer is_Only ty_Only sub_Least_Only ne_Least_Only is_Another ty_Another sub_Least_Another ne_Least_Another sub_Only_Answer is_Least ty_Least sub_Only_Least ne_Only_Least sub_Only_Another ne_Only_Another sub_Another_Answer sub_Another_Least ne_Another_Least sub_Another_Only ne_Another_Only a_is_whole l_is_whole c_is_whole k_is_whole a_check_prime l_check_prime c_check_prime k_check_prime a_are_rests l_are_rests c_are_rests k_are_rests a_check_row l_check_row c_check_row k_check_row a_inverse l_inverse c_inverse k_inverse a_due_at l_due_at c_due_at k_due_at a_makes_all l_makes_all c_makes_all k_makes_all a_turned l_turned c_turned k_turned a_told_back l_told_back c_told_back k_told_back a_is_least l_is_least c_is_least k_is_least a_taken_off l_taken_off c_taken_off k_taken_off a_shortest l_shortest c_shortest k_shortest a_Least___init__ i_Least___init__ l_Least___init__ c_Least___init__ k_Least___init__ a_Least_shows i_Least_shows l_Least_shows c_Least_shows k_Least_shows a_Only___init__ i_Only___init__ l_Only___init__ c_Only___init__ k_Only___init__ a_Only_shows i_Only_shows l_Only_shows c_Only_shows k_Only_shows a_Another___init__ i_Another___init__ l_Another___init__ c_Another___init__ k_Another___init__ a_Another_shows i_Another_shows l_Another_shows c_Another_shows k_Another_shows a_unlike l_unlike c_unlike k_unlike a_least l_least c_least k_least a__law_cell_at l__law_cell_at c__law_cell_at k__law_cell_at a__law_draw l__law_draw c__law_draw k__law_draw a__law_prime l__law_prime c__law_prime k__law_prime a__law_rests l__law_rests c__law_rests k__law_rests a__law_due l__law_due c__law_due k__law_due a__law_made l__law_made c__law_made k__law_made a__law_rested l__law_rested c__law_rested k__law_rested a__law_least l__law_least c__law_least k__law_least a__law_row l__law_row c__law_row k__law_row a__law_says l__law_says c__law_says k__law_says a__law_bent l__law_bent c__law_bent k__law_bent a__law_right l__law_right c__law_right k__law_right a__law_another_right l__law_another_right c__law_another_right k__law_another_right a_law l_law c_law k_law z_len z_sum z_all z_any z_list z_max z_isinstance z_range z_enumerate z_int z_bool z_abs z_reversed z_str z_tuple z_GREATEST
  exact ⟨T.f_law, fun s v => .of_eq rfl, fun base _ _ => ok_law T⟩
end RP
open PySem PySem.W PyProof.Rows
set_option maxRecDepth 100000 in
set_option maxHeartbeats 0 in
theorem PySem.Challenge.cw_rulerow_k05_answers_by_hand_holds : PySem.Challenge.rw_rulerow_k05_answers_by_hand.Holds := by
  w_on; o_law; k_head; (case hw => w_witness2)
  k_fill
  refine L2.walk_of (l := PySem.Challenge.rw_rulerow_k05_answers_by_hand) (n := 63) (k := 7) (x := "_law_script") (CX := fun w => L2.CX0) (sp := fun w => RP.sp_law _) rfl (by decide) rfl ⟨rfl, by decide, by decide⟩ (fun w h Y => PySem.W.kIn_of Y) ?F (fun _ _ a ns hl _ hS => RP.law_start hl hS) fun _ _ _ _ _ h => h
  case F =>
    intro w mg fa h KX G hmg
    refine' RP.all_mk KX G hmg ?ac_Answer ?ac_Least ?pg_Least ?hd_Least ?po_Least ?sa_Least ?mk_Least ?kc_Least ?j1_Least ?j4_Least ?na_Least_rule ?na_Least_shorter ?na_Least_place ?ac_Only ?pg_Only ?hd_Only ?po_Only ?sa_Only ?mk_Only ?kc_Only ?j1_Only ?j4_Only ?na_Only_rule ?na_Only_shorter ?na_Only_place ?ac_Another ?pg_Another ?hd_Another ?po_Another ?sa_Another ?mk_Another ?kc_Another ?j1_Another ?j4_Another ?na_Another_one ?na_Another_other ?na_Another_shorter ?na_Another_place ?j2 ?j3 ?is_Answer ?ty_Answer ?sub_Least_Answer ?is_Only ?ty_Only ?sub_Least_Only ?ne_Least_Only ?is_Another ?ty_Another ?sub_Least_Another ?ne_Least_Another ?sub_Only_Answer ?is_Least ?ty_Least ?sub_Only_Least ?ne_Only_Least ?sub_Only_Another ?ne_Only_Another ?sub_Another_Answer ?sub_Another_Least ?ne_Another_Least ?sub_Another_Only ?ne_Another_Only ?a_is_whole ?l_is_whole ?c_is_whole ?k_is_whole ?a_check_prime ?l_check_prime ?c_check_prime ?k_check_prime ?a_are_rests ?l_are_rests ?c_are_rests ?k_are_rests ?a_check_row ?l_check_row ?c_check_row ?k_check_row ?a_inverse ?l_inverse ?c_inverse ?k_inverse ?a_due_at ?l_due_at ?c_due_at ?k_due_at ?a_makes_all ?l_makes_all ?c_makes_all ?k_makes_all ?a_turned ?l_turned ?c_turned ?k_turned ?a_told_back ?l_told_back ?c_told_back ?k_told_back ?a_is_least ?l_is_least ?c_is_least ?k_is_least ?a_taken_off ?l_taken_off ?c_taken_off ?k_taken_off ?a_shortest ?l_shortest ?c_shortest ?k_shortest ?a_Least___init__ ?i_Least___init__ ?l_Least___init__ ?c_Least___init__ ?k_Least___init__ ?a_Least_shows ?i_Least_shows ?l_Least_shows ?c_Least_shows ?k_Least_shows ?a_Only___init__ ?i_Only___init__ ?l_Only___init__ ?c_Only___init__ ?k_Only___init__ ?a_Only_shows ?i_Only_shows ?l_Only_shows ?c_Only_shows ?k_Only_shows ?a_Another___init__ ?i_Another___init__ ?l_Another___init__ ?c_Another___init__ ?k_Another___init__ ?a_Another_shows ?i_Another_shows ?l_Another_shows ?c_Another_shows ?k_Another_shows ?a_unlike ?l_unlike ?c_unlike ?k_unlike ?a_least ?l_least ?c_least ?k_least ?a__law_cell_at ?l__law_cell_at ?c__law_cell_at ?k__law_cell_at ?a__law_draw ?l__law_draw ?c__law_draw ?k__law_draw ?a__law_prime ?l__law_prime ?c__law_prime ?k__law_prime ?a__law_rests ?l__law_rests ?c__law_rests ?k__law_rests ?a__law_due ?l__law_due ?c__law_due ?k__law_due ?a__law_made ?l__law_made ?c__law_made ?k__law_made ?a__law_rested ?l__law_rested ?c__law_rested ?k__law_rested ?a__law_least ?l__law_least ?c__law_least ?k__law_least ?a__law_row ?l__law_row ?c__law_row ?k__law_row ?a__law_says ?l__law_says ?c__law_says ?k__law_says ?a__law_bent ?l__law_bent ?c__law_bent ?k__law_bent ?a__law_right ?l__law_right ?c__law_right ?k__law_right ?a__law_another_right ?l__law_another_right ?c__law_another_right ?k__law_another_right ?a_law ?l_law ?c_law ?k_law ?z_len ?z_sum ?z_all ?z_any ?z_list ?z_max ?z_isinstance ?z_range ?z_enumerate ?z_int ?z_bool ?z_abs ?z_reversed ?z_str ?z_tuple ?z_GREATEST
    (case ac_Answer => k_is)
    (case ac_Least => k_is)
    (case pg_Least => k_is)
    (case hd_Least => k_is)
    (case po_Least => k_is)
    (case sa_Least => k_is)
    (case mk_Least => k_is)
    (case kc_Least => k_is)
    (case j1_Least => k_is)
    (case j4_Least => k_is)
    (case na_Least_rule => k_is)
    (case na_Least_shorter => k_is)
    (case na_Least_place => k_is)
    (case ac_Only => k_is)
    (case pg_Only => k_is)
    (case hd_Only => k_is)
    (case po_Only => k_is)
    (case sa_Only => k_is)
    (case mk_Only => k_is)
    (case kc_Only => k_is)
    (case j1_Only => k_is)
    (case j4_Only => k_is)
    (case na_Only_rule => k_is)
    (case na_Only_shorter => k_is)
    (case na_Only_place => k_is)
    (case ac_Another => k_is)
    (case pg_Another => k_is)
    (case hd_Another => k_is)
    (case po_Another => k_is)
    (case sa_Another => k_is)
    (case mk_Another => k_is)
    (case kc_Another => k_is)
    (case j1_Another => k_is)
    (case j4_Another => k_is)
    (case na_Another_one => k_is)
    (case na_Another_other => k_is)
    (case na_Another_shorter => k_is)
    (case na_Another_place => k_is)
    (case j2 => k_is)
    (case j3 => k_is)
    (case is_Answer => k_is)
    (case ty_Answer => k_is)
    (case sub_Least_Answer => k_is)
    (case is_Only => k_is)
    (case ty_Only => k_is)
    (case sub_Least_Only => k_is)
    (case ne_Least_Only => decide)
    (case is_Another => k_is)
    (case ty_Another => k_is)
    (case sub_Least_Another => k_is)
    (case ne_Least_Another => decide)
    (case sub_Only_Answer => k_is)
    (case is_Least => k_is)
    (case ty_Least => k_is)
    (case sub_Only_Least => k_is)
    (case ne_Only_Least => decide)
    (case sub_Only_Another => k_is)
    (case ne_Only_Another => decide)
    (case sub_Another_Answer => k_is)
    (case sub_Another_Least => k_is)
    (case ne_Another_Least => decide)
    (case sub_Another_Only => k_is)
    (case ne_Another_Only => decide)
    (case a_is_whole => k_is)
    (case l_is_whole => k_is)
    (case c_is_whole => k_is)
    (case k_is_whole => k_is)
    (case a_check_prime => k_is)
    (case l_check_prime => k_is)
    (case c_check_prime => k_is)
    (case k_check_prime => k_is)
    (case a_are_rests => k_is)
    (case l_are_rests => k_is)
    (case c_are_rests => k_is)
    (case k_are_rests => k_is)
    (case a_check_row => k_is)
    (case l_check_row => k_is)
    (case c_check_row => k_is)
    (case k_check_row => k_is)
    (case a_inverse => k_is)
    (case l_inverse => k_is)
    (case c_inverse => k_is)
    (case k_inverse => k_is)
    (case a_due_at => k_is)
    (case l_due_at => k_is)
    (case c_due_at => k_is)
    (case k_due_at => k_is)
    (case a_makes_all => k_is)
    (case l_makes_all => k_is)
    (case c_makes_all => k_is)
    (case k_makes_all => k_is)
    (case a_turned => k_is)
    (case l_turned => k_is)
    (case c_turned => k_is)
    (case k_turned => k_is)
    (case a_told_back => k_is)
    (case l_told_back => k_is)
    (case c_told_back => k_is)
    (case k_told_back => k_is)
    (case a_is_least => k_is)
    (case l_is_least => k_is)
    (case c_is_least => k_is)
    (case k_is_least => k_is)
    (case a_taken_off => k_is)
    (case l_taken_off => k_is)
    (case c_taken_off => k_is)
    (case k_taken_off => k_is)
    (case a_shortest => k_is)
    (case l_shortest => k_is)
    (case c_shortest => k_is)
    (case k_shortest => k_is)
    (case a_Least___init__ => k_is)
    (case i_Least___init__ => k_is)
    (case l_Least___init__ => k_is)
    (case c_Least___init__ => k_is)
    (case k_Least___init__ => k_is)
    (case a_Least_shows => k_is)
    (case i_Least_shows => k_is)
    (case l_Least_shows => k_is)
    (case c_Least_shows => k_is)
    (case k_Least_shows => k_is)
    (case a_Only___init__ => k_is)
    (case i_Only___init__ => k_is)
    (case l_Only___init__ => k_is)
    (case c_Only___init__ => k_is)
    (case k_Only___init__ => k_is)
    (case a_Only_shows => k_is)
    (case i_Only_shows => k_is)
    (case l_Only_shows => k_is)
    (case c_Only_shows => k_is)
    (case k_Only_shows => k_is)
    (case a_Another___init__ => k_is)
    (case i_Another___init__ => k_is)
    (case l_Another___init__ => k_is)
    (case c_Another___init__ => k_is)
    (case k_Another___init__ => k_is)
    (case a_Another_shows => k_is)
    (case i_Another_shows => k_is)
    (case l_Another_shows => k_is)
    (case c_Another_shows => k_is)
    (case k_Another_shows => k_is)
    (case a_unlike => k_is)
    (case l_unlike => k_is)
    (case c_unlike => k_is)
    (case k_unlike => k_is)
    (case a_least => k_is)
    (case l_least => k_is)
    (case c_least => k_is)
    (case k_least => k_is)
    (case a__law_cell_at => k_is)
    (case l__law_cell_at => k_is)
    (case c__law_cell_at => k_is)
    (case k__law_cell_at => k_is)
    (case a__law_draw => k_is)
    (case l__law_draw => k_is)
    (case c__law_draw => k_is)
    (case k__law_draw => k_is)
    (case a__law_prime => k_is)
    (case l__law_prime => k_is)
    (case c__law_prime => k_is)
    (case k__law_prime => k_is)
    (case a__law_rests => k_is)
    (case l__law_rests => k_is)
    (case c__law_rests => k_is)
    (case k__law_rests => k_is)
    (case a__law_due => k_is)
    (case l__law_due => k_is)
    (case c__law_due => k_is)
    (case k__law_due => k_is)
    (case a__law_made => k_is)
    (case l__law_made => k_is)
    (case c__law_made => k_is)
    (case k__law_made => k_is)
    (case a__law_rested => k_is)
    (case l__law_rested => k_is)
    (case c__law_rested => k_is)
    (case k__law_rested => k_is)
    (case a__law_least => k_is)
    (case l__law_least => k_is)
    (case c__law_least => k_is)
    (case k__law_least => k_is)
    (case a__law_row => k_is)
    (case l__law_row => k_is)
    (case c__law_row => k_is)
    (case k__law_row => k_is)
    (case a__law_says => k_is)
    (case l__law_says => k_is)
    (case c__law_says => k_is)
    (case k__law_says => k_is)
    (case a__law_bent => k_is)
    (case l__law_bent => k_is)
    (case c__law_bent => k_is)
    (case k__law_bent => k_is)
    (case a__law_right => k_is)
    (case l__law_right => k_is)
    (case c__law_right => k_is)
    (case k__law_right => k_is)
    (case a__law_another_right => k_is)
    (case l__law_another_right => k_is)
    (case c__law_another_right => k_is)
    (case k__law_another_right => k_is)
    (case a_law => k_is)
    (case l_law => k_is)
    (case c_law => k_is)
    (case k_law => k_is)
    (case z_len => k_is)
    (case z_sum => k_is)
    (case z_all => k_is)
    (case z_any => k_is)
    (case z_list => k_is)
    (case z_max => k_is)
    (case z_isinstance => k_is)
    (case z_range => k_is)
    (case z_enumerate => k_is)
    (case z_int => k_is)
    (case z_bool => k_is)
    (case z_abs => k_is)
    (case z_reversed => k_is)
    (case z_str => k_is)
    (case z_tuple => k_is)
    (case z_GREATEST => k_is)
