import PyProof.Rows.All
import Wide.All
import OpenK.AllK
import Wide.FinOn
import HandS.Iter
import HandS.Dict
import HandS.ExcOwn
import HandS.ExcCtx
import HandS.ExcIs
import HandS.Hot
import HandS.HotCalls
import HandS.Steps
import HandS.ForMost
import HandS.ForExc
import HandS.Evl
import HandS.Walk
import HandS.IsInst
import HandS.Style
import HandS.RevRange
import HandS.CallRecv
import HandS.Conv
import PySem.Challenge.RW_rulerow_k07_refused
set_option Elab.async false
set_option linter.all false
set_option maxRecDepth 100000
set_option maxHeartbeats 4000000
/-! RrMath: the plain side. Lists of rests by a prime, rules, the shortest rule; no Python here. -/
namespace RR

/-- the number at a place, 0 beyond -/
def g (l : List Int) (i : Nat) : Int := l.getD i 0
theorem g_nil (i : Nat) : g [] i = 0 := by simp [g]
theorem g_cons_zero (x : Int) (l : List Int) : g (x :: l) 0 = x := rfl
theorem g_cons_succ (x : Int) (l : List Int) (i : Nat) : g (x :: l) (i + 1) = g l i := rfl
theorem g_out {l : List Int} {i : Nat} (h : l.length ≤ i) : g l i = 0 := by
  unfold g; simp [List.getD_eq_getElem?_getD, List.getElem?_eq_none h]
theorem g_in {l : List Int} {i : Nat} (h : i < l.length) : l[i]? = some (g l i) := by
  unfold g; simp [List.getD_eq_getElem?_getD, List.getElem?_eq_getElem h]
theorem g_mem {l : List Int} {i : Nat} (h : i < l.length) : g l i ∈ l := List.mem_of_getElem? (g_in h)
theorem g_map {f : Int → Int} {l : List Int} {i : Nat} (h : i < l.length) : g (l.map f) i = f (g l i) := by
  have e := g_in h
  unfold g at *
  simp [List.getD_eq_getElem?_getD, List.getElem?_map, List.getElem?_eq_getElem h]
theorem g_set_self {l : List Int} {i : Nat} {v : Int} (h : i < l.length) : g (l.set i v) i = v := by
  unfold g; simp [List.getD_eq_getElem?_getD, List.getElem?_set_self h]
theorem g_set_ne {l : List Int} {i j : Nat} {v : Int} (h : i ≠ j) : g (l.set i v) j = g l j := by
  unfold g; simp [List.getD_eq_getElem?_getD, List.getElem?_set_ne h]
theorem g_append_left {l m : List Int} {i : Nat} (h : i < l.length) : g (l ++ m) i = g l i := by
  unfold g; simp [List.getD_eq_getElem?_getD, List.getElem?_append_left h]
theorem g_append_right {l m : List Int} {i : Nat} (h : l.length ≤ i) : g (l ++ m) i = g m (i - l.length) := by
  unfold g; simp [List.getD_eq_getElem?_getD, List.getElem?_append_right h]
theorem g_replicate (n i : Nat) : g (List.replicate n 0) i = 0 := by
  by_cases h : i < n
  · have := g_mem (l := List.replicate n (0 : Int)) (i := i) (by simpa using h)
    exact (List.mem_replicate.mp this).2
  · exact g_out (by simpa using h)
theorem g_take {l : List Int} {n i : Nat} (h : i < n) : g (l.take n) i = g l i := by
  unfold g; simp [List.getD_eq_getElem?_getD, List.getElem?_take, h]
theorem g_drop {l : List Int} {n i : Nat} : g (l.drop n) i = g l (n + i) := by
  unfold g; simp [List.getD_eq_getElem?_getD, List.getElem?_drop]
theorem g_ext {l m : List Int} (hl : l.length = m.length) (h : ∀ i, i < l.length → g l i = g m i) : l = m := by
  apply List.ext_getElem? 
  intro i
  by_cases hi : i < l.length
  · rw [g_in hi, g_in (by omega), h i hi]
  · rw [List.getElem?_eq_none (by omega), List.getElem?_eq_none (by omega)]

/-! ### sums -/
def S : Nat → (Nat → Int) → Int
  | 0, _ => 0
  | n + 1, f => S n f + f n
theorem S_congr {n : Nat} {f h : Nat → Int} (e : ∀ k, k < n → f k = h k) : S n f = S n h := by
  induction n with
  | zero => rfl
  | succ n ih => simp only [S]; rw [ih (fun k hk => e k (by omega)), e n (by omega)]
theorem S_zero {n : Nat} {f : Nat → Int} (e : ∀ k, k < n → f k = 0) : S n f = 0 := by
  induction n with
  | zero => rfl
  | succ n ih => simp only [S]; rw [ih (fun k hk => e k (by omega)), e n (by omega)]; rfl
theorem S_add (n : Nat) (f h : Nat → Int) : S n (fun k => f k + h k) = S n f + S n h := by
  induction n with
  | zero => rfl
  | succ n ih => simp only [S]; rw [ih]; omega
theorem S_mul (n : Nat) (c : Int) (f : Nat → Int) : S n (fun k => c * f k) = c * S n f := by
  induction n with
  | zero => simp [S]
  | succ n ih => simp only [S]; rw [ih, Int.mul_add]
theorem S_neg (n : Nat) (f : Nat → Int) : S n (fun k => - f k) = - S n f := by
  induction n with
  | zero => rfl
  | succ n ih => simp only [S]; rw [ih]; omega
/-- terms beyond that are 0 -/
theorem S_more {n m : Nat} {f : Nat → Int} (h : n ≤ m) (z : ∀ k, n ≤ k → k < m → f k = 0) : S m f = S n f := by
  induction m with
  | zero => have : n = 0 := by omega
            subst this; rfl
  | succ m ih =>
    by_cases e : n = m + 1
    · subst e; rfl
    · simp only [S]; rw [ih (by omega) (fun k h1 h2 => z k h1 (by omega)), z m (by omega) (by omega)]; omega
/-- terms ahead that are 0 -/
theorem S_shift {a m : Nat} {f : Nat → Int} (z : ∀ k, k < a → f k = 0) : S (a + m) f = S m (fun j => f (a + j)) := by
  induction m with
  | zero => exact S_zero z
  | succ m ih => rw [← Nat.add_assoc]; simp only [S]; rw [ih]
theorem S_succ_left (n : Nat) (f : Nat → Int) : S (n + 1) f = f 0 + S n (fun k => f (k + 1)) := by
  induction n with
  | zero => simp [S]
  | succ n ih => rw [S, ih]; simp only [S]; omega
theorem S_range (n : Nat) (f : Nat → Int) : ((List.range n).map f).sum = S n f := by
  induction n with
  | zero => rfl
  | succ n ih => rw [List.range_succ, List.map_append, List.sum_append, ih]; simp [S]

/-! ### rests -/
theorem cg_add {p a b c d : Int} (h : a % p = b % p) (k : c % p = d % p) : (a + c) % p = (b + d) % p := by
  rw [Int.add_emod, h, k, ← Int.add_emod]
theorem cg_sub {p a b c d : Int} (h : a % p = b % p) (k : c % p = d % p) : (a - c) % p = (b - d) % p := by
  rw [Int.sub_emod, h, k, ← Int.sub_emod]
theorem cg_mul {p a b c d : Int} (h : a % p = b % p) (k : c % p = d % p) : (a * c) % p = (b * d) % p := by
  rw [Int.mul_emod, h, k, ← Int.mul_emod]
theorem cg_neg {p a b : Int} (h : a % p = b % p) : (-a) % p = (-b) % p := by
  have := cg_sub (p := p) (a := 0) (b := 0) rfl h
  simpa using this
theorem cg_S {p : Int} {n : Nat} {f h : Nat → Int} (e : ∀ k, k < n → f k % p = h k % p) : S n f % p = S n h % p := by
  induction n with
  | zero => rfl
  | succ n ih => simp only [S]; exact cg_add (ih fun k hk => e k (by omega)) (e n (by omega))
theorem mm {p a : Int} : (a % p) % p = a % p := Int.emod_emod_of_dvd a (Int.dvd_refl p)

/-- a list of rests -/
def Rs (p : Int) (l : List Int) : Prop := ∀ x, x ∈ l → 0 ≤ x ∧ x < p
def rs (p : Int) (l : List Int) : Bool := l.all fun x => decide (0 ≤ x) && decide (x < p)
theorem rs_iff {p : Int} {l : List Int} : rs p l = true ↔ Rs p l := by
  unfold rs Rs; simp [List.all_eq_true]
theorem Rs.g {p : Int} {l : List Int} (h : Rs p l) (hp : 0 < p) (i : Nat) : 0 ≤ RR.g l i ∧ RR.g l i < p := by
  by_cases hi : i < l.length
  · exact h _ (g_mem hi)
  · rw [g_out (by omega)]; omega
theorem Rs.nil {p : Int} : Rs p [] := fun x h => by simp at h
theorem Rs.mod {p : Int} {α : Type} {l : List α} {f : α → Int} (hp : 0 < p) : Rs p (l.map fun a => f a % p) := fun x h => by
  obtain ⟨a, _, rfl⟩ := List.mem_map.mp h
  exact ⟨Int.emod_nonneg _ (by omega), Int.emod_lt_of_pos _ hp⟩
theorem emod_small {p x : Int} (h : 0 ≤ x ∧ x < p) : x % p = x := Int.emod_eq_of_lt h.1 h.2

/-! ### what is due -/
def due (p : Int) (rule row : List Int) (n : Nat) : Int := S rule.length (fun k => g rule k * g row (n - 1 - k)) % p
def makesAll (p : Int) (rule row : List Int) : Bool := (List.range (row.length - rule.length)).all fun i => decide (g row (rule.length + i) = due p rule row (rule.length + i))
def Makes (p : Int) (rule row : List Int) : Prop := ∀ n, rule.length ≤ n → n < row.length → g row n = due p rule row n
theorem makes_iff {p : Int} {rule row : List Int} : makesAll p rule row = true ↔ Makes p rule row := by
  unfold makesAll Makes
  simp only [List.all_eq_true, List.mem_range, decide_eq_true_eq]
  constructor
  · intro h n h1 h2
    have := h (n - rule.length) (by omega)
    rw [show rule.length + (n - rule.length) = n by omega] at this
    exact this
  · intro h i hi
    exact h _ (by omega) (by omega)

def turned (p : Int) (rule : List Int) : List Int := 1 :: rule.map fun r => (-r) % p
def toldBack (p : Int) (rests : List Int) : List Int := (rests.drop 1).map fun r => (-r) % p
theorem turned_len (p : Int) (rule : List Int) : (turned p rule).length = rule.length + 1 := by simp [turned]
theorem toldBack_len (p : Int) (r : List Int) : (toldBack p r).length = r.length - 1 := by simp [toldBack]
theorem toldBack_rs {p : Int} (hp : 0 < p) (r : List Int) : Rs p (toldBack p r) := Rs.mod hp
theorem turned_rs {p : Int} (hp : 1 < p) (r : List Int) : Rs p (turned p r) := fun x h => by
  rcases List.mem_cons.mp h with rfl | h
  · omega
  · exact Rs.mod (p := p) (by omega) x h
theorem turned_zero (p : Int) (r : List Int) : g (turned p r) 0 = 1 := rfl
theorem turned_succ {p : Int} {r : List Int} {k : Nat} (h : k < r.length) : g (turned p r) (k + 1) = (- g r k) % p := by
  unfold turned; rw [g_cons_succ, g_map (f := fun r => (-r) % p) h]

/-- the numbers and those ahead together -/
def D (c : List Int) (row : List Int) (n : Nat) : Int := S c.length (fun k => g c k * g row (n - k))
theorem D_turned {p : Int} (rule row : List Int) (n : Nat) : D (turned p rule) row n % p = (g row n - due p rule row n) % p := by
  unfold D
  rw [turned_len, S_succ_left]
  rw [turned_zero, Int.one_mul, Nat.sub_zero, Int.sub_eq_add_neg]
  refine cg_add rfl ?_
  unfold due
  rw [show (-(S rule.length (fun k => g rule k * g row (n - 1 - k)) % p)) % p = (-(S rule.length (fun k => g rule k * g row (n - 1 - k)))) % p from cg_neg mm, ← S_neg]
  refine cg_S fun k hk => ?_
  rw [turned_succ hk, show n - (k + 1) = n - 1 - k by omega, ← Int.neg_mul]
  exact cg_mul mm rfl
/-- a rule makes the number at n just if these together are 0 -/
theorem due_iff {p : Int} (hp : 0 < p) {rule row : List Int} (hr : Rs p row) {n : Nat} : g row n = due p rule row n ↔ D (turned p rule) row n % p = 0 := by
  rw [D_turned]
  have h1 := hr.g hp n
  have h2 : 0 ≤ due p rule row n ∧ due p rule row n < p := ⟨Int.emod_nonneg _ (by omega), Int.emod_lt_of_pos _ hp⟩
  constructor
  · intro e; rw [e]; simp
  · intro e
    have := Int.emod_emod_of_dvd (g row n - due p rule row n) (Int.dvd_refl p)
    by_cases h : g row n - due p rule row n < 0
    · have e2 : (g row n - due p rule row n + p) % p = 0 := by rw [Int.add_emod_right]; exact e
      rw [Int.emod_eq_of_lt (by omega) (by omega)] at e2
      omega
    · rw [Int.emod_eq_of_lt (by omega) (by omega)] at e
      omega
/-- told back and turned: the same by the prime -/
theorem turned_toldBack {p : Int} (hp : 1 < p) {r : List Int} (h0 : g r 0 % p = 1) (hl : 0 < r.length) (row : List Int) (n : Nat) : D (turned p (toldBack p r)) row n % p = D r row n % p := by
  unfold D
  rw [turned_len, toldBack_len, show r.length - 1 + 1 = r.length by omega]
  refine cg_S fun k hk => ?_
  refine cg_mul ?_ rfl
  cases k with
  | zero => rw [turned_zero, h0]; exact Int.emod_eq_of_lt (by omega) (by omega)
  | succ k =>
    rw [turned_succ (by rw [toldBack_len]; omega)]
    unfold toldBack
    rw [g_map (f := fun r => (-r) % p) (by simp; omega), g_drop, mm]
    rw [cg_neg (p := p) mm, Int.neg_neg, Nat.add_comm]

/-! ### rests taken off -/
def takenOff (p : Int) (one other : List Int) (by_ : Int) (ahead len : Nat) : List Int :=
  (List.range (len + 1)).map fun i => if ahead ≤ i ∧ i - ahead < other.length ∧ g other (i - ahead) ≠ 0 then (g one i - by_ * g other (i - ahead)) % p else g one i
theorem takenOff_len (p : Int) (one other : List Int) (by_ : Int) (ahead len : Nat) : (takenOff p one other by_ ahead len).length = len + 1 := by simp [takenOff]
theorem g_range_map {n : Nat} {f : Nat → Int} {i : Nat} (h : i < n) : g ((List.range n).map f) i = f i := by
  unfold g; simp [List.getD_eq_getElem?_getD, List.getElem?_map, h]
theorem takenOff_g {p : Int} {one other : List Int} {by_ : Int} {ahead len i : Nat} (h : i ≤ len) :
    g (takenOff p one other by_ ahead len) i % p = (g one i - (if i < ahead then 0 else by_ * g other (i - ahead))) % p := by
  unfold takenOff
  rw [g_range_map (by omega)]
  by_cases h1 : ahead ≤ i
  · rw [if_neg (show ¬ i < ahead by omega)]
    by_cases h2 : i - ahead < other.length ∧ g other (i - ahead) ≠ 0
    · rw [if_pos ⟨h1, h2⟩, mm]
    · rw [if_neg (fun z => h2 z.2)]
      have : g other (i - ahead) = 0 := by
        by_cases h3 : i - ahead < other.length
        · exact Classical.byContradiction fun z => h2 ⟨h3, z⟩
        · exact g_out (by omega)
      rw [this, Int.mul_zero, Int.sub_zero]
  · rw [if_neg (fun z => h1 z.1), if_pos (by omega), Int.sub_zero]
theorem takenOff_rs {p : Int} (hp : 0 < p) {one other : List Int} (ho : Rs p one) (by_ : Int) (ahead len : Nat) : Rs p (takenOff p one other by_ ahead len) := fun x h => by
  obtain ⟨i, _, rfl⟩ := List.mem_map.mp h
  split
  · exact ⟨Int.emod_nonneg _ (by omega), Int.emod_lt_of_pos _ hp⟩
  · exact ho.g hp i
/-- what they together are -/
theorem D_takenOff {p : Int} {one other row : List Int} {by_ : Int} {ahead len n : Nat} (h1 : one.length ≤ len + 1) (h2 : ahead + other.length ≤ len + 1) (hn : len ≤ n) :
    D (takenOff p one other by_ ahead len) row n % p = (D one row n - by_ * D other row (n - ahead)) % p := by
  have e1 : D one row n = S (len + 1) (fun k => g one k * g row (n - k)) := (S_more h1 fun k hk _ => by rw [g_out hk, Int.zero_mul]).symm
  have e2 : D other row (n - ahead) = S (len + 1) (fun k => (if k < ahead then 0 else g other (k - ahead)) * g row (n - k)) := by
    rw [show len + 1 = ahead + (len + 1 - ahead) by omega, S_shift (fun k hk => by rw [if_pos hk, Int.zero_mul])]
    unfold D
    rw [S_more (n := other.length) (m := len + 1 - ahead) (by omega)]
    · refine S_congr fun k hk => ?_
      rw [if_neg (by omega), show ahead + k - ahead = k by omega, show n - (ahead + k) = n - ahead - k by omega]
    · intro k hk _
      rw [if_neg (by omega), show ahead + k - ahead = k by omega, g_out hk, Int.zero_mul]
  rw [e1, e2]
  unfold D
  rw [takenOff_len, ← S_mul, Int.sub_eq_add_neg, ← S_neg, ← S_add]
  refine cg_S fun k hk => ?_
  rw [show g one k * g row (n - k) + -(by_ * ((if k < ahead then 0 else g other (k - ahead)) * g row (n - k))) = (g one k - (if k < ahead then 0 else by_ * g other (k - ahead))) * g row (n - k) by
    split
    · simp
    · rw [Int.sub_mul, Int.mul_assoc, Int.sub_eq_add_neg]]
  exact cg_mul (takenOff_g (by omega)) rfl
end RR
/-! RrBM: inverses by a prime, the shortest rule (Berlekamp and Massey), what shows that it is shortest. -/
namespace RR

/-- a prime the program takes -/
structure Good (p : Int) : Prop where
  two : 2 ≤ p
  most : p ≤ 997
  pr : ∀ e : Int, 0 < e → e ∣ p → e = 1 ∨ e = p
theorem Good.pos {p : Int} (h : Good p) : 0 < p := by have := h.two; omega
theorem Good.one {p : Int} (h : Good p) : 1 < p := by have := h.two; omega

/-! ### inverse -/
def invF : Nat → Int → Int → Int → Int → Int
  | 0, _, _, _, d => d
  | n + 1, a, b, c, d => if c = 1 then d else invF n c d (a - a / c * c) (b - a / c * d)
def inverse (p r : Int) : Int := invF p.toNat p 0 r 1 % p
/-- what holds between the turns -/
structure InvI (p r a b c d : Int) : Prop where
  pos : 1 ≤ c
  le : c ≤ a
  most : a ≤ p
  ea : a % p = (b * r) % p
  ec : c % p = (d * r) % p
  cop : ∀ e : Int, 0 < e → e ∣ a → e ∣ c → e = 1
theorem InvI.next {p r a b c d : Int} (h : InvI p r a b c d) (h1 : c ≠ 1) : InvI p r c d (a - a / c * c) (b - a / c * d) ∧ a - a / c * c < c := by
  have hc : 0 < c := by have := h.pos; omega
  have e : a - a / c * c = a % c := by
    have := Int.mul_ediv_add_emod a c
    rw [Int.mul_comm] at this
    omega
  have h2 : 0 ≤ a % c := Int.emod_nonneg _ (by omega)
  have h3 : a % c < c := Int.emod_lt_of_pos _ hc
  have h4 : a % c ≠ 0 := fun z => h1 (h.cop c hc (Int.dvd_of_emod_eq_zero z) (Int.dvd_refl c))
  have hle := h.le
  have hmo := h.most
  refine ⟨⟨by omega, by omega, by omega, h.ec, ?_, fun x hx d1 d2 => h.cop x hx ?_ d1⟩, by omega⟩
  · rw [Int.sub_mul, Int.mul_assoc]
    exact cg_sub h.ea (cg_mul rfl h.ec)
  · have := Int.dvd_add d2 (Int.dvd_mul_of_dvd_right d1 (b := a / c))
    rw [show a - a / c * c + a / c * c = a by omega] at this
    exact this
theorem invF_ok {p r : Int} : ∀ (n : Nat) (a b c d : Int), InvI p r a b c d → c ≤ n → (invF n a b c d * r) % p = 1 % p
  | 0, a, b, c, d, h, hn => by have := h.pos; omega
  | n + 1, a, b, c, d, h, hn => by
    unfold invF
    split
    · rename_i h1
      subst h1
      exact h.ec.symm
    · rename_i h1
      have q := h.next h1
      exact invF_ok n _ _ _ _ q.1 (by omega)
theorem invI_start {p r : Int} (hp : Good p) (h1 : 1 ≤ r) (h2 : r < p) : InvI p r p 0 r 1 := by
  refine ⟨h1, by omega, Int.le_refl p, by simp, by simp, fun e he d1 d2 => ?_⟩
  rcases hp.pr e he d1 with h | h
  · exact h
  · subst h
    have := Int.le_of_dvd (by omega) d2
    omega
theorem inverse_ok {p r : Int} (hp : Good p) (h1 : 1 ≤ r) (h2 : r < p) : (inverse p r * r) % p = 1 := by
  have q := invF_ok p.toNat p 0 r 1 (invI_start hp h1 h2) (by omega)
  unfold inverse
  rw [show (invF p.toNat p 0 r 1 % p * r) % p = (invF p.toNat p 0 r 1 * r) % p from cg_mul mm rfl, q]
  exact Int.emod_eq_of_lt (by omega) (by have := hp.two; omega)
theorem inverse_rs {p r : Int} (hp : Good p) : 0 ≤ inverse p r ∧ inverse p r < p := ⟨Int.emod_nonneg _ (by have := hp.two; omega), Int.emod_lt_of_pos _ hp.pos⟩

/-! ### the shortest rule -/
structure BSt where
  rule : List Int
  shorter : List Int
  place : Int
  miss : Int
def gapAt (p : Int) (row rule : List Int) (n : Nat) : Int := (g row n - due p rule row n) % p
def lenAt (rule : List Int) (n : Nat) : Nat := if n + 1 - rule.length > rule.length then n + 1 - rule.length else rule.length
def restsAt (p : Int) (row : List Int) (s : BSt) (n : Nat) : List Int :=
  takenOff p (turned p s.rule) (turned p s.shorter) (gapAt p row s.rule n * inverse p s.miss % p) ((n : Int) - s.place).toNat (lenAt s.rule n)
def bmStep (p : Int) (row : List Int) (s : BSt) (n : Nat) : BSt :=
  if s.rule.length ≤ n ∧ gapAt p row s.rule n ≠ 0 then
    if lenAt s.rule n > s.rule.length then ⟨toldBack p (restsAt p row s n), s.rule, n, gapAt p row s.rule n⟩
    else ⟨toldBack p (restsAt p row s n), s.shorter, s.place, s.miss⟩
  else s
def bm (p : Int) (row : List Int) : Nat → BSt
  | 0 => ⟨[], [], -1, 1⟩
  | n + 1 => bmStep p row (bm p row n) n
def shortest (p : Int) (row : List Int) : BSt := bm p row row.length

structure BMI (p : Int) (row : List Int) (n : Nat) (s : BSt) : Prop where
  rr : Rs p s.rule
  rsh : Rs p s.shorter
  m1 : 1 ≤ s.miss
  m2 : s.miss < p
  sum : (s.rule.length : Int) + s.shorter.length = s.place + 1
  len : s.rule.length ≤ n
  made : ∀ k, s.rule.length ≤ k → k < n → D (turned p s.rule) row k % p = 0
  shape : (s.place = -1 ∧ s.rule = [] ∧ s.shorter = []) ∨ (∃ q : Nat, s.place = q ∧ q < n ∧ s.shorter.length < s.rule.length ∧ s.shorter.length ≤ q ∧
    (∀ k, s.shorter.length ≤ k → k < q → D (turned p s.shorter) row k % p = 0) ∧ D (turned p s.shorter) row q % p = s.miss)

theorem BMI.start {p : Int} (hp : Good p) (row : List Int) : BMI p row 0 ⟨[], [], -1, 1⟩ :=
  ⟨Rs.nil, Rs.nil, Int.le_refl 1, hp.one, rfl, Nat.le_refl 0, fun k _ h => absurd h (Nat.not_lt_zero k), .inl ⟨rfl, rfl, rfl⟩⟩

theorem gap_D {p : Int} (row rule : List Int) (n : Nat) : gapAt p row rule n = D (turned p rule) row n % p := by
  unfold gapAt; rw [D_turned]

theorem restsAt_len {p : Int} (row : List Int) (s : BSt) (n : Nat) : (restsAt p row s n).length = lenAt s.rule n + 1 := takenOff_len ..

theorem BMI.step {p : Int} (hp : Good p) {row : List Int} {n : Nat} {s : BSt} (h : BMI p row n s) : BMI p row (n + 1) (bmStep p row s n) := by
  have hp0 := hp.pos
  have hp1 := hp.one
  have hsum := h.sum
  have hlen := h.len
  have gap_ge : 0 ≤ gapAt p row s.rule n := Int.emod_nonneg _ (by omega)
  have gap_lt : gapAt p row s.rule n < p := Int.emod_lt_of_pos _ hp0
  unfold bmStep
  by_cases hc : s.rule.length ≤ n ∧ gapAt p row s.rule n ≠ 0
  · rw [if_pos hc]
    obtain ⟨hln, hg⟩ := hc
    -- the place as a natural number plus one
    have hpl : s.place ≥ -1 ∧ s.place < n := by
      rcases h.shape with ⟨e, _, _⟩ | ⟨q, e, hq, _⟩ <;> omega
    obtain ⟨ah, hah⟩ : ∃ ah : Nat, ((n : Int) - s.place).toNat = ah := ⟨_, rfl⟩
    have hah1 : (ah : Int) = n - s.place := by omega
    obtain ⟨len, hl⟩ : ∃ len : Nat, lenAt s.rule n = len := ⟨_, rfl⟩
    have hl1 : s.rule.length ≤ len ∧ n + 1 - s.rule.length ≤ len ∧ (len = s.rule.length ∨ len = n + 1 - s.rule.length) := by
      unfold lenAt at hl
      split at hl <;> omega
    -- the new rests together
    have key : ∀ k, len ≤ k → D (restsAt p row s n) row k % p = (D (turned p s.rule) row k - (gapAt p row s.rule n * inverse p s.miss % p) * D (turned p s.shorter) row (k - ah)) % p := fun k hk => by
      unfold restsAt
      rw [hah, hl]
      exact D_takenOff (by rw [turned_len]; omega) (by rw [turned_len]; omega) hk
    have h0 : g (restsAt p row s n) 0 % p = 1 := by
      unfold restsAt
      rw [hah, hl, takenOff_g (Nat.zero_le _), if_pos (by omega), turned_zero, Int.sub_zero]
      exact Int.emod_eq_of_lt (by omega) (by omega)
    have hrl : (restsAt p row s n).length = len + 1 := by rw [restsAt_len, hl]
    have made' : ∀ k, len ≤ k → k < n + 1 → D (turned p (toldBack p (restsAt p row s n))) row k % p = 0 := fun k hk1 hk2 => by
      rw [turned_toldBack hp1 h0 (by omega), key k hk1]
      rcases h.shape with ⟨e, er, es⟩ | ⟨q, e, hq, hs1, hs2, hs3, hs4⟩
      · -- nothing stood ahead: no such k
        rw [er] at hl1
        simp at hl1
        omega
      · by_cases hkn : k < n
        · have z1 : D (turned p s.rule) row k % p = 0 := h.made k (by omega) hkn
          have z2 : D (turned p s.shorter) row (k - ah) % p = 0 := hs3 _ (by omega) (by omega)
          rw [Int.sub_emod, z1, Int.mul_emod, z2]
          simp
        · have ek : k = n := by omega
          have ek2 : k - ah = q := by omega
          rw [ek2, ek]
          have hq4 : D (turned p s.shorter) row q % p = s.miss % p := by rw [hs4, emod_small ⟨by have := h.m1; omega, h.m2⟩]
          have e1 : (gapAt p row s.rule n * inverse p s.miss % p * D (turned p s.shorter) row q) % p = gapAt p row s.rule n % p := by
            rw [show (gapAt p row s.rule n * inverse p s.miss % p * D (turned p s.shorter) row q) % p = (gapAt p row s.rule n * inverse p s.miss * s.miss) % p from cg_mul mm hq4]
            rw [Int.mul_assoc]
            rw [show (gapAt p row s.rule n * (inverse p s.miss * s.miss)) % p = (gapAt p row s.rule n * 1) % p from cg_mul rfl (by rw [inverse_ok hp h.m1 h.m2]; exact (Int.emod_eq_of_lt (by omega) hp1).symm), Int.mul_one]
          rw [cg_sub (b := gapAt p row s.rule n) (d := gapAt p row s.rule n) (by rw [gap_D, mm]) e1, Int.sub_self]
          simp
    have rlen : (toldBack p (restsAt p row s n)).length = len := by rw [toldBack_len, hrl]; omega
    by_cases hlt : lenAt s.rule n > s.rule.length
    · rw [if_pos hlt]
      rw [hl] at hlt
      refine ⟨toldBack_rs hp0 _, h.rr, by show 1 ≤ gapAt p row s.rule n; omega, gap_lt, ?_, ?_, ?_, .inr ⟨n, rfl, by omega, ?_, hln, fun k h1 h2 => h.made k h1 h2, ?_⟩⟩
      · show ((toldBack p (restsAt p row s n)).length : Int) + s.rule.length = (n : Int) + 1
        rw [rlen]; omega
      · show (toldBack p (restsAt p row s n)).length ≤ n + 1
        rw [rlen]; omega
      · intro k h1 h2
        exact made' k (by rw [← rlen]; exact h1) h2
      · show s.rule.length < (toldBack p (restsAt p row s n)).length
        rw [rlen]; omega
      · exact (gap_D row s.rule n).symm
    · rw [if_neg hlt]
      rw [hl] at hlt
      refine ⟨toldBack_rs hp0 _, h.rsh, h.m1, h.m2, ?_, ?_, ?_, ?_⟩
      · show ((toldBack p (restsAt p row s n)).length : Int) + s.shorter.length = s.place + 1
        rw [rlen]; omega
      · show (toldBack p (restsAt p row s n)).length ≤ n + 1
        rw [rlen]; omega
      · intro k h1 h2
        exact made' k (by rw [← rlen]; exact h1) h2
      · rcases h.shape with ⟨e, er, es⟩ | ⟨q, e, hq, hs1, hs2, hs3, hs4⟩
        · rw [er] at hlt hl1
          simp at hlt hl1
          omega
        · refine .inr ⟨q, e, by omega, ?_, hs2, hs3, hs4⟩
          show s.shorter.length < (toldBack p (restsAt p row s n)).length
          rw [rlen]; omega
  · rw [if_neg hc]
    refine ⟨h.rr, h.rsh, h.m1, h.m2, hsum, by omega, fun k h1 h2 => ?_, ?_⟩
    · by_cases hk : k < n
      · exact h.made k h1 hk
      · have e : k = n := by omega
        rw [e] at h1 ⊢
        have : gapAt p row s.rule n = 0 := Classical.byContradiction fun z => hc ⟨h1, z⟩
        rw [gap_D] at this
        exact this
    · rcases h.shape with q | ⟨q, e, hq, r⟩
      · exact .inl q
      · exact .inr ⟨q, e, by omega, r⟩
theorem bm_ok {p : Int} (hp : Good p) (row : List Int) : ∀ n, BMI p row n (bm p row n)
  | 0 => BMI.start hp row
  | n + 1 => (bm_ok hp row n).step hp

/-! ### whether it is so -/
def isLeast (p : Int) (row rule shorter : List Int) (place : Int) : Bool :=
  if (!(rs p rule) || (!(rs p shorter) || !(makesAll p rule row))) = true then false
  else if decide ((rule.length : Int) = 0) = true then decide ((shorter.length : Int) = 0) && decide (place = -1)
  else if (!(decide ((shorter.length : Int) ≤ place) && decide (place < (row.length : Int))) || (!(decide ((rule.length : Int) + (shorter.length : Int) = place + 1)) || decide ((rule.length : Int) ≤ (shorter.length : Int)))) = true then false
  else makesAll p shorter (row.take place.toNat) && !(decide (g row place.toNat = due p shorter row place.toNat))

theorem due_take {p : Int} {rule row : List Int} {n m : Nat} (h : n ≤ m) (h1 : rule.length ≤ n) : due p rule (row.take m) n = due p rule row n := by
  unfold due
  refine cg_S fun k hk => ?_
  by_cases hm : n - 1 - k < m
  · rw [g_take hm]
  · omega
theorem makes_take {p : Int} {rule row : List Int} {m : Nat} : Makes p rule (row.take m) ↔ ∀ n, rule.length ≤ n → n < m → n < row.length → g row n = due p rule row n := by
  unfold Makes
  constructor
  · intro h n h1 h2 h3
    have := h n h1 (by rw [List.length_take]; omega)
    rw [g_take h2, due_take (by omega) h1] at this
    exact this
  · intro h n h1 h2
    rw [List.length_take] at h2
    rw [g_take (by omega), due_take (by omega) h1]
    exact h n h1 (by omega) (by omega)

/-- as a Prop -/
structure Shown (p : Int) (row rule shorter : List Int) (place : Int) : Prop where
  rr : Rs p rule
  rsh : Rs p shorter
  made : Makes p rule row
  none : rule = [] → shorter = [] ∧ place = -1
  some : rule ≠ [] → ∃ q : Nat, place = q ∧ shorter.length ≤ q ∧ q < row.length ∧ rule.length + shorter.length = q + 1 ∧ shorter.length < rule.length ∧
    (∀ k, shorter.length ≤ k → k < q → g row k = due p shorter row k) ∧ g row q ≠ due p shorter row q
theorem Shown.isLeast {p : Int} {row rule shorter : List Int} {place : Int} (h : Shown p row rule shorter place) : RR.isLeast p row rule shorter place = true := by
  unfold RR.isLeast
  rw [rs_iff.mpr h.rr, rs_iff.mpr h.rsh, makes_iff.mpr h.made]
  simp only [Bool.not_true, Bool.or_self, Bool.false_eq_true, if_false]
  by_cases hr : rule = []
  · obtain ⟨e1, e2⟩ := h.none hr
    rw [hr, e1, e2]
    rfl
  · obtain ⟨q, e, h1, h2, h3, h4, h5, h6⟩ := h.some hr
    have hl : rule.length ≠ 0 := fun z => hr (List.eq_nil_of_length_eq_zero z)
    rw [if_neg (show ¬ (decide ((rule.length : Int) = 0) = true) by simp; exact hr), e]
    rw [decide_eq_true (show (shorter.length : Int) ≤ (q : Int) by omega), decide_eq_true (show (q : Int) < row.length by omega), decide_eq_true (show (rule.length : Int) + shorter.length = (q : Int) + 1 by omega), decide_eq_false (show ¬ (rule.length : Int) ≤ shorter.length by omega)]
    simp only [Int.toNat_natCast, Bool.and_self, Bool.not_true, Bool.or_self, Bool.false_eq_true, if_false]
    rw [makes_iff.mpr (makes_take.mpr fun n a b _ => h5 n a b), decide_eq_false h6]
    rfl

theorem shortest_shown {p : Int} (hp : Good p) {row : List Int} (hrow : Rs p row) : Shown p row (shortest p row).rule (shortest p row).shorter (shortest p row).place := by
  have h : BMI p row row.length (shortest p row) := bm_ok hp row row.length
  refine ⟨h.rr, h.rsh, fun n h1 h2 => (due_iff hp.pos hrow).mpr (h.made n h1 h2), fun e => ?_, fun ne => ?_⟩
  · rcases h.shape with ⟨a, _, b⟩ | ⟨q, _, _, a, _⟩
    · exact ⟨b, a⟩
    · rw [e] at a
      simp at a
  · rcases h.shape with ⟨_, b, _⟩ | ⟨q, e, hq, a, b, c, d⟩
    · exact absurd b ne
    · have hsum := h.sum
      refine ⟨q, e, b, hq, by omega, a, fun k h1 h2 => (due_iff hp.pos hrow).mpr (c k h1 h2), fun z => ?_⟩
      have := (due_iff hp.pos hrow).mp z
      rw [d] at this
      have := h.m1
      omega
theorem shortest_isLeast {p : Int} (hp : Good p) {row : List Int} (hrow : Rs p row) : isLeast p row (shortest p row).rule (shortest p row).shorter (shortest p row).place = true := (shortest_shown hp hrow).isLeast

/-- one rest more: it shows no more -/
theorem more_rule {p : Int} {row rule shorter : List Int} {place x : Int} (h : Shown p row rule shorter place) : isLeast p row (rule ++ [x]) shorter place = false := by
  unfold isLeast
  split
  · rfl
  · rw [if_neg (by simp; omega)]
    rw [if_pos]
    by_cases hr : rule = []
    · obtain ⟨e1, e2⟩ := h.none hr
      rw [hr, e1, e2]
      simp
    · obtain ⟨q, e, h1, h2, h3, _⟩ := h.some hr
      rw [decide_eq_false (show ¬ (((rule ++ [x]).length : Int) + shorter.length = place + 1) by simp; omega)]
      simp
theorem more_shorter {p : Int} {row rule shorter : List Int} {place x : Int} (h : Shown p row rule shorter place) : isLeast p row rule (shorter ++ [x]) place = false := by
  unfold isLeast
  split
  · rfl
  · by_cases hr : rule = []
    · rw [hr]
      simp
      omega
    · have hl : rule.length ≠ 0 := fun z => hr (List.eq_nil_of_length_eq_zero z)
      rw [if_neg (by simp; exact hr)]
      obtain ⟨q, e, h1, h2, h3, _⟩ := h.some hr
      rw [if_pos]
      rw [decide_eq_false (show ¬ ((rule.length : Int) + (shorter ++ [x]).length = place + 1) by simp; omega)]
      simp
/-- while rests are taken off: behind i turns -/
def offStep (p : Int) (one other : List Int) (by_ : Int) (ahead len i : Nat) : List Int :=
  (List.range (len + 1)).map fun j => if ahead ≤ j ∧ j - ahead < i ∧ g other (j - ahead) ≠ 0 then (g one j - by_ * g other (j - ahead)) % p else g one j
theorem offStep_zero {p : Int} {one other : List Int} {by_ : Int} {ahead len : Nat} (h : one.length ≤ len + 1) : one ++ List.replicate (len + 1 - one.length) 0 = offStep p one other by_ ahead len 0 := by
  refine g_ext (by simp [offStep]; omega) fun i hi => ?_
  have hi2 : i < len + 1 := by simp at hi; omega
  unfold offStep
  rw [g_range_map hi2, if_neg (by omega)]
  by_cases h1 : i < one.length
  · rw [g_append_left h1]
  · rw [g_append_right (by omega), g_replicate, g_out (by omega)]
theorem offStep_len (p : Int) (one other : List Int) (by_ : Int) (ahead len i : Nat) : (offStep p one other by_ ahead len i).length = len + 1 := by simp [offStep]
theorem offStep_at {p : Int} {one other : List Int} {by_ : Int} {ahead len i : Nat} (h : i + ahead ≤ len) : g (offStep p one other by_ ahead len i) (i + ahead) = g one (i + ahead) := by
  unfold offStep
  rw [g_range_map (by omega), if_neg (by omega)]
theorem offStep_next {p : Int} {one other : List Int} {by_ : Int} {ahead len i : Nat} (h : i + ahead ≤ len) (h0 : g other i ≠ 0) :
    (offStep p one other by_ ahead len i).set (i + ahead) ((g (offStep p one other by_ ahead len i) (i + ahead) - by_ * g other i) % p) = offStep p one other by_ ahead len (i + 1) := by
  rw [offStep_at h]
  refine g_ext (by simp [offStep]) fun j hj => ?_
  have hj2 : j < len + 1 := by simp [offStep] at hj; omega
  by_cases e : i + ahead = j
  · subst e
    rw [g_set_self (by rw [offStep_len]; omega)]
    unfold offStep
    rw [g_range_map (by omega), show i + ahead - ahead = i by omega, if_pos ⟨by omega, by omega, h0⟩]
  · rw [g_set_ne e]
    unfold offStep
    rw [g_range_map hj2, g_range_map hj2]
    by_cases c : ahead ≤ j ∧ j - ahead < i ∧ g other (j - ahead) ≠ 0
    · rw [if_pos c, if_pos ⟨c.1, by omega, c.2.2⟩]
    · rw [if_neg c, if_neg]
      rintro ⟨c1, c2, c3⟩
      exact c ⟨c1, by omega, c3⟩
theorem offStep_same {p : Int} {one other : List Int} {by_ : Int} {ahead len i : Nat} (h0 : g other i = 0) : offStep p one other by_ ahead len i = offStep p one other by_ ahead len (i + 1) := by
  refine g_ext (by simp [offStep]) fun j hj => ?_
  have hj2 : j < len + 1 := by simp [offStep] at hj; omega
  unfold offStep
  rw [g_range_map hj2, g_range_map hj2]
  by_cases c : ahead ≤ j ∧ j - ahead < i ∧ g other (j - ahead) ≠ 0
  · rw [if_pos c, if_pos ⟨c.1, by omega, c.2.2⟩]
  · rw [if_neg c, if_neg]
    rintro ⟨c1, c2, c3⟩
    by_cases e : j - ahead = i
    · rw [e] at c3
      exact c3 h0
    · exact c ⟨c1, by omega, c3⟩
theorem offStep_end (p : Int) (one other : List Int) (by_ : Int) (ahead len : Nat) : offStep p one other by_ ahead len other.length = takenOff p one other by_ ahead len := rfl
end RR
/-! RrUnlike: the only shortest rule, or another one. -/
namespace RR
/-- another rule of the shortest one's length -/
def otherRests (p : Int) (row : List Int) (s : BSt) : List Int := takenOff p (turned p s.rule) (turned p s.shorter) 1 ((row.length : Int) - s.place).toNat s.rule.length
def otherRule (p : Int) (row : List Int) : List Int := toldBack p (otherRests p row (shortest p row))
theorem otherRule_len (p : Int) (row : List Int) : (otherRule p row).length = (shortest p row).rule.length := by
  unfold otherRule otherRests
  rw [toldBack_len, takenOff_len]
  omega
structure Long (p : Int) (row : List Int) (s : BSt) : Prop where
  q : ∃ q : Nat, s.place = q ∧ q < row.length ∧ s.shorter.length < s.rule.length ∧ s.rule.length + s.shorter.length = q + 1
theorem long_of {p : Int} (hp : Good p) {row : List Int} (h : ¬ 2 * (shortest p row).rule.length ≤ row.length) : Long p row (shortest p row) := by
  have inv : BMI p row row.length (shortest p row) := bm_ok hp row row.length
  have hs := inv.sum
  rcases inv.shape with ⟨_, e, _⟩ | ⟨q, e, hq, a, _⟩
  · rw [e] at h
    simp at h
  · exact ⟨q, e, hq, a, by omega⟩
theorem other_shown {p : Int} (hp : Good p) {row : List Int} (hrow : Rs p row) (h : ¬ 2 * (shortest p row).rule.length ≤ row.length) :
    Shown p row (otherRule p row) (shortest p row).shorter (shortest p row).place ∧ otherRule p row ≠ (shortest p row).rule := by
  have inv : BMI p row row.length (shortest p row) := bm_ok hp row row.length
  have sh := shortest_shown hp hrow
  obtain ⟨q, e, hq, ha, hsum⟩ := long_of hp h
  have hl := otherRule_len p row
  have hp1 := hp.one
  have hne : (shortest p row).rule ≠ [] := fun z => by rw [z] at ha; simp at ha
  obtain ⟨q2, e2, b1, b2, b3, b4, b5, b6⟩ := sh.some hne
  have eq2 : q2 = q := by omega
  subst eq2
  obtain ⟨ah, hah⟩ : ∃ ah : Nat, ((row.length : Int) - (shortest p row).place).toNat = ah := ⟨_, rfl⟩
  have hah1 : ah + q2 = row.length := by omega
  have h0 : g (otherRests p row (shortest p row)) 0 % p = 1 := by
    unfold otherRests
    rw [hah, takenOff_g (Nat.zero_le _), if_pos (by omega), turned_zero, Int.sub_zero]
    exact Int.emod_eq_of_lt (by omega) hp1
  have hrl : (otherRests p row (shortest p row)).length = (shortest p row).rule.length + 1 := takenOff_len ..
  have made : Makes p (otherRule p row) row := fun n h1 h2 => by
    rw [hl] at h1
    refine (due_iff hp.pos hrow).mpr ?_
    unfold otherRule
    rw [turned_toldBack hp1 h0 (by omega)]
    unfold otherRests
    rw [hah, D_takenOff (by rw [turned_len]; omega) (by rw [turned_len]; omega) h1]
    have z1 : D (turned p (shortest p row).rule) row n % p = 0 := inv.made n h1 h2
    have z2 : D (turned p (shortest p row).shorter) row (n - ah) % p = 0 := (due_iff hp.pos hrow).mp (b5 _ (by omega) (by omega))
    rw [Int.one_mul, Int.sub_emod, z1, z2]
    simp
  refine ⟨⟨toldBack_rs hp.pos _, sh.rsh, made, fun z => ?_, fun _ => ?_⟩, fun z => ?_⟩
  · rw [z] at hl
    simp at hl
    exact absurd (List.eq_nil_of_length_eq_zero hl.symm) hne
  · exact ⟨q2, e2, b1, b2, by rw [hl]; exact b3, by rw [hl]; exact b4, b5, b6⟩
  · -- the rest at ah differs by one
    have k1 : g (turned p (otherRule p row)) ah % p = g (turned p (shortest p row).rule) ah % p := by rw [z]
    obtain ⟨k, rfl⟩ : ∃ k, ah = k + 1 := ⟨ah - 1, by omega⟩
    have hk : k < (shortest p row).rule.length := by omega
    have k2 : g (turned p (otherRule p row)) (k + 1) % p = g (otherRests p row (shortest p row)) (k + 1) % p := by
      rw [turned_succ (by rw [hl]; exact hk)]
      unfold otherRule toldBack
      rw [g_map (f := fun r => (-r) % p) (by simp; omega), g_drop, mm, cg_neg (p := p) mm, Int.neg_neg, Nat.add_comm]
    have k3 : g (otherRests p row (shortest p row)) (k + 1) % p = (g (turned p (shortest p row).rule) (k + 1) - 1) % p := by
      unfold otherRests
      rw [hah, takenOff_g (by omega), if_neg (by omega), show k + 1 - (k + 1) = 0 by omega, turned_zero, Int.one_mul]
    rw [k2, k3] at k1
    have k4 := cg_sub k1 (rfl : g (turned p (shortest p row).rule) (k + 1) % p = _)
    rw [show g (turned p (shortest p row).rule) (k + 1) - 1 - g (turned p (shortest p row).rule) (k + 1) = -1 by omega, Int.sub_self] at k4
    have k5 : (-1 + p) % p = 0 := by rw [Int.add_emod_right, k4]; simp
    rw [Int.emod_eq_of_lt (by omega) (by omega)] at k5
    omega
/-- what Another tells -/
def isAnother (p : Int) (row one other shorter : List Int) (place : Int) : Bool :=
  if (!decide ((one.length : Int) = (other.length : Int)) || decide (one = other)) = true then false
  else if (!isLeast p row one shorter place) = true then false
  else isLeast p row other shorter place
def isOnly (p : Int) (row rule shorter : List Int) (place : Int) : Bool := decide (2 * (rule.length : Int) ≤ (row.length : Int)) && isLeast p row rule shorter place
theorem another_ok {p : Int} (hp : Good p) {row : List Int} (hrow : Rs p row) (h : ¬ 2 * (shortest p row).rule.length ≤ row.length) :
    isAnother p row (shortest p row).rule (otherRule p row) (shortest p row).shorter (shortest p row).place = true := by
  obtain ⟨h1, h2⟩ := other_shown hp hrow h
  unfold isAnother
  rw [if_neg, if_neg]
  · exact h1.isLeast
  · rw [shortest_isLeast hp hrow]
    decide
  · rw [otherRule_len, decide_eq_true rfl, decide_eq_false (fun z => h2 z.symm)]
    decide
theorem only_ok {p : Int} (hp : Good p) {row : List Int} (hrow : Rs p row) (h : 2 * (shortest p row).rule.length ≤ row.length) :
    isOnly p row (shortest p row).rule (shortest p row).shorter (shortest p row).place = true := by
  unfold isOnly
  rw [shortest_isLeast hp hrow, decide_eq_true (show 2 * ((shortest p row).rule.length : Int) ≤ row.length by omega)]
  rfl
/-- lengths of what is told -/
theorem shortest_lens {p : Int} (hp : Good p) (row : List Int) : (shortest p row).rule.length ≤ row.length ∧ (shortest p row).shorter.length ≤ row.length ∧ (shortest p row).place ≥ -1 ∧ (shortest p row).place < row.length := by
  have inv : BMI p row row.length (shortest p row) := bm_ok hp row row.length
  have h1 := inv.len
  have hs := inv.sum
  rcases inv.shape with ⟨e0, _, e⟩ | ⟨q, e0, hq, a, _⟩
  · rw [e]
    exact ⟨h1, by simp, by omega, by omega⟩
  · exact ⟨h1, by omega, by omega, by omega⟩
end RR
/-! RrKit: own words over the layer: what expressions evaluate to (more than HandS.Evl has). -/
namespace RK
open PySem L2 Evl RR

/-- a list of numbers, of truths, as it stands -/
abbrev il (ns : List Int) : List V := ns.map V.int
abbrev bls (bs : List Bool) : List V := bs.map V.bl

/-! ### what is known of lists that stand -/
def Has (K : PySem.W.Frag) (H : Hp) (L : List (Addr × List V)) : Prop := ∀ q, q ∈ L → SqL K H q.1 q.2
section
variable {K : PySem.W.Frag} {H H' : Hp} {L : List (Addr × List V)} {a : Addr} {xs : List V}
theorem Has.nil : Has K H [] := fun _ h => by cases h
theorem Has.cons (h : SqL K H a xs) (k : Has K H L) : Has K H ((a, xs) :: L) := fun q hq => by
  cases hq with
  | head => exact h
  | tail _ z => exact k q z
theorem Has.up (k : Has K H L) (e : Ex H H') : Has K H' L := fun q hq => ex_l e (k q hq)
theorem Has.at (k : Has K H L) (h : (a, xs) ∈ L) : SqL K H a xs := k (a, xs) h
theorem tyx_sql (h : SqL K H a xs) : TyX K H (.ref a) (.type "list") := by
  rcases h with (h | ⟨o, h⟩) | ⟨o, its, n, h1, h2, _⟩
  · exact .base (.lst h)
  · exact .base (.frz h)
  · exact .kList h1 h2
end

/-! ### what evaluates to a list that may be read (EvR), written (EvM) -/
def EvR (K : PySem.W.Frag) (te : TE) (σ : L2.St) (H : Hp) (xs : List V) : Prop := ∀ H1, Ex H H1 → ∀ Q : VK, (∀ p H2, Ex H1 H2 → SqL K H2 p xs → Q (.ref p) H2) → te σ H1 Q
def EvM (te : TE) (σ : L2.St) (H : Hp) (xs : List V) : Prop := ∀ H1, Ex H H1 → ∀ Q : VK, (∀ p H2, Ex H1 H2 → H2 p = some (.lst xs) → Q (.ref p) H2) → te σ H1 Q
section
variable {K : PySem.W.Frag} {σ : L2.St} {H H' : Hp} {ta tb tc te tl : TE} {t u : TT} {x y z v : V} {r r' : R2} {xs ys : List V} {a : Addr}
theorem em_of_l (h : EvL te σ H xs) : EvM te σ H xs := fun H1 e Q q => h H1 e Q fun p H2 _ e2 hp => q p H2 e2 hp
theorem er_of_m (h : EvM te σ H xs) : EvR K te σ H xs := fun H1 e Q q => h H1 e Q fun p H2 e2 hp => q p H2 e2 (sq_of hp)
theorem er_of_l (h : EvL te σ H xs) : EvR K te σ H xs := er_of_m (em_of_l h)
theorem em_v (h : Ev te σ H (.ref a)) (hx : H a = some (.lst xs)) : EvM te σ H xs := fun H1 e Q q => h H1 e Q fun H2 e2 => q a H2 e2 (e2 a _ (e a _ hx))
theorem er_v (h : Ev te σ H (.ref a)) (hx : SqL K H a xs) : EvR K te σ H xs := fun H1 e Q q => h H1 e Q fun H2 e2 => q a H2 e2 (ex_l (e.trans e2) hx)
theorem EvR.mono (e : Ex H H') (h : EvR K te σ H xs) : EvR K te σ H' xs := fun H1 a Q q => h H1 (e.trans a) Q q
theorem EvM.mono (e : Ex H H') (h : EvM te σ H xs) : EvM te σ H' xs := fun H1 a Q q => h H1 (e.trans a) Q q
theorem er_is (h : EvR K te σ H xs) (e : xs = ys) : EvR K te σ H ys := e ▸ h
theorem el_is (h : EvL te σ H xs) (e : xs = ys) : EvL te σ H ys := e ▸ h

/-! ### numbers -/
theorem rv_add {i j : Int} : RV (rI0 fun i j => .int (i + j)) (.int i) (.int j) H (.int (i + j)) := rv_I0
theorem rv_sub {i j : Int} : RV (rI0 fun i j => .int (i - j)) (.int i) (.int j) H (.int (i - j)) := rv_I0
theorem rv_lt {i j : Int} : RV (rI0 fun i j => .bl (decide (i < j))) (.int i) (.int j) H (.bl (decide (i < j))) := rv_I0
theorem rv_le {i j : Int} : RV (rI0 fun i j => .bl (decide (i ≤ j))) (.int i) (.int j) H (.bl (decide (i ≤ j))) := rv_I0
theorem rv_gt {i j : Int} : RV (rI0 fun i j => .bl (decide (j < i))) (.int i) (.int j) H (.bl (decide (j < i))) := rv_I0
theorem rv_ge {i j : Int} : RV (rI0 fun i j => .bl (decide (j ≤ i))) (.int i) (.int j) H (.bl (decide (j ≤ i))) := rv_I0
theorem rv_and {i j : Int} : RV (rI0 fun i j => .int (Builtin.bitAnd i j)) (.int i) (.int j) H (.int (Builtin.bitAnd i j)) := rv_I0
theorem rv_mulL {i j : Int} (h : -(2 ^ 64) < i ∧ i < 2 ^ 64) : RV (rI CMul fun i j => .int (i * j)) (.int i) (.int j) H (.int (i * j)) := rv_I (C := CMul) (.inl h)
theorem rv_mulR {i j : Int} (h : -(2 ^ 64) < j ∧ j < 2 ^ 64) : RV (rI CMul fun i j => .int (i * j)) (.int i) (.int j) H (.int (i * j)) := rv_I (C := CMul) (.inr h)
theorem rv_mod {i j : Int} (h : 0 < j) : RV (rI (fun _ j => 0 < j) fun i j => .int (i % j)) (.int i) (.int j) H (.int (i % j)) := rv_I (C := fun _ j => 0 < j) h
theorem rv_div {i j : Int} (h : 0 < j ∧ j < 1073741824) : RV (rI CDiv fun i j => .int (i / j)) (.int i) (.int j) H (.int (i / j)) := rv_I (C := CDiv) h
theorem rv_shr {i j : Int} (h : 0 ≤ j) : RV (rI (fun _ j => 0 ≤ j) fun i j => .int (i / 2 ^ j.toNat)) (.int i) (.int j) H (.int (i / 2 ^ j.toNat)) := rv_I (C := fun _ j => 0 ≤ j) h
theorem rv_pow {i j : Int} (h : 0 ≤ j ∧ j ≤ 1000000 ∧ i.natAbs < 2 ^ 64) : RV (rI CPow fun i j => .int (i ^ j.toNat)) (.int i) (.int j) H (.int (i ^ j.toNat)) := rv_I (C := CPow) h
theorem rv_eqI {i j : Int} : RV rEq (.int i) (.int j) H (.bl (decide (i = j))) := fun H1 e Q q => ⟨rfl, by
  rw [show decide (V.int i = V.int j) = decide (i = j) by by_cases h : i = j <;> simp [h]]
  exact q H1 (Ex.refl H1)⟩
theorem rv_neI {i j : Int} : RV rNe (.int i) (.int j) H (.bl (!decide (i = j))) := fun H1 e Q q => ⟨rfl, by
  rw [show decide (V.int i = V.int j) = decide (i = j) by by_cases h : i = j <;> simp [h]]
  exact q H1 (Ex.refl H1)⟩
theorem rv_eqB {i j : Bool} : RV rEq (.bl i) (.bl j) H (.bl (decide (i = j))) := fun H1 e Q q => ⟨rfl, by
  rw [show decide (V.bl i = V.bl j) = decide (i = j) by by_cases h : i = j <;> simp [h]]
  exact q H1 (Ex.refl H1)⟩
theorem rv_neB {i j : Bool} : RV rNe (.bl i) (.bl j) H (.bl (!decide (i = j))) := fun H1 e Q q => ⟨rfl, by
  rw [show decide (V.bl i = V.bl j) = decide (i = j) by by_cases h : i = j <;> simp [h]]
  exact q H1 (Ex.refl H1)⟩
theorem rv_eqS {i j : Str} : RV rEq (.str i) (.str j) H (.bl (decide (i = j))) := fun H1 e Q q => ⟨rfl, by
  rw [show decide (V.str i = V.str j) = decide (i = j) by by_cases h : i = j <;> simp [h]]
  exact q H1 (Ex.refl H1)⟩
theorem rv_neS {i j : Str} : RV rNe (.str i) (.str j) H (.bl (!decide (i = j))) := fun H1 e Q q => ⟨rfl, by
  rw [show decide (V.str i = V.str j) = decide (i = j) by by_cases h : i = j <;> simp [h]]
  exact q H1 (Ex.refl H1)⟩
theorem rv_isB {i j : Bool} : RV rIsB (.bl i) (.bl j) H (.bl (decide (i = j))) := fun H1 e Q q => ⟨i, j, rfl, rfl, q H1 (Ex.refl H1)⟩
theorem rv_notB {i j : Bool} : RV rNotB (.bl i) (.bl j) H (.bl (!decide (i = j))) := fun H1 e Q q => ⟨i, j, rfl, rfl, q H1 (Ex.refl H1)⟩

/-! ### lists read -/
theorem ev_lenR (h : EvR K te σ H xs) : Ev (tCB (rLenS K) (tCons te tNil)) σ H (.int (xs.length : Int)) := fun H1 e Q q =>
  h H1 e _ fun p H2 e2 hp => ⟨p, xs, rfl, .inl hp, q H2 e2⟩
theorem el_listR (h : EvR K te σ H xs) : EvL (tCB (rListS K) (tCons te tNil)) σ H xs := fun H1 e Q q =>
  h H1 e _ fun p H2 e2 hp => ⟨p, xs, rfl, .inl hp, fun l hl => q l _ (fresh_back e2 hl) (e2.trans (Ex.new hl)) upd_same⟩
theorem ev_sumR {ns : List Int} (h : EvR K te σ H (il ns)) : Ev (tCB (rSum K) (tCons te tNil)) σ H (.int ns.sum) := fun H1 e Q q =>
  h H1 e _ fun p H2 e2 hp => ⟨p, ns, rfl, hp, q H2 e2⟩
theorem ev_allR {bs : List Bool} (h : EvR K te σ H (bls bs)) : Ev (tCB (rAll K) (tCons te tNil)) σ H (.bl (bs.all id)) := fun H1 e Q q =>
  h H1 e _ fun p H2 e2 hp => ⟨p, bs, rfl, hp, q H2 e2⟩
theorem ev_anyR {bs : List Bool} (h : EvR K te σ H (bls bs)) : Ev (tCB (rAny K) (tCons te tNil)) σ H (.bl (bs.any id)) := fun H1 e Q q =>
  h H1 e _ fun p H2 e2 hp => ⟨p, bs, rfl, hp, q H2 e2⟩
theorem g_at {ns : List Int} {i : Int} (h : 0 ≤ i ∧ i < ns.length) : atI (il ns) i = some (.int (g ns i.toNat)) := by
  have e : i = (i.toNat : Int) := by omega
  rw [e]
  refine atI_nat ?_
  show (ns.map V.int)[((i.toNat : Nat) : Int).toNat]? = _
  rw [List.getElem?_map]
  rw [show ((i.toNat : Nat) : Int).toNat = i.toNat from rfl, g_in (by omega)]
  rfl
theorem ev_ixR {i : Int} (h : EvR K ta σ H xs) (hi : Ev tb σ H (.int i)) (hv : atI xs i = some v) : Ev (tOp (rIxL K) ta tb) σ H v := fun H1 e Q q =>
  h H1 e _ fun p H2 e2 hp => hi H2 (e.trans e2) _ fun H3 e3 => ⟨p, xs, i, v, rfl, rfl, ex_l e3 hp, hv, q H3 (e2.trans e3)⟩
theorem ev_ixI {ns : List Int} {i : Int} (h : EvR K ta σ H (il ns)) (hi : Ev tb σ H (.int i)) (hv : 0 ≤ i ∧ i < ns.length) : Ev (tOp (rIxL K) ta tb) σ H (.int (g ns i.toNat)) := ev_ixR h hi (g_at hv)
/-- a place of a written tuple -/
theorem ev_ixU {i : Int} (h : EvU ta σ H xs) (hi : Ev tb σ H (.int i)) (hv : atI xs i = some v) : Ev (tOp (rIxT K) ta tb) σ H v := fun H1 e Q q =>
  h H1 e _ fun p H2 _ e2 hp => hi H2 (e.trans e2) _ fun H3 e3 => ⟨p, xs, i, v, rfl, rfl, ex_t e3 (st_of hp), hv, q H3 (e2.trans e3)⟩
theorem ev_ixTv {i : Int} {a : Addr} (h : Ev ta σ H (.ref a)) (ht : SqT K H a xs) (hi : Ev tb σ H (.int i)) (hv : atI xs i = some v) : Ev (tOp (rIxT K) ta tb) σ H v := ev_op h hi (rv_ixT ht hv)
theorem el_slR {tl' th : TO} {lo hi : Option Int} (h : EvR K te σ H xs) (h1 : EvO tl' σ H lo) (h2 : EvO th σ H hi) : EvL (tSl (rSlL K) te tl' th) σ H (cutV xs lo hi) := fun H1 e _ q =>
  h H1 e _ fun p H2 e2 hp => h1 H2 (e.trans e2) _ fun H3 e3 => h2 H3 ((e.trans e2).trans e3) _ fun H4 e4 =>
    ⟨p, xs, rfl, ex_l (e3.trans e4) hp, fun l hl => q l _ (fresh_back ((e2.trans e3).trans e4) hl) (((e2.trans e3).trans e4).trans (Ex.new hl)) upd_same⟩
theorem el_revR (h : EvR K te σ H xs) : EvL (tRevL K te) σ H xs.reverse := fun H1 e _ q =>
  h H1 e _ fun p H2 e2 hp => ⟨p, xs, rfl, hp, fun l hl => q l _ (fresh_back e2 hl) (e2.trans (Ex.new hl)) upd_same⟩
theorem el_cat (ha : EvM ta σ H xs) (hb : EvM tb σ H ys) (hz : xs.length + ys.length ≤ 100000) : EvL (tOp rCat ta tb) σ H (xs ++ ys) := fun H1 e _ q =>
  ha H1 e _ fun p H2 e2 hp => hb H2 (e.trans e2) _ fun p2 H3 e3 hp2 => ⟨p, p2, xs, ys, rfl, rfl, e3 p _ hp, hp2, sz_of hz, fun l hl => q l _ (fresh_back (e2.trans e3) hl) ((e2.trans e3).trans (Ex.new hl)) upd_same⟩
theorem el_rep {k : Int} (ha : EvM ta σ H [v]) (hb : Ev tb σ H (.int k)) (hz : -100000 ≤ k ∧ k ≤ 100000) : EvL (tOp rRep ta tb) σ H (List.replicate k.toNat v) := fun H1 e _ q =>
  ha H1 e _ fun p H2 e2 hp => hb H2 (e.trans e2) _ fun H3 e3 => ⟨p, k, [v], rfl, rfl, e3 p _ hp, by omega, by omega, sz_of (by simp; omega), fun l hl => by
    refine q l _ (fresh_back (e2.trans e3) hl) ((e2.trans e3).trans (Ex.new hl)) ?_
    rw [upd_same]
    congr 2
    have : ∀ n : Nat, (List.replicate n [v]).flatten = List.replicate n v := fun n => by
      induction n with
      | zero => rfl
      | succ n ih => rw [List.replicate_succ, List.flatten_cons, ih, List.replicate_succ]; rfl
    exact this _⟩
theorem el_nil : EvL (tLst tNil) σ H [] := el_lst ea_nil (by simp)

/-! ### == of data -/
mutual
/-- data without dicts, texts of any size -/
def okD : PyData → Bool
  | .none | .bool _ | .int _ => true
  | .str _ => false
  | .list xs | .tuple xs => okDs xs
  | .dict _ => false
def okDs : List PyData → Bool
  | [] => true
  | x :: xs => okD x && okDs xs
end
theorem canLay_ints : ∀ ns : List Int, PyData.canLayAll0 (ns.map PyData.int) = true
  | [] => rfl
  | n :: ns => by
    show (PyData.canLay0 (.int n) && PyData.canLayAll0 (ns.map PyData.int)) = true
    rw [canLay_ints ns]
    rfl
theorem depth_ints : ∀ ns : List Int, PyData.depthAll (ns.map PyData.int) = 0
  | [] => rfl
  | n :: ns => by
    show max (PyData.depth (.int n)) (PyData.depthAll (ns.map PyData.int)) = 0
    rw [depth_ints ns]
    rfl
theorem canLay_bools : ∀ ns : List Bool, PyData.canLayAll0 (ns.map PyData.bool) = true
  | [] => rfl
  | n :: ns => by
    show (PyData.canLay0 (.bool n) && PyData.canLayAll0 (ns.map PyData.bool)) = true
    rw [canLay_bools ns]
    rfl
theorem depth_bools : ∀ ns : List Bool, PyData.depthAll (ns.map PyData.bool) = 0
  | [] => rfl
  | n :: ns => by
    show max (PyData.depth (.bool n)) (PyData.depthAll (ns.map PyData.bool)) = 0
    rw [depth_bools ns]
    rfl
theorem shaped_ints (ns : List Int) : SeqAt.shaped (.list (ns.map PyData.int)) = true := by
  show (PyData.canLayAll0 (ns.map PyData.int) && decide (PyData.depthAll (ns.map PyData.int) + 1 ≤ 64)) = true
  rw [canLay_ints, depth_ints]
  rfl
theorem shaped_bools (ns : List Bool) : SeqAt.shaped (.list (ns.map PyData.bool)) = true := by
  show (PyData.canLayAll0 (ns.map PyData.bool) && decide (PyData.depthAll (ns.map PyData.bool) + 1 ≤ 64)) = true
  rw [canLay_bools, depth_bools]
  rfl
theorem eqv_ints : ∀ xs ys : List Int, PyData.eqvAll (xs.map PyData.int) (ys.map PyData.int) = decide (xs = ys)
  | [], [] => rfl
  | [], _ :: _ => rfl
  | _ :: _, [] => rfl
  | x :: xs, y :: ys => by
    show ((x == y) && PyData.eqvAll (xs.map PyData.int) (ys.map PyData.int)) = _
    rw [eqv_ints xs ys]
    by_cases h : x = y <;> by_cases h2 : xs = ys <;> simp [h, h2]
theorem eqv_bools : ∀ xs ys : List Bool, PyData.eqvAll (xs.map PyData.bool) (ys.map PyData.bool) = decide (xs = ys)
  | [], [] => rfl
  | [], _ :: _ => rfl
  | _ :: _, [] => rfl
  | x :: xs, y :: ys => by
    show ((x == y) && PyData.eqvAll (xs.map PyData.bool) (ys.map PyData.bool)) = _
    rw [eqv_bools xs ys]
    by_cases h : x = y <;> by_cases h2 : xs = ys <;> simp [h, h2]
theorem dpAll_ints {K : PySem.W.Frag} {H : Hp} : ∀ ns : List Int, DpAll K H (ns.map V.int) (ns.map PyData.int)
  | [] => .nil
  | n :: ns => .cons (.int n) (dpAll_ints ns)
theorem dpAll_bools {K : PySem.W.Frag} {H : Hp} : ∀ ns : List Bool, DpAll K H (ns.map V.bl) (ns.map PyData.bool)
  | [] => .nil
  | n :: ns => .cons (.bl n) (dpAll_bools ns)
theorem dp_ints {a : Addr} {ns : List Int} (h : SqL K H a (il ns)) : Dp K H (.ref a) (.list (ns.map PyData.int)) := .lst h (dpAll_ints ns)
theorem dp_bools {a : Addr} {ns : List Bool} (h : SqL K H a (bls ns)) : Dp K H (.ref a) (.list (ns.map PyData.bool)) := .lst h (dpAll_bools ns)
theorem ev_eqL {ms ns : List Int} (ha : EvR K ta σ H (il ms)) (hb : EvR K tb σ H (il ns)) : Ev (tOp (rEqD K) ta tb) σ H (.bl (decide (ms = ns))) := fun H1 e Q q =>
  ha H1 e _ fun p H2 e2 hp => hb H2 (e.trans e2) _ fun p2 H3 e3 hp2 => ⟨_, _, dp_ints (ex_l e3 hp), dp_ints hp2, shaped_ints _, shaped_ints _, by
    show Q (.bl (PyData.eqvAll _ _)) H3
    rw [eqv_ints]
    exact q H3 (e2.trans e3)⟩
theorem ev_neL {ms ns : List Int} (ha : EvR K ta σ H (il ms)) (hb : EvR K tb σ H (il ns)) : Ev (tOp (rNeD K) ta tb) σ H (.bl (!decide (ms = ns))) := fun H1 e Q q =>
  ha H1 e _ fun p H2 e2 hp => hb H2 (e.trans e2) _ fun p2 H3 e3 hp2 => ⟨_, _, dp_ints (ex_l e3 hp), dp_ints hp2, shaped_ints _, shaped_ints _, by
    show Q (.bl (!(PyData.eqvAll _ _))) H3
    rw [eqv_ints]
    exact q H3 (e2.trans e3)⟩
theorem ev_eqBs {ms ns : List Bool} (ha : EvR K ta σ H (bls ms)) (hb : EvR K tb σ H (bls ns)) : Ev (tOp (rEqD K) ta tb) σ H (.bl (decide (ms = ns))) := fun H1 e Q q =>
  ha H1 e _ fun p H2 e2 hp => hb H2 (e.trans e2) _ fun p2 H3 e3 hp2 => ⟨_, _, dp_bools (ex_l e3 hp), dp_bools hp2, shaped_bools _, shaped_bools _, by
    show Q (.bl (PyData.eqvAll _ _)) H3
    rw [eqv_bools]
    exact q H3 (e2.trans e3)⟩

/-! ### a < b < c; isinstance; a field -/
theorem ev_chain {b c : Bool} (ha : Ev ta σ H x) (hb : Ev tb σ H y) (h1 : RV r x y H (.bl b)) (hc : b = true → Ev tc σ H z) (h2 : b = true → RV r' y z H (.bl c)) : Ev (tChain r r' ta tb tc) σ H (.bl (b && c)) := fun H1 e Q q =>
  ha H1 e _ fun H2 e2 => hb H2 (e.trans e2) _ fun H3 e3 => h1 H3 ((e.trans e2).trans e3) _ fun H4 e4 => ⟨b, rfl, by
    have E : Ex H H4 := ((e.trans e2).trans e3).trans e4
    have E1 : Ex H1 H4 := (e2.trans e3).trans e4
    cases b with
    | true =>
      show tc σ H4 _
      exact hc rfl H4 E _ fun H5 e5 => h2 rfl H5 (E.trans e5) Q fun H6 e6 => q H6 ((E1.trans e5).trans e6)
    | false =>
      show Q (.bl false) H4
      exact q H4 E1⟩
theorem ev_isi {b : Bool} {t' : Value} {n : String} (ha : Ev ta σ H x) (hx : TyX K H x t') (hk : PySem.W.kitOne K t' (.type n) = some b) (hty : ∀ {H1 : Hp}, Ex H H1 → TyX K H1 x t') : Ev (tCB (rIsi K) (tCons ta (tCons (tC (.ty n)) tNil))) σ H (.bl b) := fun H1 e Q q =>
  ha H1 e _ fun H2 e2 => ⟨x, .ty n, t', .type n, b, rfl, .ty n, hty (e.trans e2), hk, q H2 e2⟩
theorem ev_isiInt {b : Bool} {i : Int} {n : String} (ha : Ev ta σ H (.int i)) (hk : PySem.W.kitOne K (.type "int") (.type n) = some b) : Ev (tCB (rIsi K) (tCons ta (tCons (tC (.ty n)) tNil))) σ H (.bl b) :=
  ev_isi ha (.base (.int i)) hk fun _ => .base (.int i)
theorem ev_isiBl {b : Bool} {i : Bool} {n : String} (ha : Ev ta σ H (.bl i)) (hk : PySem.W.kitOne K (.type "bool") (.type n) = some b) : Ev (tCB (rIsi K) (tCons ta (tCons (tC (.ty n)) tNil))) σ H (.bl b) :=
  ev_isi ha (.base (.bl i)) hk fun _ => .base (.bl i)
theorem ev_isiL {b : Bool} {n : String} (ha : EvR K ta σ H xs) (hk : PySem.W.kitOne K (.type "list") (.type n) = some b) : Ev (tCB (rIsi K) (tCons ta (tCons (tC (.ty n)) tNil))) σ H (.bl b) := fun H1 e Q q =>
  ha H1 e _ fun p H2 e2 hp => ⟨.ref p, .ty n, .type "list", .type n, b, rfl, .ty n, tyx_sql hp, hk, q H2 e2⟩
theorem ev_fld {C dx : Addr} {fs : List (Str × V)} {f : Str} (ha : Ev ta σ H (.ref a)) (hi : H a = some (.ins C dx fs)) (cl : Cls K C) (na : NoAttr K C f) (hl : fs.lookup f = some v) : Ev (tFld K ta f) σ H v := fun H1 e Q q =>
  ha H1 e _ fun H2 e2 => ⟨a, C, dx, fs, v, rfl, e2 a _ (e a _ hi), cl, na, hl, q H2 e2⟩

/-! ### arguments -/
/-- an argument as it is wanted: a value; a list that is read; a list that may be written -/
inductive Ag where
  | v (x : V)
  | l (xs : List V)
  | m (xs : List V)
def AgOk (K : PySem.W.Frag) (H : Hp) : Ag → V → Prop
  | .v x, y => y = x
  | .l xs, y => ∃ p, y = .ref p ∧ SqL K H p xs
  | .m xs, y => ∃ p, y = .ref p ∧ H p = some (.lst xs)
def AgsOk (K : PySem.W.Frag) (H : Hp) : List Ag → List V → Prop
  | [], vs => vs = []
  | g :: gs, vs => ∃ y ys, vs = y :: ys ∧ AgOk K H g y ∧ AgsOk K H gs ys
theorem AgOk.up {g : Ag} {y : V} (h : AgOk K H g y) (e : Ex H H') : AgOk K H' g y := by
  cases g with
  | v x => exact h
  | l xs => obtain ⟨p, h1, h2⟩ := h; exact ⟨p, h1, ex_l e h2⟩
  | m xs => obtain ⟨p, h1, h2⟩ := h; exact ⟨p, h1, e _ _ h2⟩
theorem AgsOk.up : ∀ {gs : List Ag} {vs : List V}, AgsOk K H gs vs → Ex H H' → AgsOk K H' gs vs
  | [], _, h, _ => h
  | _ :: _, _, ⟨y, ys, h1, h2, h3⟩, e => ⟨y, ys, h1, h2.up e, AgsOk.up h3 e⟩
theorem AgsOk.len : ∀ {gs : List Ag} {vs : List V}, AgsOk K H gs vs → vs.length = gs.length
  | [], _, h => by rw [show _ = [] from h]; rfl
  | _ :: _, _, ⟨y, ys, h1, h2, h3⟩ => by rw [h1, List.length_cons, List.length_cons, AgsOk.len h3]
def EvAs (K : PySem.W.Frag) (ta : TA) (σ : L2.St) (H : Hp) (gs : List Ag) : Prop := ∀ H1, Ex H H1 → ∀ Q : List V → Hp → Prop, (∀ vs H2, Ex H1 H2 → AgsOk K H2 gs vs → Q vs H2) → ta σ H1 Q
theorem eas_nil : EvAs K tNil σ H [] := fun H1 _ _ q => q [] H1 (Ex.refl H1) rfl
theorem eas_v {tr : TA} {gs : List Ag} (h : Ev te σ H x) (hr : EvAs K tr σ H gs) : EvAs K (tCons te tr) σ H (.v x :: gs) := fun H1 e Q q =>
  h H1 e _ fun H2 e2 => hr H2 (e.trans e2) _ fun vs H3 e3 ok => q (x :: vs) H3 (e2.trans e3) ⟨x, vs, rfl, rfl, ok⟩
theorem eas_l {tr : TA} {gs : List Ag} (h : EvR K te σ H xs) (hr : EvAs K tr σ H gs) : EvAs K (tCons te tr) σ H (.l xs :: gs) := fun H1 e Q q =>
  h H1 e _ fun p H2 e2 hp => hr H2 (e.trans e2) _ fun vs H3 e3 ok => q (.ref p :: vs) H3 (e2.trans e3) ⟨.ref p, vs, rfl, ⟨p, rfl, ex_l e3 hp⟩, ok⟩
theorem eas_m {tr : TA} {gs : List Ag} (h : EvM te σ H xs) (hr : EvAs K tr σ H gs) : EvAs K (tCons te tr) σ H (.m xs :: gs) := fun H1 e Q q =>
  h H1 e _ fun p H2 e2 hp => hr H2 (e.trans e2) _ fun vs H3 e3 ok => q (.ref p :: vs) H3 (e2.trans e3) ⟨.ref p, vs, rfl, ⟨p, rfl, e3 p _ hp⟩, ok⟩

/-! ### promises: a value back, a new list back -/
/-- α what the promise is about; args its arguments; pre what must hold; res what comes back -/
def spV (K : PySem.W.Frag) {α : Type} (args : α → List Ag) (pre : α → Prop) (res : α → V) : Sp := fun vs H Q _ => ∃ a, AgsOk K H (args a) vs ∧ pre a ∧ RetV (res a) H Q
def spL (K : PySem.W.Frag) {α : Type} (args : α → List Ag) (pre : α → Prop) (res : α → List V) : Sp := fun vs H Q _ => ∃ a, AgsOk K H (args a) vs ∧ pre a ∧ RetL (res a) H Q
theorem ev_callV {α : Type} {args : α → List Ag} {pre : α → Prop} {res : α → V} {E : XK} {ta : TA} (a : α) (h : EvAs K ta σ H (args a)) (hp : pre a) : Ev (tCall (spV K args pre res) [] E ta) σ H (res a) := fun H1 e Q q =>
  h H1 e _ fun vs H2 e2 ok => ⟨a, by rw [List.append_nil]; exact ok, hp, fun H3 e3 => q H3 (e2.trans e3)⟩
theorem el_callL {α : Type} {args : α → List Ag} {pre : α → Prop} {res : α → List V} {E : XK} {ta : TA} (a : α) (h : EvAs K ta σ H (args a)) (hp : pre a) : EvL (tCall (spL K args pre res) [] E ta) σ H (res a) := fun H1 e Q q =>
  h H1 e _ fun vs H2 e2 ok => ⟨a, by rw [List.append_nil]; exact ok, hp, fun p H3 hn e3 h3 => q p H3 (fresh_back e2 hn) (e2.trans e3) h3⟩

/-! ### comprehensions -/
theorem given_all (n : Nat) (v : Nat → V) : given n (fun _ => true) v = (List.range n).map v := by
  unfold given
  rw [List.filter_eq_self.mpr (fun _ _ => rfl)]
/-- over a list of numbers -/
theorem el_lcI {ns : List Int} {j : Nat} {vs : List Nat} (f : Int → V) (h : EvR K tl σ H (il ns)) (hz : ns.length ≤ 40000) (hw : ∀ x, wipe ((wipe σ vs).set j (some x)) vs = wipe σ vs)
    (he : ∀ x H1, Ex H H1 → x ∈ ns → Ev te ((wipe σ vs).set j (some (.int x))) H1 (f x)) : EvL (tLc (iList K tl) (gName j) tYes te vs) σ H (ns.map f) := fun H0 e Q q => h H0 e _ fun a H1 e1 hx => ⟨a, rfl, ⟨_, hx⟩, fun Dl hD =>
  lc_list (xs := il ns) (Cw H1 (fun _ => true) (fun i => f (g ns i)) Dl) ⟨hD, Ex.new hD, upd_same⟩ (fun i H' _ p => ex_l p.2.1 hx) (fun i x H' hi p => by
      have hi2 : i < ns.length := by
        have := (List.getElem?_eq_some_iff.mp hi).1
        rw [List.length_map] at this
        exact this
      have ex : x = .int (g ns i) := by
        rw [List.getElem?_map, g_in hi2] at hi
        exact (Option.some.inj hi).symm
      subst ex
      exact ⟨hw _, cw_turn p (by omega) (fun H2 _ Q q => q H2 (Ex.refl H2)) (fun _ => he _ H1 (e.trans e1) (g_mem hi2))⟩) (fun H' p => q Dl H' (fresh_back e1 p.1) (e1.trans p.2.1) (by
      have := p.2.2
      rw [given_all, List.length_map] at this
      rw [this]
      congr 2
      apply List.ext_getElem?
      intro i
      rw [List.getElem?_map, List.getElem?_map]
      by_cases hi : i < ns.length
      · rw [List.getElem?_range hi, g_in hi]
        rfl
      · rw [List.getElem?_eq_none (by simp; omega), List.getElem?_eq_none (by omega)]
        rfl))⟩
/-- over enumerate of a list of numbers -/
theorem el_lcE {ns : List Int} {j l : Nat} {vs : List Nat} (f : Nat → V) (h : EvR K tl σ H (il ns)) (hz : ns.length ≤ 40000) (hw : ∀ x y, wipe (((wipe σ vs).set j (some x)).set l (some y)) vs = wipe σ vs)
    (he : ∀ (i : Nat) H1, Ex H H1 → i < ns.length → Ev te (((wipe σ vs).set j (some (.int i))).set l (some (.int (g ns i)))) H1 (f i)) :
    EvL (tLc (iEnum K (tCons tl tNil)) (gTup K 2 (gCons (gName j) (gCons (gName l) gNil))) tYes te vs) σ H ((List.range ns.length).map f) := fun H0 e Q q => h H0 e _ fun a H1 e1 hx => ⟨a, _, rfl, hx, fun Dl hD =>
  lc_it (walk_enum (xs := il ns)) (Cw H1 (fun _ => true) f Dl) ⟨hD, Ex.new hD, upd_same⟩ (fun i H' _ p => ex_l p.2.1 hx) (fun i x H2 H' hi p y => by
      rw [List.length_map] at hi
      obtain ⟨T, x1, x2, rfl, hT, rfl, e3, e4⟩ := y
      have ex1 : x1 = .int (i : Int) := (Option.some.inj e3).symm
      have ex2 : x2 = .int (g ns i) := by
        have e4 : (ns.map V.int)[i]? = some x2 := e4
        rw [List.getElem?_map, g_in hi] at e4
        exact (Option.some.inj e4).symm
      subst ex1 ex2
      refine ⟨T, _, rfl, st_of upd_same, rfl, _, _, rfl, _, _, rfl, rfl, hw _ _, ?_⟩
      have hDT : Dl ≠ T := ne_of_none p.2.2 hT
      have p' : Cw H1 (fun _ => true) f Dl i (upd H2 T (.tup [.int (i : Int), .int (g ns i)])) := ⟨p.1, p.2.1.trans (Ex.new hT), by rw [upd_ne hDT]; exact p.2.2⟩
      exact cw_turn p' (by omega) (fun H2 _ Q q => q H2 (Ex.refl H2)) (fun _ => he i H1 (e.trans e1) hi)) (fun H' p => q Dl H' (fresh_back e1 p.1) (e1.trans p.2.1) (by
      have := p.2.2
      rw [given_all, List.length_map] at this
      exact this))⟩
/-- over range(n) -/
theorem el_lcN {ta' : TA} {j : Nat} {vs : List Nat} {n : Int} (v : Nat → V) (h : EvA ta' σ H [.int n]) (hn : -40000 ≤ n ∧ n ≤ 40000) (hw : ∀ x, wipe ((wipe σ vs).set j (some x)) vs = wipe σ vs)
    (he : ∀ (i : Nat) H1, Ex H H1 → (i : Int) < n → Ev te ((wipe σ vs).set j (some (.int (i : Int)))) H1 (v i)) : EvL (tLc (iRng1 ta') (gName j) tYes te vs) σ H ((List.range n.toNat).map v) := fun H0 e Q q => h H0 e _ fun H1 e1 => ⟨n, rfl, by omega, by omega, fun Dl hD =>
  lc_range (lo := 0) (n := n.toNat) (Cw H1 (fun _ => true) v Dl) ⟨hD, Ex.new hD, upd_same⟩ (fun i H' hi p => by
    have e0 : (0 : Int) + (i : Int) = (i : Int) := Int.zero_add _
    rw [e0]
    exact ⟨hw _, cw_turn p (by omega) (fun H2 _ Q q => q H2 (Ex.refl H2)) (fun _ => he i H1 (e.trans e1) (by omega))⟩) (fun H' p => q Dl H' (fresh_back e1 p.1) (e1.trans p.2.1) (by rw [p.2.2, given_all]))⟩
/-- over range(lo, hi), an if -/
theorem el_lcR {ta' : TA} {j : Nat} {vs : List Nat} {lo hi : Int} (f : Nat → Bool) (v : Nat → V) (h : EvA ta' σ H [.int lo, .int hi]) (hn : -40000 ≤ lo ∧ lo ≤ 40000 ∧ -40000 ≤ hi ∧ hi ≤ 40000) (hz : (hi - lo).toNat ≤ 40000) (hw : ∀ x, wipe ((wipe σ vs).set j (some x)) vs = wipe σ vs)
    (ht : ∀ (i : Nat) H1, Ex H H1 → lo + (i : Int) < hi → EvT t ((wipe σ vs).set j (some (.int (lo + i)))) H1 (f i))
    (he : ∀ (i : Nat) H1, Ex H H1 → lo + (i : Int) < hi → f i = true → Ev te ((wipe σ vs).set j (some (.int (lo + (i : Int))))) H1 (v i)) : EvL (tLc (iRng2 ta') (gName j) t te vs) σ H (given (hi - lo).toNat f v) := fun H0 e Q q => h H0 e _ fun H1 e1 => ⟨lo, hi, rfl, ⟨by omega, by omega, by omega, by omega⟩, fun Dl hD =>
  lc_range (lo := lo) (n := (hi - lo).toNat) (Cw H1 f v Dl) ⟨hD, Ex.new hD, upd_same⟩ (fun i H' hi p => 
    ⟨hw _, cw_turn p (by omega) (ht i H1 (e.trans e1) (by omega)) (fun hf => he i H1 (e.trans e1) (by omega) hf)⟩) (fun H' p => q Dl H' (fresh_back e1 p.1) (e1.trans p.2.1) p.2.2)⟩
theorem et_yes : EvT tYes σ H true := fun H1 _ _ q => q H1 (Ex.refl H1)
/-- over range(lo, hi) -/
theorem el_lcRy {ta' : TA} {j : Nat} {vs : List Nat} {lo hi : Int} (v : Nat → V) (h : EvA ta' σ H [.int lo, .int hi]) (hn : -40000 ≤ lo ∧ lo ≤ 40000 ∧ -40000 ≤ hi ∧ hi ≤ 40000) (hz : (hi - lo).toNat ≤ 40000) (hw : ∀ x, wipe ((wipe σ vs).set j (some x)) vs = wipe σ vs)
    (he : ∀ (i : Nat) H1, Ex H H1 → lo + (i : Int) < hi → Ev te ((wipe σ vs).set j (some (.int (lo + (i : Int))))) H1 (v i)) : EvL (tLc (iRng2 ta') (gName j) tYes te vs) σ H ((List.range (hi - lo).toNat).map v) :=
  el_is (el_lcR (fun _ => true) v h hn hz hw (fun _ _ _ _ => et_yes) (fun i H1 e hi _ => he i H1 e hi)) (given_all _ _)
end
/-! ### the same, operand by operand -/
section
variable {K : PySem.W.Frag} {σ : L2.St} {H H' : Hp} {ta tb tc te tl : TE} {t u : TT} {x y z v : V} {xs ys : List V} {i j : Int} {a : Addr}
theorem ev_add (ha : Ev ta σ H (.int i)) (hb : Ev tb σ H (.int j)) : Ev (tOp (rI0 fun i j => .int (i + j)) ta tb) σ H (.int (i + j)) := ev_op ha hb rv_add
theorem ev_sub (ha : Ev ta σ H (.int i)) (hb : Ev tb σ H (.int j)) : Ev (tOp (rI0 fun i j => .int (i - j)) ta tb) σ H (.int (i - j)) := ev_op ha hb rv_sub
theorem ev_band (ha : Ev ta σ H (.int i)) (hb : Ev tb σ H (.int j)) : Ev (tOp (rI0 fun i j => .int (Builtin.bitAnd i j)) ta tb) σ H (.int (Builtin.bitAnd i j)) := ev_op ha hb rv_and
theorem ev_mul (ha : Ev ta σ H (.int i)) (hb : Ev tb σ H (.int j)) (hc : (-(2 ^ 64) < i ∧ i < 2 ^ 64) ∨ (-(2 ^ 64) < j ∧ j < 2 ^ 64)) : Ev (tOp (rI CMul fun i j => .int (i * j)) ta tb) σ H (.int (i * j)) := ev_op ha hb (rv_I (C := CMul) hc)
theorem ev_mod (ha : Ev ta σ H (.int i)) (hb : Ev tb σ H (.int j)) (hc : 0 < j) : Ev (tOp (rI (fun _ j => 0 < j) fun i j => .int (i % j)) ta tb) σ H (.int (i % j)) := ev_op ha hb (rv_mod hc)
theorem ev_div (ha : Ev ta σ H (.int i)) (hb : Ev tb σ H (.int j)) (hc : 0 < j ∧ j < 1073741824) : Ev (tOp (rI CDiv fun i j => .int (i / j)) ta tb) σ H (.int (i / j)) := ev_op ha hb (rv_div hc)
theorem ev_shr (ha : Ev ta σ H (.int i)) (hb : Ev tb σ H (.int j)) (hc : 0 ≤ j) : Ev (tOp (rI (fun _ j => 0 ≤ j) fun i j => .int (i / 2 ^ j.toNat)) ta tb) σ H (.int (i / 2 ^ j.toNat)) := ev_op ha hb (rv_shr hc)
theorem ev_pow (ha : Ev ta σ H (.int i)) (hb : Ev tb σ H (.int j)) (hc : 0 ≤ j ∧ j ≤ 1000000 ∧ i.natAbs < 2 ^ 64) : Ev (tOp (rI CPow fun i j => .int (i ^ j.toNat)) ta tb) σ H (.int (i ^ j.toNat)) := ev_op ha hb (rv_pow hc)
theorem ev_lt (ha : Ev ta σ H (.int i)) (hb : Ev tb σ H (.int j)) : Ev (tOp (rI0 fun i j => .bl (decide (i < j))) ta tb) σ H (.bl (decide (i < j))) := ev_op ha hb rv_lt
theorem ev_le (ha : Ev ta σ H (.int i)) (hb : Ev tb σ H (.int j)) : Ev (tOp (rI0 fun i j => .bl (decide (i ≤ j))) ta tb) σ H (.bl (decide (i ≤ j))) := ev_op ha hb rv_le
theorem ev_gt (ha : Ev ta σ H (.int i)) (hb : Ev tb σ H (.int j)) : Ev (tOp (rI0 fun i j => .bl (decide (j < i))) ta tb) σ H (.bl (decide (j < i))) := ev_op ha hb rv_gt
theorem ev_ge (ha : Ev ta σ H (.int i)) (hb : Ev tb σ H (.int j)) : Ev (tOp (rI0 fun i j => .bl (decide (j ≤ i))) ta tb) σ H (.bl (decide (j ≤ i))) := ev_op ha hb rv_ge
theorem ev_neg (ha : Ev ta σ H (.int i)) : Ev (tUn (rU fun i => .int (-i)) ta) σ H (.int (-i)) := ev_un ha ru_neg
theorem ev_abs (ha : Ev ta σ H (.int i)) : Ev (tCB (fun xs H Q => ∃ i, xs = [V.int i] ∧ Q (.int (if i < 0 then -i else i)) H) (tCons ta tNil)) σ H (.int (if i < 0 then -i else i)) := fun H1 e Q q => ha H1 e _ fun H2 e2 => ⟨i, rfl, q H2 e2⟩
/-- == of what is alike or not: two numbers, two truths, two texts -/
inductive Sc : V → V → Bool → Prop where
  | int (i j : Int) : Sc (.int i) (.int j) (decide (i = j))
  | bl (i j : Bool) : Sc (.bl i) (.bl j) (decide (i = j))
  | str (i j : Str) : Sc (.str i) (.str j) (decide (i = j))
theorem ev_eq {b : Bool} (ha : Ev ta σ H x) (hb : Ev tb σ H y) (s : Sc x y b) : Ev (tOp rEq ta tb) σ H (.bl b) := by
  cases s with
  | int i j => exact ev_op ha hb rv_eqI
  | bl i j => exact ev_op ha hb rv_eqB
  | str i j => exact ev_op ha hb rv_eqS
theorem ev_ne {b : Bool} (ha : Ev ta σ H x) (hb : Ev tb σ H y) (s : Sc x y b) : Ev (tOp rNe ta tb) σ H (.bl (!b)) := by
  cases s with
  | int i j => exact ev_op ha hb rv_neI
  | bl i j => exact ev_op ha hb rv_neB
  | str i j => exact ev_op ha hb rv_neS
theorem ev_isB {b c : Bool} (ha : Ev ta σ H (.bl b)) (hb : Ev tb σ H (.bl c)) : Ev (tOp rIsB ta tb) σ H (.bl (decide (b = c))) := ev_op ha hb rv_isB
theorem ev_notB {b c : Bool} (ha : Ev ta σ H (.bl b)) (hb : Ev tb σ H (.bl c)) : Ev (tOp rNotB ta tb) σ H (.bl (!decide (b = c))) := ev_op ha hb rv_notB
theorem er_var {n : Nat} (h : σ[n]? = some (some (.ref a))) (hx : SqL K H a xs) : EvR K (tVar n) σ H xs := er_v (ev_var h) hx
theorem em_var {n : Nat} (h : σ[n]? = some (some (.ref a))) (hx : H a = some (.lst xs)) : EvM (tVar n) σ H xs := em_v (ev_var h) hx
theorem ev_ixTvar {n : Nat} (h : σ[n]? = some (some (.ref a))) (ht : SqT K H a xs) (hi : Ev tb σ H (.int i)) (hv : atI xs i = some v) : Ev (tOp (rIxT K) (tVar n) tb) σ H v := ev_ixTv (ev_var h) ht hi hv
end

/-! ### comprehensions of numbers, of truths -/
section
variable {K : PySem.W.Frag} {σ : L2.St} {H H' : Hp} {ta tb tc te tl : TE} {t u : TT} {ns : List Int} {j l : Nat} {vs : List Nat}
theorem el_lcIi (f : Int → Int) (h : EvR K tl σ H (il ns)) (hz : ns.length ≤ 40000) (hw : ∀ x, wipe ((wipe σ vs).set j (some x)) vs = wipe σ vs)
    (he : ∀ x H1, Ex H H1 → x ∈ ns → Ev te ((wipe σ vs).set j (some (.int x))) H1 (.int (f x))) : EvL (tLc (iList K tl) (gName j) tYes te vs) σ H (il (ns.map f)) :=
  el_is (el_lcI (fun x => .int (f x)) h hz hw he) (by unfold il; rw [List.map_map]; rfl)
theorem el_lcIb (f : Int → Bool) (h : EvR K tl σ H (il ns)) (hz : ns.length ≤ 40000) (hw : ∀ x, wipe ((wipe σ vs).set j (some x)) vs = wipe σ vs)
    (he : ∀ x H1, Ex H H1 → x ∈ ns → Ev te ((wipe σ vs).set j (some (.int x))) H1 (.bl (f x))) : EvL (tLc (iList K tl) (gName j) tYes te vs) σ H (bls (ns.map f)) :=
  el_is (el_lcI (fun x => .bl (f x)) h hz hw he) (by unfold bls; rw [List.map_map]; rfl)
theorem el_lcEi (f : Nat → Int) (h : EvR K tl σ H (il ns)) (hz : ns.length ≤ 40000) (hw : ∀ x y, wipe (((wipe σ vs).set j (some x)).set l (some y)) vs = wipe σ vs)
    (he : ∀ (i : Nat) H1, Ex H H1 → i < ns.length → Ev te (((wipe σ vs).set j (some (.int i))).set l (some (.int (g ns i)))) H1 (.int (f i))) :
    EvL (tLc (iEnum K (tCons tl tNil)) (gTup K 2 (gCons (gName j) (gCons (gName l) gNil))) tYes te vs) σ H (il ((List.range ns.length).map f)) :=
  el_is (el_lcE (fun i => .int (f i)) h hz hw he) (by unfold il; rw [List.map_map]; rfl)
theorem el_lcNi {ta' : TA} {n : Int} (f : Nat → Int) (h : EvA ta' σ H [.int n]) (hn : -40000 ≤ n ∧ n ≤ 40000) (hw : ∀ x, wipe ((wipe σ vs).set j (some x)) vs = wipe σ vs)
    (he : ∀ (i : Nat) H1, Ex H H1 → (i : Int) < n → Ev te ((wipe σ vs).set j (some (.int (i : Int)))) H1 (.int (f i))) : EvL (tLc (iRng1 ta') (gName j) tYes te vs) σ H (il ((List.range n.toNat).map f)) :=
  el_is (el_lcN (fun i => .int (f i)) h hn hw he) (by unfold il; rw [List.map_map]; rfl)
theorem el_lcRb {ta' : TA} {lo hi : Int} (f : Nat → Bool) (h : EvA ta' σ H [.int lo, .int hi]) (hn : -40000 ≤ lo ∧ lo ≤ 40000 ∧ -40000 ≤ hi ∧ hi ≤ 40000) (hz : (hi - lo).toNat ≤ 40000) (hw : ∀ x, wipe ((wipe σ vs).set j (some x)) vs = wipe σ vs)
    (he : ∀ (i : Nat) H1, Ex H H1 → lo + (i : Int) < hi → Ev te ((wipe σ vs).set j (some (.int (lo + (i : Int))))) H1 (.bl (f i))) : EvL (tLc (iRng2 ta') (gName j) tYes te vs) σ H (bls ((List.range (hi - lo).toNat).map f)) :=
  el_is (el_lcRy (fun i => .bl (f i)) h hn hz hw he) (by unfold bls; rw [List.map_map]; rfl)
theorem el_lcRbt {ta' : TA} {lo hi : Int} (ft : Nat → Bool) (f : Nat → Bool) (h : EvA ta' σ H [.int lo, .int hi]) (hn : -40000 ≤ lo ∧ lo ≤ 40000 ∧ -40000 ≤ hi ∧ hi ≤ 40000) (hz : (hi - lo).toNat ≤ 40000) (hw : ∀ x, wipe ((wipe σ vs).set j (some x)) vs = wipe σ vs)
    (ht : ∀ (i : Nat) H1, Ex H H1 → lo + (i : Int) < hi → EvT t ((wipe σ vs).set j (some (.int (lo + i)))) H1 (ft i))
    (he : ∀ (i : Nat) H1, Ex H H1 → lo + (i : Int) < hi → ft i = true → Ev te ((wipe σ vs).set j (some (.int (lo + (i : Int))))) H1 (.bl (f i))) : EvL (tLc (iRng2 ta') (gName j) t te vs) σ H (bls (((List.range (hi - lo).toNat).filter ft).map f)) :=
  el_is (el_lcR ft (fun i => .bl (f i)) h hn hz hw ht he) (by unfold given bls; rw [List.map_map]; rfl)
theorem ev_isiV {x : V} {b : Bool} {t' : Value} {n : String} (ha : Ev ta σ H x) (hty : ∀ {H1 : Hp}, Ex H H1 → TyX K H1 x t') (hk : PySem.W.kitOne K t' (.type n) = some b) : Ev (tCB (rIsi K) (tCons ta (tCons (tC (.ty n)) tNil))) σ H (.bl b) :=
  ev_isi ha (hty (Ex.refl H)) hk hty
/-- an own class's instance and an own class -/
theorem ev_isiO {a C dx C2 : Addr} {fs : List (Str × V)} {b : Bool} (ha : Ev ta σ H (.ref a)) (hi : H a = some (.ins C dx fs)) (cl : Cls K C) (h1 : PySem.W.findIn K (.ref C) "__class__" = some (some (.builtin "object.__class__")))
    (h2 : PySem.W.specialIn K (.builtin "object.__class__") "__get__" = some (some (.builtin "getset_descriptor.__get__"))) (h3 : PySem.W.takesIn K (.builtin "object.__class__") = some true) (h4 : PySem.W.mroIn K C (.type "object") = some true)
    (hk : PySem.W.kitOne K (.ref C) (.ref C2) = some b) : Ev (tCB (rIsi K) (tCons ta (tCons (tC (.ref C2)) tNil))) σ H (.bl b) := fun H1 e Q q =>
  ha H1 e _ fun H2 e2 => ⟨.ref a, .ref C2, .ref C, .ref C2, b, rfl, .own C2, .base (.ins (e2 a _ (e a _ hi)) cl h1 h2 h3 h4), hk, q H2 e2⟩
end
end RK
/-! RrTerm: the layer's terms with the written part K told, so that a reading bears K itself. -/
namespace RK
open PySem L2 Evl RR PyProof.Rows
section
variable {X : Cx} {e a b elt tg iter : Expr} {es ifs : List Expr} {ta tb te tl : TE} {tr : TA} {t u : TS} {pos cpos apos p1 p2 pos' : Pos} {x f : Str} {k : Nat}
theorem x_len (K : PySem.W.Frag) (hK : X.K = K) (hm : X.mg "len" = none) (hg : Gl X "len") (ha : PA X [e] tr)
    (he : starEach [e] X.env = (false, eval e X.env) :: starEach [] X.env := by rfl) (hpl : (backTo pos (starEach [] X.env)).any (·.1) = false := by rfl) : PE X (.Call (.Name "len" p1) [e] [] pos) (tCB (rLenS K) tr) := by
  subst hK; exact pe_callB (r := rLenS X.K) call_len_seq hg hm PySem.boot_len ha (he := he) (hpl := hpl)
theorem x_sum (K : PySem.W.Frag) (hK : X.K = K) (hc : X.calm = true) (hm : X.mg "sum" = none) (hg : Gl X "sum") (ha : PA X [e] tr)
    (he : starEach [e] X.env = (false, eval e X.env) :: starEach [] X.env := by rfl) (hpl : (backTo pos (starEach [] X.env)).any (·.1) = false := by rfl) : PE X (.Call (.Name "sum" p1) [e] [] pos) (tCB (rSum K) tr) := by
  subst hK; exact pe_callB (cr_sum hc) hg hm PyProof.Rows.boot_sum ha (he := he) (hpl := hpl)
theorem x_all (K : PySem.W.Frag) (hK : X.K = K) (hc : X.calm = true) (hm : X.mg "all" = none) (hg : Gl X "all") (ha : PA X [e] tr)
    (he : starEach [e] X.env = (false, eval e X.env) :: starEach [] X.env := by rfl) (hpl : (backTo pos (starEach [] X.env)).any (·.1) = false := by rfl) : PE X (.Call (.Name "all" p1) [e] [] pos) (tCB (rAll K) tr) := by
  subst hK; exact pe_callB (cr_all hc) hg hm (by decide +kernel) ha (he := he) (hpl := hpl)
theorem x_any (K : PySem.W.Frag) (hK : X.K = K) (hc : X.calm = true) (hm : X.mg "any" = none) (hg : Gl X "any") (ha : PA X [e] tr)
    (he : starEach [e] X.env = (false, eval e X.env) :: starEach [] X.env := by rfl) (hpl : (backTo pos (starEach [] X.env)).any (·.1) = false := by rfl) : PE X (.Call (.Name "any" p1) [e] [] pos) (tCB (rAny K) tr) := by
  subst hK; exact pe_callB (cr_any hc) hg hm (by decide +kernel) ha (he := he) (hpl := hpl)
theorem x_list (K : PySem.W.Frag) (hK : X.K = K) (hm : X.mg "list" = none) (hg : Gl X "list") (ha : PA X [e] tr)
    (he : starEach [e] X.env = (false, eval e X.env) :: starEach [] X.env := by rfl) (hpl : (backTo pos (starEach [] X.env)).any (·.1) = false := by rfl) : PE X (.Call (.Name "list" p1) [e] [] pos) (tCB (rListS K) tr) := by
  subst hK; exact pe_callTy (r := rListS X.K) call_list_of hg hm (by decide +kernel) ha (he := he) (hpl := hpl)
theorem x_max2 (hc : X.calm = true) (hm : X.mg "max" = none) (hg : Gl X "max") (ha : PA X [a, b] tr)
    (he : starEach [a, b] X.env = (false, eval a X.env) :: starEach [b] X.env := by rfl) (hpl : (backTo pos (starEach [b] X.env)).any (·.1) = false := by rfl) : PE X (.Call (.Name "max" p1) [a, b] [] pos) (tCB rMax2 tr) :=
  pe_callB (r := rMax2) (call_max2 hc) hg hm (by decide +kernel) ha (he := he) (hpl := hpl)
def rAbs : List V → Hp → VK → Prop := fun xs H Q => ∃ i, xs = [.int i] ∧ Q (.int (if i < 0 then -i else i)) H
theorem x_abs (hm : X.mg "abs" = none) (hg : Gl X "abs") (ha : PA X [e] tr)
    (he : starEach [e] X.env = (false, eval e X.env) :: starEach [] X.env := by rfl) (hpl : (backTo pos (starEach [] X.env)).any (·.1) = false := by rfl) : PE X (.Call (.Name "abs" p1) [e] [] pos) (tCB rAbs tr) :=
  pe_callB (r := rAbs) call_abs hg hm (by decide +kernel) ha (he := he) (hpl := hpl)
theorem x_isi (K : PySem.W.Frag) (hK : X.K = K) (hm : X.mg "isinstance" = none) (hg : Gl X "isinstance") (ha : PA X [a, b] tr)
    (he : starEach [a, b] X.env = (false, eval a X.env) :: starEach [b] X.env := by rfl) (hpl : (backTo pos (starEach [b] X.env)).any (·.1) = false := by rfl) : PE X (.Call (.Name "isinstance" p1) [a, b] [] pos) (tCB (rIsi K) tr) := by
  subst hK; exact pe_callB call_isi hg hm (by decide +kernel) ha (he := he) (hpl := hpl)
/-- a built-in class by its name -/
theorem x_ty (n : String) (hm : X.mg x = none) (hg : Gl X x) (hv : bootBuiltins x = some (.type n)) (hn : x ≠ "__name__" := by decide) (hd : (x == ("__debug__" : Str)) = false := by decide) : PE X (.Name x pos) (tC (.ty n)) := pe_bltn hg hm hv rfl hn hd
theorem x_ixL (K : PySem.W.Frag) (hK : X.K = K) (ha : PE X a ta) (hb : PE X b tb) (hs : PlainIx b) : PE X (.Subscript a b pos) (tOp (rIxL K) ta tb) := by subst hK; exact pe_ix ix_list ha hb hs
theorem x_ixT (K : PySem.W.Frag) (hK : X.K = K) (ha : PE X a ta) (hb : PE X b tb) (hs : PlainIx b) : PE X (.Subscript a b pos) (tOp (rIxT K) ta tb) := by subst hK; exact pe_ix ix_tup ha hb hs
theorem x_sl {lo hi : Option Expr} {t1 t2 : TO} (K : PySem.W.Frag) (hK : X.K = K) (ha : PE X a ta) (hl : PO X lo t1) (hu : PO X hi t2) : PE X (.Subscript a (.Slice lo hi none p2) pos) (tSl (rSlL K) ta t1 t2) := by subst hK; exact pe_slice sl_list ha hl hu
theorem x_rev {p3 : Pos} (K : PySem.W.Frag) (hK : X.K = K) (he : PE X e te) : PE X (.Subscript e (.Slice none none (some (.UnaryOp .USub (.Constant (.int 1) k p1) p2)) p3) pos) (tRevL K te) := by subst hK; exact pe_revL he
theorem x_eqD (K : PySem.W.Frag) (hK : X.K = K) (hu : X.A.units + 64 < cLine) (ha : PE X a ta) (hb : PE X b tb) : PE X (.Compare a [.Eq] [b] pos) (tOp (rEqD K) ta tb) := by subst hK; exact pe_cmpR (op_eqD hu) ha hb (nomark _)
theorem x_neD (K : PySem.W.Frag) (hK : X.K = K) (hu : X.A.units + 64 < cLine) (ha : PE X a ta) (hb : PE X b tb) : PE X (.Compare a [.NotEq] [b] pos) (tOp (rNeD K) ta tb) := by subst hK; exact pe_cmpR (op_neD hu) ha hb (nomark _)
theorem x_eqDt (K : PySem.W.Frag) (hK : X.K = K) (hu : X.A.units + 64 < cLine) (ha : PE X a ta) (hb : PE X b tb) : PT X (.Compare a [.Eq] [b] pos) (tTest (tOp (rEqD K) ta tb)) := by subst hK; exact pt_cmpR (op_eqD hu) ha hb (nomark _)
theorem x_neDt (K : PySem.W.Frag) (hK : X.K = K) (hu : X.A.units + 64 < cLine) (ha : PE X a ta) (hb : PE X b tb) : PT X (.Compare a [.NotEq] [b] pos) (tTest (tOp (rNeD K) ta tb)) := by subst hK; exact pt_cmpR (op_neD hu) ha hb (nomark _)
theorem x_fld (K : PySem.W.Frag) (hK : X.K = K) (he : PE X e ta) (hb : attributeBase e f X.env (eval e X.env) = eval e X.env) : PE X (.Attribute e f pos) (tFld K ta f) := by subst hK; exact pe_fld he hb
theorem x_sfld {value o : Expr} {tv : TE} (K : PySem.W.Frag) (hK : X.K = K) (ha : PE X o ta) (hv : PE X value tv) (hs : swapsWith value (some (.Attribute o f pos')) pos.line X.env = pure false) : PS X (.Assign [.Attribute o f pos'] value pos) (sFld K ta tv f) := by subst hK; exact ps_fld ha hv hs
theorem xi_list (K : PySem.W.Frag) (hK : X.K = K) (hl : PE X e te) : PI X tg e (iList K te) := by subst hK; exact pi_list hl
theorem xi_tup (K : PySem.W.Frag) (hK : X.K = K) (hl : PE X e te) : PI X tg e (iTup K te) := by subst hK; exact pi_tup hl
theorem xi_enum {elts : List Expr} {kk : Nat} {tpos : Pos} (K : PySem.W.Frag) (hK : X.K = K) (hm : X.mg "enumerate" = none) (hg : Gl X "enumerate") (ha : PA X [e] tr) (hs : starEach [e] X.env = [(false, eval e X.env)] := by rfl) :
    PI X (.Tuple elts kk tpos) (.Call (.Name "enumerate" p1) [e] [] pos) (iEnum K tr) := by subst hK; exact pi_enum hg hm ha hs
theorem xg_tup {g : TGs} (K : PySem.W.Frag) (hK : X.K = K) (n : Nat) (hc : X.calm = true) (h : PGs X es g)
    (hn : (assignEach es X.env).length = n := by rfl) (hst : (assignEach es X.env).findIdx? (·.1) = none := by rfl) : PG X (.Tuple es k pos) (gTup K n g) := by subst hK; exact pg_tup hc h hn hst
/-- a method of a list that changes it -/
theorem x_append {o : Expr} {to : TE} (K : PySem.W.Frag) (hK : X.K = K) (ho : PE X o to) (ha : PA X [e] tr)
    (hbase : attributeBase o "append" X.env (eval o X.env) = eval o X.env := by rfl)
    (hfew : ((backTo cpos (starEach (e :: []) X.env)).all (fun x => !x.1) && (backToKw cpos (keywordEach [] X.env)).all (fun x => x.1.isSome)
      && decide ((e :: ([] : List Expr)).length + ([] : List Keyword).length + (if ([] : List Keyword).isEmpty then 0 else 1) < 30)) = true := by rfl)
    (hline : (apos.endLine == cpos.line) = true := by rfl) (hs : starEach (e :: []) X.env = (false, eval e X.env) :: starEach [] X.env := by rfl) (hplain : (backTo cpos (starEach [] X.env)).any (·.1) = false := by rfl) :
    PE X (.Call (.Attribute o "append" apos) [e] [] cpos) (tBM K "list" rAppend to tr) := by
  subst hK; exact pe_bm PySem.F.plainAttrs_list PySem.F.slot_list_append PySem.F.type_list_append mt_append ho ha hbase hfew hline hs hplain
end
end RK
/-! RrKit2: slices, loops over enumerate, several targets, new instances, stores. -/
namespace RK
open PySem L2 Evl RR

/-! ### slices as they come -/
theorem cut_from {xs : List V} {k : Nat} : cutV xs (some (k : Int)) none = xs.drop k := by
  unfold cutV
  rw [HT.sIx_nat, HT.sIx_none]
  by_cases h : k ≤ xs.length
  · rw [show min k xs.length = k by omega]
    exact List.take_of_length_le (by simp)
  · rw [show min k xs.length = xs.length by omega]
    rw [List.drop_eq_nil_of_le (Nat.le_refl _), List.drop_eq_nil_of_le (by omega)]
    exact List.take_nil
theorem cut_to {xs : List V} {k : Nat} : cutV xs none (some (k : Int)) = xs.take k := by
  unfold cutV
  rw [HT.sIx_nat, HT.sIx_none]
  show List.take (min k xs.length - 0) (xs.drop 0) = _
  rw [List.drop_zero, Nat.sub_zero]
  by_cases h : k ≤ xs.length
  · rw [show min k xs.length = k by omega]
  · rw [show min k xs.length = xs.length by omega, List.take_length, List.take_of_length_le (by omega)]
theorem cut_fromI {xs : List V} {i : Int} (h : 0 ≤ i) : cutV xs (some i) none = xs.drop i.toNat := by
  rw [show i = ((i.toNat : Nat) : Int) by omega]; exact cut_from
theorem cut_toI {xs : List V} {i : Int} (h : 0 ≤ i) : cutV xs none (some i) = xs.take i.toNat := by
  rw [show i = ((i.toNat : Nat) : Int) by omega]; exact cut_to
theorem cut_but {xs : List V} : cutV xs none (some (-1)) = xs.dropLast := by
  unfold cutV
  rw [show HT.sIx xs.length xs.length (some (-1)) = xs.length - 1 by
    show (if (-1 : Int) < 0 then ((-1 : Int) + (xs.length : Int)).toNat else min (-1 : Int).toNat xs.length) = _
    rw [if_pos (by decide)]; omega, HT.sIx_none]
  show List.take (xs.length - 1 - 0) (xs.drop 0) = _
  rw [List.drop_zero, Nat.sub_zero, List.dropLast_eq_take]
theorem il_take (xs : List Int) (k : Nat) : (il xs).take k = il (xs.take k) := (List.map_take ..).symm
theorem il_drop (xs : List Int) (k : Nat) : (il xs).drop k = il (xs.drop k) := (List.map_drop ..).symm
theorem il_dropLast (xs : List Int) : (il xs).dropLast = il xs.dropLast := (List.map_dropLast ..).symm
theorem il_reverse (xs : List Int) : (il xs).reverse = il xs.reverse := List.map_reverse.symm
theorem il_append (xs ys : List Int) : il xs ++ il ys = il (xs ++ ys) := List.map_append.symm
theorem il_set (xs : List Int) (i : Nat) (v : Int) : (il xs).set i (.int v) = il (xs.set i v) := (List.map_set ..).symm
theorem il_len (xs : List Int) : (il xs).length = xs.length := List.length_map ..
theorem il_rep (n : Nat) (v : Int) : List.replicate n (V.int v) = il (List.replicate n v) := (List.map_replicate ..).symm
section
variable {K : PySem.W.Frag} {σ : L2.St} {H H' : Hp} {ta tb tc te tl : TE} {t u : TT} {x y z v : V} {xs ys : List V} {ns : List Int} {i j : Int} {a : Addr} {D : Ends} {tu tw tz : TS} {g' : TG}
theorem el_slFrom {t1 : TO} (h : EvR K te σ H (il ns)) (h1 : EvO t1 σ H (some i)) (hi : 0 ≤ i) : EvL (tSl (rSlL K) te t1 tNoPart) σ H (il (ns.drop i.toNat)) :=
  el_is (el_slR h h1 eo_none) (by rw [cut_fromI hi, il_drop])
theorem el_slTo {t1 : TO} (h : EvR K te σ H (il ns)) (h1 : EvO t1 σ H (some i)) (hi : 0 ≤ i) : EvL (tSl (rSlL K) te tNoPart t1) σ H (il (ns.take i.toNat)) :=
  el_is (el_slR h eo_none h1) (by rw [cut_toI hi, il_take])
theorem el_slBut {t1 : TO} (h : EvR K te σ H (il ns)) (h1 : EvO t1 σ H (some (-1))) : EvL (tSl (rSlL K) te tNoPart t1) σ H (il ns.dropLast) :=
  el_is (el_slR h eo_none h1) (by rw [cut_but, il_dropLast])
theorem el_revI (h : EvR K te σ H (il ns)) : EvL (tRevL K te) σ H (il ns.reverse) := el_is (el_revR h) (il_reverse ns)
theorem el_catI {ms : List Int} (ha : EvM ta σ H (il ms)) (hb : EvM tb σ H (il ns)) (hz : ms.length + ns.length ≤ 100000) : EvL (tOp rCat ta tb) σ H (il (ms ++ ns)) :=
  el_is (el_cat ha hb (by rw [il_len, il_len]; exact hz)) (il_append ms ns)
theorem ev_lenI (h : EvR K te σ H (il ns)) : Ev (tCB (rLenS K) (tCons te tNil)) σ H (.int (ns.length : Int)) := by
  have := ev_lenR h
  rw [il_len] at this
  exact this
theorem el_one {n : Int} (h : Ev te σ H (.int n)) : EvL (tLst (tCons te tNil)) σ H (il [n]) := el_lst (ea_cons h ea_nil) (by simp)
theorem el_repI {k n : Int} (h : Ev te σ H (.int n)) (hk : Ev tb σ H (.int k)) (hz : -100000 ≤ k ∧ k ≤ 100000) : EvL (tOp rRep (tLst (tCons te tNil)) tb) σ H (il (List.replicate k.toNat n)) :=
  el_is (el_rep (em_of_l (el_lst (ea_cons h ea_nil) (by simp))) hk hz) (il_rep _ _)
theorem el_nilI : EvL (tLst tNil) σ H (il []) := el_nil
theorem el_listI (h : EvR K te σ H (il ns)) : EvL (tCB (rListS K) (tCons te tNil)) σ H (il ns) := el_listR h

/-! ### for over enumerate -/
theorem s_forE {k l : Nat} (h : Ev tl σ H (.ref a)) (hx : SqL K H a (il ns)) (Pv : Nat → L2.St → Hp → Prop) (h0 : ∀ H1, Ex H H1 → Pv 0 σ H1) (hl : ∀ i σ' H', i ≤ ns.length → Pv i σ' H' → SqL K H' a (il ns))
    (hs : ∀ (i : Nat) σ' H' H'', i < ns.length → Pv i σ' H' → Ex H' H'' → tu { D with nx := Pv (i + 1), ct := Pv (i + 1), bk := D.nx } ((σ'.set k (some (.int i))).set l (some (.int (g ns i)))) H'') (hd : ∀ σ' H', Pv ns.length σ' H' → D.nx σ' H') :
    tFor (iEnum K (tCons tl tNil)) (gTup K 2 (gCons (gName k) (gCons (gName l) gNil))) tu D σ H :=
  h H (Ex.refl H) _ fun H1 e => ⟨a, _, rfl, ex_l e hx, for_it (walk_enum (xs := il ns)) Pv (h0 H1 e) (fun i σ' H' hi p => hl i σ' H' (by rw [il_len] at hi; exact hi) p) (fun i y σ' H2 H3 hi p yy => by
    rw [il_len] at hi
    obtain ⟨T, x1, x2, rfl, hT, rfl, e3, e4⟩ := yy
    have ex1 : x1 = .int (i : Int) := (Option.some.inj e3).symm
    have ex2 : x2 = .int (g ns i) := by
      have e4 : (ns.map V.int)[i]? = some x2 := e4
      rw [List.getElem?_map, g_in hi] at e4
      exact (Option.some.inj e4).symm
    subst ex1 ex2
    exact ⟨T, _, rfl, st_of upd_same, rfl, _, _, rfl, _, _, rfl, rfl, hs i σ' H2 _ hi p (Ex.new hT)⟩) (by rw [il_len]; exact hd)⟩
theorem q_forE {k l : Nat} (h : Ev tl σ H (.ref a)) (hx : SqL K H a (il ns)) (Pv : Nat → L2.St → Hp → Prop) (h0 : ∀ H1, Ex H H1 → Pv 0 σ H1) (hl : ∀ i σ' H', i ≤ ns.length → Pv i σ' H' → SqL K H' a (il ns))
    (hs : ∀ (i : Nat) σ' H' H'', i < ns.length → Pv i σ' H' → Ex H' H'' → tu { D with nx := Pv (i + 1), ct := Pv (i + 1), bk := tz D } ((σ'.set k (some (.int i))).set l (some (.int (g ns i)))) H'') (hd : ∀ σ' H', Pv ns.length σ' H' → tz D σ' H') :
    tSeq (tFor (iEnum K (tCons tl tNil)) (gTup K 2 (gCons (gName k) (gCons (gName l) gNil))) tu) tz D σ H := s_forE (D := { D with nx := tz D }) h hx Pv h0 hl hs hd

/-! ### several targets -/
theorem q_parUU {k l : Nat} (h1 : EvU ta σ H xs) (h2 : EvU tb σ H ys) (q : ∀ p p' H1, Ex H H1 → H1 p = some (.tup xs) → H1 p' = some (.tup ys) → tz D ((σ.set k (some (.ref p))).set l (some (.ref p'))) H1) :
    tSeq (tPar k l (tCons ta (tCons tb tNil))) tz D σ H :=
  h1 H (Ex.refl H) _ fun p H1 hn e1 hp => h2 H1 e1 _ fun p' H2 hn2 e2 hp2 => ⟨_, _, rfl, q p p' H2 (e1.trans e2) (e2 _ _ hp) hp2⟩
theorem s_parVU {k l : Nat} (h1 : Ev ta σ H x) (h2 : EvU tb σ H ys) (q : ∀ p' H1, Ex H H1 → H1 p' = some (.tup ys) → D.nx ((σ.set k (some x)).set l (some (.ref p'))) H1) :
    tPar k l (tCons ta (tCons tb tNil)) D σ H :=
  h1 H (Ex.refl H) _ fun H1 e1 => h2 H1 e1 _ fun p' H2 hn2 e2 hp2 => ⟨_, _, rfl, q p' H2 (e1.trans e2) hp2⟩
theorem q_parVV {k l : Nat} (h1 : Ev ta σ H x) (h2 : Ev tb σ H y) (q : ∀ H1, Ex H H1 → tz D ((σ.set k (some x)).set l (some y)) H1) :
    tSeq (tPar k l (tCons ta (tCons tb tNil))) tz D σ H :=
  h1 H (Ex.refl H) _ fun H1 e1 => h2 H1 e1 _ fun H2 e2 => ⟨_, _, rfl, q H2 (e1.trans e2)⟩
theorem q_parVM {k l : Nat} (h1 : Ev ta σ H x) (h2 : EvL tb σ H ys) (q : ∀ p' H1, H p' = none → Ex H H1 → H1 p' = some (.lst ys) → tz D ((σ.set k (some x)).set l (some (.ref p'))) H1) :
    tSeq (tPar k l (tCons ta (tCons tb tNil))) tz D σ H :=
  h1 H (Ex.refl H) _ fun H1 e1 => h2 H1 e1 _ fun p' H2 hn2 e2 hp2 => ⟨_, _, rfl, q p' H2 (fresh_back e1 hn2) (e1.trans e2) hp2⟩
theorem q_par3L {k l m : Nat} (h1 : EvL ta σ H xs) (h2 : Ev tb σ H y) (h3 : Ev tc σ H z) (q : ∀ p H1, H p = none → Ex H H1 → H1 p = some (.lst xs) → tz D (((σ.set k (some (.ref p))).set l (some y)).set m (some z)) H1) :
    tSeq (tPar3 k l m (tCons ta (tCons tb (tCons tc tNil)))) tz D σ H :=
  h1 H (Ex.refl H) _ fun p H1 hn e1 hp => h2 H1 e1 _ fun H2 e2 => h3 H2 (e1.trans e2) _ fun H3 e3 => ⟨_, _, _, rfl, q p H3 hn ((e1.trans e2).trans e3) (e3 _ _ (e2 _ _ hp))⟩
theorem s_par3V {k l m : Nat} (h1 : Ev ta σ H x) (h2 : Ev tb σ H y) (h3 : Ev tc σ H z) (q : ∀ H1, Ex H H1 → D.nx (((σ.set k (some x)).set l (some y)).set m (some z)) H1) :
    tPar3 k l m (tCons ta (tCons tb (tCons tc tNil))) D σ H :=
  h1 H (Ex.refl H) _ fun H1 e1 => h2 H1 e1 _ fun H2 e2 => h3 H2 (e1.trans e2) _ fun H3 e3 => ⟨_, _, _, rfl, q H3 ((e1.trans e2).trans e3)⟩
/-- xs[i] = e, i a whole number -/
theorem s_setI {l : Addr} {n : Int} (hl : H l = some (.lst (il ns))) (h : Ev te σ H (.int n)) (ho : Ev ta σ H (.ref l)) (hi : Ev tb σ H (.int i)) (hj : 0 ≤ i ∧ i < ns.length) (k : ∀ H1, Ex H H1 → D.nx σ (upd H1 l (.lst (il (ns.set i.toNat n))))) :
    tAsg te (gSub ta tb rSetL) D σ H := by
  have e : i = ((i.toNat : Nat) : Int) := by omega
  rw [e] at hi
  exact s_setL hl h ho hi (by rw [il_len]; omega) fun H1 e1 => by
    rw [il_set]
    exact k H1 e1
/-- an if, both ways shown at the very heap -/
theorem q_when' {b : Bool} (h : EvT t σ H b) (h1 : b = true → ∀ H1, Ex H H1 → tu { D with nx := tz D } σ H1) (h2 : b = false → ∀ H1, Ex H H1 → tz D σ H1) : tSeq (tIfS t tu tNext) tz D σ H := q_when h h1 h2
theorem q_skip {b : Bool} (h : EvT t σ H b) (hb : b = false) (h2 : ∀ H1, Ex H H1 → tz D σ H1) : tSeq (tIfS t tu tNext) tz D σ H := q_when h (fun z => by rw [hb] at z; cases z) (fun _ => h2)
theorem s_skip {b : Bool} (h : EvT t σ H b) (hb : b = false) (h2 : ∀ H1, Ex H H1 → D.nx σ H1) : tIfS t tu tNext D σ H := s_when h (fun z => by rw [hb] at z; cases z) (fun _ => h2)
/-- four names from a call that gives four things in a tuple: by the call's own promise -/
theorem tRet_ref {n : Nat} {p : Addr} (h : σ[n]? = some (some (.ref p))) (k : D.rt (.ref p) H) : tRet (tVar n) D σ H := ⟨_, h, k⟩
theorem ex_m {H H1 : Hp} {p : Addr} {o : HO} (e : Ex H H1) (h : H p = some o) : H1 p = some o := e p o h
theorem ne_new {H H1 : Hp} {p q : Addr} {o : HO} (h : H p = some o) (hq : H q = none) : p ≠ q := ne_of_none h hq
end

/-! ### instances -/
section
variable {K : PySem.W.Frag} {σ : L2.St} {H H' : Hp} {ta tb tc te tl tv : TE} {x y z v : V} {xs ys : List V} {ns : List Int} {a C dx : Addr} {fs : List (Str × V)} {f : Str} {D : Ends} {tu tw tz : TS}
theorem sq_upd {o : HO} (h : SqL K H a xs) (hx : H dx = some o) (ho : ∀ l, o ≠ .lst l) (hf : ∀ q l, o ≠ .frz q l) {u : HO} : SqL K (upd H dx u) a xs := by
  rcases h with (h | ⟨q, h⟩) | h
  · have : a ≠ dx := by
      intro z
      rw [z, hx] at h
      exact ho _ (Option.some.inj h)
    exact .inl (.inl (by rw [upd_ne this]; exact h))
  · have : a ≠ dx := by
      intro z
      rw [z, hx] at h
      exact hf _ _ (Option.some.inj h)
    exact .inl (.inr ⟨q, by rw [upd_ne this]; exact h⟩)
  · exact .inr h
theorem q_sfld (hv : Ev tv σ H v) (ho : Ev ta σ H (.ref a)) (hi : H a = some (.ins C dx fs)) (cl : Cls K C) (na : NoAttr K C f) (hl : fs.length < 1000) (k : ∀ H1, Ex H H1 → tz D σ (upd H1 a (.ins C dx (putF f v fs)))) : tSeq (sFld K ta tv f) tz D σ H :=
  hv H (Ex.refl H) _ fun H1 e1 => ho H1 e1 _ fun H2 e2 => ⟨a, C, dx, fs, rfl, e2 _ _ (e1 _ _ hi), cl, na, hl, k H2 (e1.trans e2)⟩
theorem s_sfld (hv : Ev tv σ H v) (ho : Ev ta σ H (.ref a)) (hi : H a = some (.ins C dx fs)) (cl : Cls K C) (na : NoAttr K C f) (hl : fs.length < 1000) (k : ∀ H1, Ex H H1 → D.nx σ (upd H1 a (.ins C dx (putF f v fs)))) : sFld K ta tv f D σ H :=
  hv H (Ex.refl H) _ fun H1 e1 => ho H1 e1 _ fun H2 e2 => ⟨a, C, dx, fs, rfl, e2 _ _ (e1 _ _ hi), cl, na, hl, k H2 (e1.trans e2)⟩
theorem q_sfldL (hv : EvL tv σ H xs) (ho : Ev ta σ H (.ref a)) (hi : H a = some (.ins C dx fs)) (cl : Cls K C) (na : NoAttr K C f) (hl : fs.length < 1000) (k : ∀ p H1, H p = none → Ex H H1 → H1 p = some (.lst xs) → tz D σ (upd H1 a (.ins C dx (putF f (.ref p) fs)))) : tSeq (sFld K ta tv f) tz D σ H :=
  hv H (Ex.refl H) _ fun p H1 hn e1 hp => ho H1 e1 _ fun H2 e2 => ⟨a, C, dx, fs, rfl, e2 _ _ (e1 _ _ hi), cl, na, hl, k p H2 hn (e1.trans e2) (e2 _ _ hp)⟩
theorem er_fld (h : Ev (tFld K ta f) σ H (.ref a)) (hx : SqL K H a xs) : EvR K (tFld K ta f) σ H xs := er_v h hx
theorem em_fld (h : Ev (tFld K ta f) σ H (.ref a)) (hx : H a = some (.lst xs)) : EvM (tFld K ta f) σ H xs := em_v h hx
/-- a method's call: its promise is asked at the instance -/
theorem ev_methV {m : Str} {sp : Sp} {E : XK} {ta' : TA} {gs : List Ag} (ho : Ev ta σ H (.ref a)) (hi : H a = some (.ins C dx fs)) (hm : fs.lookup m = none) (h : EvAs K ta' σ H gs)
    (hs : ∀ vs H1, Ex H H1 → AgsOk K H1 gs vs → ∀ Q : VK, (∀ H2, Ex H1 H2 → Q v H2) → sp (.ref a :: (vs ++ [])) H1 Q E) : Ev (tMeth C m sp [] E ta ta') σ H v := fun H1 e Q q =>
  ho H1 e _ fun H2 e2 => ⟨a, dx, fs, rfl, e2 _ _ (e _ _ hi), hm, h H2 (e.trans e2) _ fun vs H3 e3 ok => hs vs H3 ((e.trans e2).trans e3) ok Q fun H4 e4 => q H4 ((e2.trans e3).trans e4)⟩
/-- three attributes: a rule, a shorter one, a place -/
def fl3 (r s : Addr) (pl : Int) : List (Str × V) := putF "place" (.int pl) (putF "shorter" (.ref s) (putF "rule" (.ref r) []))
theorem fl3_rule (r s : Addr) (pl : Int) : (fl3 r s pl).lookup ("rule" : Str) = some (V.ref r) := by
  unfold fl3
  rw [lookup_putF, if_neg (by decide +kernel), lookup_putF, if_neg (by decide +kernel), lookup_putF, if_pos rfl]
theorem fl3_shorter (r s : Addr) (pl : Int) : (fl3 r s pl).lookup ("shorter" : Str) = some (V.ref s) := by
  unfold fl3
  rw [lookup_putF, if_neg (by decide +kernel), lookup_putF, if_pos rfl]
theorem fl3_place (r s : Addr) (pl : Int) : (fl3 r s pl).lookup ("place" : Str) = some (V.int pl) := by
  unfold fl3
  rw [lookup_putF, if_pos rfl]
theorem fl3_no (r s : Addr) (pl : Int) {m : Str} (h1 : ¬ m = "place") (h2 : ¬ m = "shorter") (h3 : ¬ m = "rule") : (fl3 r s pl).lookup m = none := by
  unfold fl3
  rw [lookup_putF, if_neg h1, lookup_putF, if_neg h2, lookup_putF, if_neg h3]
  rfl
theorem fl3_shows (r s : Addr) (pl : Int) : (fl3 r s pl).lookup ("shows" : Str) = none := fl3_no r s pl (by decide +kernel) (by decide +kernel) (by decide +kernel)
theorem len_putF (f : Str) (v : V) : ∀ fs : List (Str × V), (putF f v fs).length ≤ fs.length + 1
  | [] => by simp [putF]
  | (g, x) :: r => by
    unfold putF
    split
    · simp
    · simp only [List.length_cons]
      have := len_putF f v r
      omega
/-- four names from a tuple that a call gives: by an own promise -/
def gFour (K : PySem.W.Frag) (i j k l : Nat) : TG := gTup K 4 (gCons (gName i) (gCons (gName j) (gCons (gName k) (gCons (gName l) gNil))))
end
end RK
/-! RrKit3: loops over written tuples and lists, written tuples by a reckoned place, pop, if as an expression. -/
namespace RK
open PySem L2 Evl RR
section
variable {X : Cx} {e : Expr} {cpos apos : Pos}
theorem x_pop {o : Expr} {to : TE} (K : PySem.W.Frag) (hK : X.K = K) (ho : PE X o to)
    (hbase : attributeBase o "pop" X.env (eval o X.env) = eval o X.env := by rfl)
    (hline : (apos.endLine == cpos.line) = true := by rfl) :
    PE X (.Call (.Attribute o "pop" apos) [] [] cpos) (tBM0 K "list" rPop to) := by
  subst hK; exact pe_bm0 PySem.F.plainAttrs_list PySem.F.slot_list_pop PySem.F.type_list_pop mt_pop ho hbase hline
end
section
variable {K : PySem.W.Frag} {σ : L2.St} {H H' : Hp} {ta' : TA} {ta tb tc te tl : TE} {t u : TT} {x y z v : V} {xs ys : List V} {ns : List Int} {i j : Int} {a : Addr} {D : Ends} {tu tw tz : TS}
theorem ea_is {vs ws : List V} (h : EvA ta' σ H vs) (e : vs = ws) : EvA ta' σ H ws := e ▸ h
theorem eu_is (h : EvU te σ H xs) (e : xs = ys) : EvU te σ H ys := e ▸ h
theorem ev_ixTi {n : Nat} (h : σ[n]? = some (some (.ref a))) (ht : SqT K H a (il ns)) (hi : Ev tb σ H (.int i)) (hv : 0 ≤ i ∧ i < ns.length) : Ev (tOp (rIxT K) (tVar n) tb) σ H (.int (g ns i.toNat)) := ev_ixTv (ev_var h) ht hi (g_at hv)
theorem ev_ixUi (h : EvU ta σ H (il ns)) (hi : Ev tb σ H (.int i)) (hv : 0 ≤ i ∧ i < ns.length) : Ev (tOp (rIxT K) ta tb) σ H (.int (g ns i.toNat)) := ev_ixU h hi (g_at hv)
theorem ev_ifI {b : Bool} (h : EvT t σ H b) (h1 : b = true → Ev ta σ H (.int i)) (h2 : b = false → Ev tb σ H (.int j)) : Ev (tIf t ta tb) σ H (.int (if b = true then i else j)) :=
  ev_if h (fun hb => by rw [if_pos hb]; exact h1 hb) (fun hb => by rw [if_neg (by rw [hb]; decide)]; exact h2 hb)
theorem q_pop {l : Addr} (hl : H l = some (.lst (xs ++ [v]))) (ha : Ev ta σ H (.ref l)) (k : ∀ H1, Ex H H1 → tz D σ (upd H1 l (.lst xs))) : tSeq (tDrop (tBM0 K "list" rPop ta)) tz D σ H := ha H (Ex.refl H) _ fun H1 e1 =>
  ⟨.inl ⟨rfl, _, sq_of (e1 l _ hl)⟩, l, xs ++ [v], v, rfl, rfl, e1 l _ hl, by simp, by rw [List.dropLast_concat]; exact k H1 e1⟩
theorem q_appI {l : Addr} {n : Int} (hl : H l = some (.lst (il ns))) (ha : Ev ta σ H (.ref l)) (h : Ev te σ H (.int n)) (hz : ns.length < 100000) (k : ∀ H1, Ex H H1 → tz D σ (upd H1 l (.lst (il (ns ++ [n]))))) :
    tSeq (tDrop (tBM K "list" rAppend ta (tCons te tNil))) tz D σ H := q_app hl ha h (by rw [il_len]; exact hz) fun H1 e1 => by
  have := k H1 e1
  rw [← il_append] at this
  exact this
theorem s_appI {l : Addr} {n : Int} (hl : H l = some (.lst (il ns))) (ha : Ev ta σ H (.ref l)) (h : Ev te σ H (.int n)) (hz : ns.length < 100000) (k : ∀ H1, Ex H H1 → D.nx σ (upd H1 l (.lst (il (ns ++ [n]))))) :
    tDrop (tBM K "list" rAppend ta (tCons te tNil)) D σ H := s_app hl ha h (by rw [il_len]; exact hz) fun H1 e1 => by
  have := k H1 e1
  rw [← il_append] at this
  exact this
theorem q_popI {l : Addr} {n : Int} (hl : H l = some (.lst (il (ns ++ [n])))) (ha : Ev ta σ H (.ref l)) (k : ∀ H1, Ex H H1 → tz D σ (upd H1 l (.lst (il ns)))) : tSeq (tDrop (tBM0 K "list" rPop ta)) tz D σ H :=
  q_pop (xs := il ns) (v := .int n) (by rw [hl, ← il_append]; rfl) ha k
/-- for over what is written in brackets: each item as it is wanted; the items stand as they were made -/
theorem s_forAs {gs : List Ag} {k : Nat} (h : EvAs K ta' σ H gs) (hz : gs.length ≤ 100000) (Pv : Hp → Nat → L2.St → Hp → Prop) (h0 : ∀ H1, Ex H H1 → Pv H1 0 σ H1) (hE : ∀ H1 i σ' H', Pv H1 i σ' H' → Ex H1 H')
    (hs : ∀ H1 i gg y σ' H', Ex H H1 → gs[i]? = some gg → AgOk K H1 gg y → Pv H1 i σ' H' → tu { D with nx := Pv H1 (i + 1), ct := Pv H1 (i + 1), bk := D.nx } (σ'.set k (some y)) H') (hd : ∀ H1 σ' H', Ex H H1 → Pv H1 gs.length σ' H' → D.nx σ' H') :
    tFor (iTup K (tTup ta')) (gName k) tu D σ H := h H (Ex.refl H) _ fun vs H1 e1 ok => by
  have hl := ok.len
  refine ⟨sz_of (by omega), fun p hp => ⟨p, rfl, ⟨vs, st_of upd_same⟩, ?_⟩⟩
  have e2 : Ex H1 (upd H1 p (.tup vs)) := Ex.new hp
  refine for_tup (xs := vs) (Pv (upd H1 p (.tup vs))) (h0 _ (e1.trans e2)) (fun i σ' H' _ q => st_of (hE _ _ _ _ q p _ upd_same)) (fun i y σ' H' hy q => ?_) (by rw [hl]; exact fun σ' H' q => hd _ σ' H' (e1.trans e2) q)
  have ok' := ok.up e2
  have : ∀ (gs : List Ag) (vs : List V) (i : Nat), AgsOk K (upd H1 p (.tup vs)) gs vs → vs[i]? = some y → ∃ gg, gs[i]? = some gg := fun gs vs i o hy => by
    have hl := o.len
    have := (List.getElem?_eq_some_iff.mp hy).1
    exact ⟨gs[i]'(by omega), List.getElem?_eq_getElem _⟩
  have key : ∀ (H2 : Hp) (gs : List Ag) (vs : List V) (i : Nat), AgsOk K H2 gs vs → vs[i]? = some y → ∃ gg, gs[i]? = some gg ∧ AgOk K H2 gg y := fun H2 gs => by
    induction gs with
    | nil =>
      intro vs i o hy
      rw [show vs = [] from o] at hy
      simp at hy
    | cons gg gs ih =>
      intro vs i o hy
      obtain ⟨z, zs, rfl, o1, o2⟩ := o
      cases i with
      | zero =>
        have : z = y := Option.some.inj hy
        subst this
        exact ⟨gg, rfl, o1⟩
      | succ i => exact ih zs i o2 hy
  obtain ⟨gg, e3, e4⟩ := key _ gs vs i ok' hy
  exact hs _ i gg y σ' H' (e1.trans e2) e3 e4 q
theorem q_forAs {gs : List Ag} {k : Nat} (h : EvAs K ta' σ H gs) (hz : gs.length ≤ 100000) (Pv : Hp → Nat → L2.St → Hp → Prop) (h0 : ∀ H1, Ex H H1 → Pv H1 0 σ H1) (hE : ∀ H1 i σ' H', Pv H1 i σ' H' → Ex H1 H')
    (hs : ∀ H1 i gg y σ' H', Ex H H1 → gs[i]? = some gg → AgOk K H1 gg y → Pv H1 i σ' H' → tu { D with nx := Pv H1 (i + 1), ct := Pv H1 (i + 1), bk := tz D } (σ'.set k (some y)) H') (hd : ∀ H1 σ' H', Ex H H1 → Pv H1 gs.length σ' H' → tz D σ' H') :
    tSeq (tFor (iTup K (tTup ta')) (gName k) tu) tz D σ H := s_forAs (D := { D with nx := tz D }) h hz Pv h0 hE hs hd
end
/-- an own class by another one -/
theorem kit_self {K : PySem.W.Frag} {C : Addr} : PySem.W.kitOne K (.ref C) (.ref C) = some true := if_pos (beq_self_eq_true _)
theorem kit_own {K : PySem.W.Frag} {C D : Addr} {b : Bool} (h1 : PySem.W.isClsIn K D = true) (h2 : PySem.W.typeIn K (.ref D) = some (.type "type")) (h3 : PySem.W.subIn K (.ref C) (.ref D) = some b) (h4 : b = true ∨ C ≠ D) : PySem.W.kitOne K (.ref C) (.ref D) = some b := by
  unfold PySem.W.kitOne
  by_cases e : (Value.ref C == Value.ref D) = true
  · rw [if_pos e]
    have : C = D := by
      have := eq_of_beq e
      injection this
    rcases h4 with h4 | h4
    · rw [h4]
    · exact absurd this h4
  · rw [if_neg e]
    unfold PySem.W.kitCls
    have h1' : (PySem.W.clsIn K D).isSome = true := h1
    have z : ((PySem.W.clsIn K D).isSome && PySem.W.typeIn K (.ref D) == some (.type "type")) = true := by
      rw [h1', h2]
      exact beq_self_eq_true _
    simp only [z, if_true]
    exact h3
end RK
/-! RrKit4: one of two terms for an expression; four attributes; stores from behind. -/
namespace RK
open PySem L2 Evl RR
def tAlt (t u : TE) : TE := fun σ H Q => t σ H Q ∨ u σ H Q
section
variable {X : Cx} {e : Expr} {t u : TE}
theorem pe_alt (h1 : PE X e t) (h2 : PE X e u) : PE X e (tAlt t u) := ⟨fun pins s σ H Q I h => h.elim (h1.run pins s σ H Q I) (h2.run pins s σ H Q I)⟩
end
section
variable {K : PySem.W.Frag} {σ : L2.St} {H H' : Hp} {ta' : TA} {ta tb tc te tl : TE} {t u : TT} {x y z v : V} {xs ys : List V} {ns : List Int} {i j : Int} {a : Addr} {D : Ends} {tu tw tz : TS}
theorem ev_alt1 (h : Ev ta σ H v) : Ev (tAlt ta tb) σ H v := fun H1 e Q q => .inl (h H1 e Q q)
theorem ev_alt2 (h : Ev tb σ H v) : Ev (tAlt ta tb) σ H v := fun H1 e Q q => .inr (h H1 e Q q)
theorem er_ifT (h : EvT t σ H true) (h1 : EvR K ta σ H xs) : EvR K (tIf t ta tb) σ H xs := fun H1 e Q q => h H1 e _ fun H2 e2 => by
  show ta σ H2 Q
  exact h1 H2 (e.trans e2) Q fun p H3 e3 hp => q p H3 (e2.trans e3) hp
theorem er_ifF (h : EvT t σ H false) (h1 : EvR K tb σ H xs) : EvR K (tIf t ta tb) σ H xs := fun H1 e Q q => h H1 e _ fun H2 e2 => by
  show tb σ H2 Q
  exact h1 H2 (e.trans e2) Q fun p H3 e3 hp => q p H3 (e2.trans e3) hp
theorem ev_ifT (h : EvT t σ H true) (h1 : Ev ta σ H v) : Ev (tIf t ta tb) σ H v := ev_if h (fun _ => h1) (fun z => by cases z)
theorem ev_ifF (h : EvT t σ H false) (h1 : Ev tb σ H v) : Ev (tIf t ta tb) σ H v := ev_if h (fun z => by cases z) (fun _ => h1)
/-- the last number -/
theorem ev_ixLast (h : EvR K ta σ H (il ns)) (hi : Ev tb σ H (.int (-1))) (hv : 0 < ns.length) : Ev (tOp (rIxL K) ta tb) σ H (.int (g ns (ns.length - 1))) := ev_ixR h hi (by
  unfold atI ixN
  rw [if_neg (by decide), if_pos (by rw [il_len]; omega)]
  show (ns.map V.int)[((-1 : Int) + ((il ns).length : Int)).toNat]? = _
  rw [il_len, show ((-1 : Int) + (ns.length : Int)).toNat = ns.length - 1 by omega, List.getElem?_map, g_in (by omega)]
  rfl)
/-- xs[-1] = e -/
theorem s_setLast {l : Addr} {n : Int} (hl : H l = some (.lst (il ns))) (h : Ev te σ H (.int n)) (ho : Ev ta σ H (.ref l)) (hi : Ev tb σ H (.int (-1))) (hj : 0 < ns.length) (k : ∀ H1, Ex H H1 → D.nx σ (upd H1 l (.lst (il (ns.set (ns.length - 1) n))))) :
    tAsg te (gSub ta tb rSetL) D σ H := h H (Ex.refl H) _ fun H1 e1 => ho H1 e1 _ fun H2 e2 => hi H2 (e1.trans e2) _ fun H3 e3 =>
  ⟨l, _, (-1 : Int), ns.length - 1, rfl, rfl, ((e1.trans e2).trans e3) l _ hl, by
    unfold ixN
    rw [if_neg (by decide), if_pos (by rw [il_len]; omega), il_len]
    congr 1
    omega, by
    rw [il_set]
    exact k H3 ((e1.trans e2).trans e3)⟩
theorem q_setI {l : Addr} {n : Int} (hl : H l = some (.lst (il ns))) (h : Ev te σ H (.int n)) (ho : Ev ta σ H (.ref l)) (hi : Ev tb σ H (.int i)) (hj : 0 ≤ i ∧ i < ns.length) (k : ∀ H1, Ex H H1 → tz D σ (upd H1 l (.lst (il (ns.set i.toNat n))))) :
    tSeq (tAsg te (gSub ta tb rSetL)) tz D σ H := s_setI (D := { D with nx := tz D }) hl h ho hi hj k
/-- four attributes -/
def fl4 (r o s : Addr) (pl : Int) : List (Str × V) := putF "place" (.int pl) (putF "shorter" (.ref s) (putF "other" (.ref o) (putF "one" (.ref r) [])))
theorem fl4_one (r o s : Addr) (pl : Int) : (fl4 r o s pl).lookup ("one" : Str) = some (V.ref r) := by
  unfold fl4
  rw [lookup_putF, if_neg (by decide +kernel), lookup_putF, if_neg (by decide +kernel), lookup_putF, if_neg (by decide +kernel), lookup_putF, if_pos rfl]
theorem fl4_other (r o s : Addr) (pl : Int) : (fl4 r o s pl).lookup ("other" : Str) = some (V.ref o) := by
  unfold fl4
  rw [lookup_putF, if_neg (by decide +kernel), lookup_putF, if_neg (by decide +kernel), lookup_putF, if_pos rfl]
theorem fl4_shorter (r o s : Addr) (pl : Int) : (fl4 r o s pl).lookup ("shorter" : Str) = some (V.ref s) := by
  unfold fl4
  rw [lookup_putF, if_neg (by decide +kernel), lookup_putF, if_pos rfl]
theorem fl4_place (r o s : Addr) (pl : Int) : (fl4 r o s pl).lookup ("place" : Str) = some (V.int pl) := by
  unfold fl4
  rw [lookup_putF, if_pos rfl]
theorem fl4_shows (r o s : Addr) (pl : Int) : (fl4 r o s pl).lookup ("shows" : Str) = none := by
  unfold fl4
  rw [lookup_putF, if_neg (by decide +kernel), lookup_putF, if_neg (by decide +kernel), lookup_putF, if_neg (by decide +kernel), lookup_putF, if_neg (by decide +kernel)]
  rfl
theorem len_two (f g : Str) (v w : V) : (putF f v (putF g w [])).length ≤ 2 := len_putF f v (putF g w [])
theorem len_three (f g h : Str) (v w x : V) : (putF f v (putF g w (putF h x []))).length ≤ 3 := Nat.le_trans (len_putF f v _) (Nat.succ_le_succ (len_two g h w x))
end
/-! ### all but one object is kept -/
def Ko (x : Addr) (H G : Hp) : Prop := ∀ b o, H b = some o → b ≠ x → G b = some o
section
variable {K : PySem.W.Frag} {H G H' : Hp} {x p a C dx : Addr} {o : HO} {xs : List V} {fs : List (Str × V)}
theorem Ko.refl : Ko x H H := fun _ _ h _ => h
theorem Ko.step (k : Ko x H G) (e : Ex G H') : Ko x H (upd H' x o) := fun b u h hb => by rw [upd_ne hb]; exact e b u (k b u h hb)
theorem Ko.ex (k : Ko x H G) (e : Ex G H') : Ko x H H' := fun b u h hb => e b u (k b u h hb)
theorem Ko.free (k : Ko x H G) (h : G p = none) (hx : p ≠ x) : H p = none := by
  cases q : H p with
  | none => rfl
  | some u =>
    rw [k p u q hx] at h
    cases h
theorem sq_ko (h : SqL K H a xs) (hx : H x = some (.ins C dx fs)) (k : Ko x H G) : SqL K G a xs := by
  rcases h with (h | ⟨q, h⟩) | h
  · exact .inl (.inl (k _ _ h (fun z => by rw [z, hx] at h; cases h)))
  · exact .inl (.inr ⟨q, k _ _ h (fun z => by rw [z, hx] at h; cases h)⟩)
  · exact .inr h
end
end RK
/-! RrKit5: what evaluates to something of which a word holds; lists of new lists; either way of an if as a value. -/
namespace RK
open PySem L2 Evl RR
/-- a word of a value that stays when objects are added -/
abbrev Wd := V → Hp → Prop
def Mono (φ : Wd) : Prop := ∀ v H H', Ex H H' → φ v H → φ v H'
def EvP (te : TE) (σ : L2.St) (H : Hp) (φ : Wd) : Prop := ∀ H1, Ex H H1 → ∀ Q : VK, (∀ v H2, Ex H1 H2 → φ v H2 → Q v H2) → te σ H1 Q
def AllW (H : Hp) : List Wd → List V → Prop
  | [], vs => vs = []
  | φ :: φs, vs => ∃ y ys, vs = y :: ys ∧ φ y H ∧ AllW H φs ys
def EvPs (ta : TA) (σ : L2.St) (H : Hp) (φs : List Wd) : Prop := ∀ H1, Ex H H1 → ∀ Q : List V → Hp → Prop, (∀ vs H2, Ex H1 H2 → AllW H2 φs vs → Q vs H2) → ta σ H1 Q
section
variable {K : PySem.W.Frag} {σ : L2.St} {H H' : Hp} {ta' tb' : TA} {ta tb tc te tl : TE} {t u : TT} {x y z v : V} {xs ys zs : List V} {ns : List Int} {i j : Int} {a : Addr} {D : Ends} {tu tw tz : TS} {φ : Wd} {φs : List Wd}
def wIs (v : V) : Wd := fun y _ => y = v
def wL (K : PySem.W.Frag) (xs : List V) : Wd := fun y H => ∃ p, y = .ref p ∧ SqL K H p xs
def wM (xs : List V) : Wd := fun y H => ∃ p, y = .ref p ∧ H p = some (.lst xs)
def wT (φs : List Wd) : Wd := fun y H => ∃ T vs, y = .ref T ∧ H T = some (.tup vs) ∧ AllW H φs vs
theorem mono_is : Mono (wIs v) := fun _ _ _ _ h => h
theorem mono_l : Mono (wL K xs) := fun _ _ _ e ⟨p, h1, h2⟩ => ⟨p, h1, ex_l e h2⟩
theorem mono_m : Mono (wM xs) := fun _ _ _ e ⟨p, h1, h2⟩ => ⟨p, h1, e _ _ h2⟩
theorem allW_up : ∀ {φs : List Wd} {vs : List V}, (∀ φ ∈ φs, Mono φ) → AllW H φs vs → Ex H H' → AllW H' φs vs
  | [], _, _, h, _ => h
  | φ :: φs, _, m, ⟨y, ys, h1, h2, h3⟩, e => ⟨y, ys, h1, m φ List.mem_cons_self y H H' e h2, allW_up (fun ψ hψ => m ψ (List.mem_cons_of_mem _ hψ)) h3 e⟩
theorem mono_t (m : ∀ φ ∈ φs, Mono φ) : Mono (wT φs) := fun _ _ _ e ⟨T, vs, h1, h2, h3⟩ => ⟨T, vs, h1, e _ _ h2, allW_up m h3 e⟩
theorem allW_len : ∀ {φs : List Wd} {vs : List V}, AllW H φs vs → vs.length = φs.length
  | [], _, h => by rw [show _ = [] from h]; rfl
  | _ :: _, _, ⟨y, ys, h1, h2, h3⟩ => by rw [h1, List.length_cons, List.length_cons, allW_len h3]
theorem allW_at : ∀ {φs : List Wd} {vs : List V} {k : Nat} {y : V}, AllW H φs vs → vs[k]? = some y → ∃ φ, φs[k]? = some φ ∧ φ y H
  | [], _, k, y, h, e => by rw [show _ = [] from h] at e; simp at e
  | φ :: φs, _, 0, y, ⟨z, zs, h1, h2, h3⟩, e => by
    rw [h1] at e
    have : z = y := Option.some.inj e
    subst this
    exact ⟨φ, rfl, h2⟩
  | φ :: φs, _, k + 1, y, ⟨z, zs, h1, h2, h3⟩, e => by
    rw [h1] at e
    exact allW_at (k := k) h3 e
theorem ep_v (h : Ev te σ H v) : EvP te σ H (wIs v) := fun H1 e Q q => h H1 e Q fun H2 e2 => q v H2 e2 rfl
theorem ep_l (h : EvR K te σ H xs) : EvP te σ H (wL K xs) := fun H1 e Q q => h H1 e Q fun p H2 e2 hp => q _ H2 e2 ⟨p, rfl, hp⟩
theorem ep_m (h : EvM te σ H xs) : EvP te σ H (wM xs) := fun H1 e Q q => h H1 e Q fun p H2 e2 hp => q _ H2 e2 ⟨p, rfl, hp⟩
theorem eps_nil : EvPs tNil σ H [] := fun H1 _ _ q => q [] H1 (Ex.refl H1) rfl
theorem eps_cons {tr : TA} (m : Mono φ) (h : EvP te σ H φ) (hr : EvPs tr σ H φs) : EvPs (tCons te tr) σ H (φ :: φs) := fun H1 e Q q =>
  h H1 e _ fun y H2 e2 hy => hr H2 (e.trans e2) _ fun vs H3 e3 hv => q (y :: vs) H3 (e2.trans e3) ⟨y, vs, rfl, m _ _ _ e3 hy, hv⟩
theorem ep_t (m : ∀ φ ∈ φs, Mono φ) (h : EvPs ta' σ H φs) (hz : φs.length ≤ 100000) : EvP (tTup ta') σ H (wT φs) := fun H1 e Q q =>
  h H1 e _ fun vs H2 e2 hv => ⟨sz_of (by rw [allW_len hv]; exact hz), fun p hp => q (.ref p) _ (e2.trans (Ex.new hp)) ⟨p, vs, rfl, upd_same, allW_up m hv (Ex.new hp)⟩⟩
/-- a new list of such things -/
theorem q_asgLW {k : Nat} (m : ∀ φ ∈ φs, Mono φ) (h : EvPs ta' σ H φs) (hz : φs.length ≤ 100000) (q : ∀ l vs H1, H l = none → Ex H H1 → H1 l = some (.lst vs) → AllW H1 φs vs → tz D (σ.set k (some (.ref l))) H1) :
    tSeq (tAsg (tLst ta') (gName k)) tz D σ H := h H (Ex.refl H) _ fun vs H1 e1 hv => ⟨sz_of (by rw [allW_len hv]; exact hz), fun p hp => q p vs _ (fresh_back e1 hp) (e1.trans (Ex.new hp)) upd_same (allW_up m hv (Ex.new hp))⟩
/-- append of such a thing -/
theorem q_appW {l : Addr} (hl : H l = some (.lst xs)) (ha : Ev ta σ H (.ref l)) (h : EvP te σ H φ) (hz : xs.length < 100000) (k : ∀ y H1, Ex H H1 → φ y H1 → tz D σ (upd H1 l (.lst (xs ++ [y])))) :
    tSeq (tDrop (tBM K "list" rAppend ta (tCons te tNil))) tz D σ H := ha H (Ex.refl H) _ fun H1 e1 =>
  ⟨.inl ⟨rfl, _, sq_of (e1 l _ hl)⟩, h H1 e1 _ fun y H2 e2 hy => ⟨l, xs, y, rfl, rfl, e2 l _ (e1 l _ hl), sz_lt hz, k y H2 (e1.trans e2) hy⟩⟩
/-- a new list of two, of three new lists -/
theorem q_asgL2 {k : Nat} (h1 : EvL ta σ H xs) (h2 : EvL tb σ H ys) (q : ∀ l p1 p2 H1, H l = none → H p1 = none → H p2 = none → p1 ≠ p2 → l ≠ p1 → l ≠ p2 → Ex H H1 → H1 l = some (.lst [.ref p1, .ref p2]) → H1 p1 = some (.lst xs) → H1 p2 = some (.lst ys) → tz D (σ.set k (some (.ref l))) H1) :
    tSeq (tAsg (tLst (tCons ta (tCons tb tNil))) (gName k)) tz D σ H :=
  h1 H (Ex.refl H) _ fun p1 H1 n1 e1 g1 => h2 H1 e1 _ fun p2 H2 n2 e2 g2 => ⟨sz_of (by simp), fun l nl => by
    have l1 : l ≠ p1 := (ne_of_none (e2 _ _ g1) nl).symm
    have l2 : l ≠ p2 := (ne_of_none g2 nl).symm
    exact q l p1 p2 _ (fresh_back (e1.trans e2) nl) n1 (fresh_back e1 n2) (ne_of_none g1 n2) l1 l2 ((e1.trans e2).trans (Ex.new nl)) upd_same (by rw [upd_ne l1.symm]; exact e2 _ _ g1) (by rw [upd_ne l2.symm]; exact g2)⟩
theorem q_asgL3 {k : Nat} (h1 : EvL ta σ H xs) (h2 : EvL tb σ H ys) (h3 : EvL tc σ H zs) (q : ∀ l p1 p2 p3 H1, H l = none → H p1 = none → H p2 = none → H p3 = none → p1 ≠ p2 → p1 ≠ p3 → p2 ≠ p3 → l ≠ p1 → l ≠ p2 → l ≠ p3 → Ex H H1 → H1 l = some (.lst [.ref p1, .ref p2, .ref p3]) →
      H1 p1 = some (.lst xs) → H1 p2 = some (.lst ys) → H1 p3 = some (.lst zs) → tz D (σ.set k (some (.ref l))) H1) :
    tSeq (tAsg (tLst (tCons ta (tCons tb (tCons tc tNil)))) (gName k)) tz D σ H :=
  h1 H (Ex.refl H) _ fun p1 H1 n1 e1 g1 => h2 H1 e1 _ fun p2 H2 n2 e2 g2 => h3 H2 (e1.trans e2) _ fun p3 H3 n3 e3 g3 => ⟨sz_of (by simp), fun l nl => by
    have g1' := e3 _ _ (e2 _ _ g1)
    have g2' := e3 _ _ g2
    have l1 : l ≠ p1 := (ne_of_none g1' nl).symm
    have l2 : l ≠ p2 := (ne_of_none g2' nl).symm
    have l3 : l ≠ p3 := (ne_of_none g3 nl).symm
    exact q l p1 p2 p3 _ (fresh_back ((e1.trans e2).trans e3) nl) n1 (fresh_back e1 n2) (fresh_back (e1.trans e2) n3) (ne_of_none g1 n2) (ne_of_none (e2 _ _ g1) n3) (ne_of_none g2 n3) l1 l2 l3 (((e1.trans e2).trans e3).trans (Ex.new nl)) upd_same
      (by rw [upd_ne l1.symm]; exact g1') (by rw [upd_ne l2.symm]; exact g2') (by rw [upd_ne l3.symm]; exact g3)⟩
/-- x = a if t else b, the test known -/
theorem q_asgIfT {k : Nat} (h : EvT t σ H true) (q : ∀ H1, Ex H H1 → ta σ H1 fun y H2 => tz D (σ.set k (some y)) H2) : tSeq (tAsg (tIf t ta tb) (gName k)) tz D σ H := h H (Ex.refl H) _ fun H1 e1 => by
  show ta σ H1 _
  exact q H1 e1
theorem q_asgIfF {k : Nat} (h : EvT t σ H false) (q : ∀ H1, Ex H H1 → tb σ H1 fun y H2 => tz D (σ.set k (some y)) H2) : tSeq (tAsg (tIf t ta tb) (gName k)) tz D σ H := h H (Ex.refl H) _ fun H1 e1 => by
  show tb σ H1 _
  exact q H1 e1
theorem q_parLL {k l : Nat} (h1 : EvL ta σ H xs) (h2 : EvL tb σ H ys) (q : ∀ p1 p2 H1, H p1 = none → H p2 = none → p1 ≠ p2 → Ex H H1 → H1 p1 = some (.lst xs) → H1 p2 = some (.lst ys) → tz D ((σ.set k (some (.ref p1))).set l (some (.ref p2))) H1) :
    tSeq (tPar k l (tCons ta (tCons tb tNil))) tz D σ H :=
  h1 H (Ex.refl H) _ fun p1 H1 n1 e1 g1 => h2 H1 e1 _ fun p2 H2 n2 e2 g2 => ⟨_, _, rfl, q p1 p2 H2 n1 (fresh_back e1 n2) (ne_of_none g1 n2) (e1.trans e2) (e2 _ _ g1) g2⟩
theorem q_par3V {k l m : Nat} (h1 : Ev ta σ H x) (h2 : Ev tb σ H y) (h3 : Ev tc σ H z) (q : ∀ H1, Ex H H1 → tz D (((σ.set k (some x)).set l (some y)).set m (some z)) H1) :
    tSeq (tPar3 k l m (tCons ta (tCons tb (tCons tc tNil)))) tz D σ H := s_par3V (D := { D with nx := tz D }) h1 h2 h3 q
theorem q_asgB {k : Nat} {b : Bool} (h : Ev te σ H (.bl b)) (q : ∀ H1, Ex H H1 → tz D (σ.set k (some (.bl b))) H1) : tSeq (tAsg te (gName k)) tz D σ H := q_asg h q
theorem er_ix (h : EvR K ta σ H xs) (hi : Ev tb σ H (.int i)) (hv : atI xs i = some (.ref a)) (hx : SqL K H a ys) : EvR K (tOp (rIxL K) ta tb) σ H ys := er_v (ev_ixR h hi hv) hx
theorem q_asgT {k : Nat} (h : ta σ H fun y H2 => tz D (σ.set k (some y)) H2) : tSeq (tAsg ta (gName k)) tz D σ H := h
theorem q_asgEx {k : Nat} {P : Addr → Prop} (h : ∃ o, Ev te σ H (.ref o) ∧ P o) (q : ∀ o, P o → ∀ H1, Ex H H1 → tz D (σ.set k (some (.ref o))) H1) : tSeq (tAsg te (gName k)) tz D σ H := by
  obtain ⟨o, h1, h2⟩ := h
  exact q_asg h1 fun H1 e1 => q o h2 H1 e1
theorem ea_nilI : EvA tNil σ H (il []) := ea_nil
theorem ea_consI {tr : TA} {n : Int} (h : Ev te σ H (.int n)) (hr : EvA tr σ H (il ns)) : EvA (tCons te tr) σ H (il (n :: ns)) := ea_cons h hr
theorem el_lstI (h : EvA ta' σ H (il ns)) (hz : ns.length ≤ 100000) : EvL (tLst ta') σ H (il ns) := el_lst h (by rw [il_len]; exact hz)
end
end RK
/-! RrKit6: pop as a value, a range from its end, lists of two lists compared, the last bit. -/
namespace RK
open PySem L2 Evl RR
section
variable {K : PySem.W.Frag} {σ : L2.St} {H H' : Hp} {ta' : TA} {ta tb tc te tl : TE} {t u : TT} {x y z v : V} {xs ys : List V} {ns ms : List Int} {i j : Int} {a b c d : Addr} {D : Ends} {tu tw tz : TS}
theorem pop_split {n : Nat} (h : ns.length = n + 1) : il ns = il (ns.take n) ++ [.int (g ns n)] := by
  have : ns = ns.take n ++ [g ns n] := by
    refine g_ext (by simp; omega) fun k hk => ?_
    by_cases c : k < n
    · rw [g_append_left (by rw [List.length_take]; omega), g_take c]
    · have : k = n := by omega
      subst this
      rw [g_append_right (by rw [List.length_take]; omega), List.length_take, show k - min k ns.length = 0 by omega, g_cons_zero]
  rw [this, ← il_append, show (ns.take n ++ [g ns n]).take n = ns.take n by rw [← this], show g (ns.take n ++ [g ns n]) n = g ns n by rw [← this]]
  rfl
/-- x = xs.pop() -/
theorem q_asgPop {k n : Nat} {l : Addr} (hl : H l = some (.lst (il ns))) (hn : ns.length = n + 1) (ha : Ev ta σ H (.ref l)) (q : ∀ H1, Ex H H1 → tz D (σ.set k (some (.int (g ns n)))) (upd H1 l (.lst (il (ns.take n))))) :
    tSeq (tAsg (tBM0 K "list" rPop ta) (gName k)) tz D σ H := ha H (Ex.refl H) _ fun H1 e1 =>
  ⟨.inl ⟨rfl, _, sq_of (e1 l _ hl)⟩, l, il (ns.take n) ++ [.int (g ns n)], .int (g ns n), rfl, rfl, by rw [← pop_split hn]; exact e1 l _ hl, by simp, by rw [List.dropLast_concat]; exact q H1 e1⟩
/-- x = xs.pop() % m -/
theorem q_asgPopMod {k n : Nat} {l : Addr} (hl : H l = some (.lst (il ns))) (hn : ns.length = n + 1) (ha : Ev ta σ H (.ref l)) (hb : ∀ H1, Ev tb σ H1 (.int j)) (hj : 0 < j) (q : ∀ H1, Ex H H1 → ∀ H2, Ex (upd H1 l (.lst (il (ns.take n)))) H2 → tz D (σ.set k (some (.int (g ns n % j)))) H2) :
    tSeq (tAsg (tOp (rI (fun _ j => 0 < j) fun i j => .int (i % j)) (tBM0 K "list" rPop ta) tb) (gName k)) tz D σ H := ha H (Ex.refl H) _ fun H1 e1 =>
  ⟨.inl ⟨rfl, _, sq_of (e1 l _ hl)⟩, l, il (ns.take n) ++ [.int (g ns n)], .int (g ns n), rfl, rfl, by rw [← pop_split hn]; exact e1 l _ hl, by simp, by
    rw [List.dropLast_concat]
    exact hb _ _ (Ex.refl _) _ fun H2 e2 => ⟨_, _, rfl, rfl, hj, q H1 e1 H2 e2⟩⟩
/-- for i in reversed(range(n)) -/
theorem s_forRev {k : Nat} {n : Int} (h : Ev ta σ H (.int n)) (hn : 0 ≤ n ∧ n ≤ 100000) (Pv : Nat → L2.St → Hp → Prop) (h0 : ∀ H1, Ex H H1 → Pv 0 σ H1)
    (hs : ∀ (i : Nat) σ' H', (i : Int) < n → Pv i σ' H' → tu { D with nx := Pv (i + 1), ct := Pv (i + 1), bk := D.nx } (σ'.set k (some (.int (n - 1 - i)))) H') (hd : ∀ σ' H', Pv n.toNat σ' H' → D.nx σ' H') : tFor (iRevR (tRg1 ta)) (gName k) tu D σ H :=
  h H (Ex.refl H) _ fun H1 e => ⟨n, rfl, by omega, by omega, by omega, by omega, by
    rw [show (n - 0).toNat = n.toNat by omega]
    refine for_rangeC (n := n.toNat) Pv (h0 H1 e) (fun i σ' H' hi p => ?_) hd
    rw [show (0 : Int) + ((n.toNat : Nat) : Int) - 1 + (i : Nat) * (-1) = n - 1 - i by omega]
    exact hs i σ' H' (by omega) p⟩
theorem q_forRev {k : Nat} {n : Int} (h : Ev ta σ H (.int n)) (hn : 0 ≤ n ∧ n ≤ 100000) (Pv : Nat → L2.St → Hp → Prop) (h0 : ∀ H1, Ex H H1 → Pv 0 σ H1)
    (hs : ∀ (i : Nat) σ' H', (i : Int) < n → Pv i σ' H' → tu { D with nx := Pv (i + 1), ct := Pv (i + 1), bk := tz D } (σ'.set k (some (.int (n - 1 - i)))) H') (hd : ∀ σ' H', Pv n.toNat σ' H' → tz D σ' H') : tSeq (tFor (iRevR (tRg1 ta)) (gName k) tu) tz D σ H :=
  s_forRev (D := { D with nx := tz D }) h hn Pv h0 hs hd
theorem and_one {i : Int} (h : 0 ≤ i) : Builtin.bitAnd i 1 = i % 2 := Bits.bitAnd_mask (x := i) 1 h
theorem ev_band1 (ha : Ev ta σ H (.int i)) (hb : Ev tb σ H (.int 1)) (h : 0 ≤ i) : Ev (tOp (rI0 fun i j => .int (Builtin.bitAnd i j)) ta tb) σ H (.int (i % 2)) := ev_is (ev_band ha hb) (by rw [and_one h])
theorem ev_absI (ha : Ev ta σ H (.int i)) : Ev (tCB rAbs (tCons ta tNil)) σ H (.int (if i < 0 then -i else i)) := fun H1 e Q q => ha H1 e _ fun H2 e2 => ⟨i, rfl, q H2 e2⟩
/-- lists of two lists of numbers -/
def EvLL (K : PySem.W.Frag) (te : TE) (σ : L2.St) (H : Hp) (xs ys : List Int) : Prop := ∀ H1, Ex H H1 → ∀ Q : VK, (∀ l p1 p2 H2, Ex H1 H2 → SqL K H2 l [.ref p1, .ref p2] → SqL K H2 p1 (il xs) → SqL K H2 p2 (il ys) → Q (.ref l) H2) → te σ H1 Q
theorem ell_var {n : Nat} {l p1 p2 : Addr} {xs ys : List Int} (h : σ[n]? = some (some (.ref l))) (hl : SqL K H l [.ref p1, .ref p2]) (h1 : SqL K H p1 (il xs)) (h2 : SqL K H p2 (il ys)) : EvLL K (tVar n) σ H xs ys := fun H1 e Q q =>
  ⟨_, h, q l p1 p2 H1 (Ex.refl H1) (ex_l e hl) (ex_l e h1) (ex_l e h2)⟩
theorem ell_lst {xs ys : List Int} (h1 : EvR K ta σ H (il xs)) (h2 : EvR K tb σ H (il ys)) : EvLL K (tLst (tCons ta (tCons tb tNil))) σ H xs ys := fun H1 e Q q =>
  h1 H1 e _ fun p1 H2 e2 g1 => h2 H2 (e.trans e2) _ fun p2 H3 e3 g2 => ⟨sz_of (by simp), fun l nl => q l p1 p2 _ ((e2.trans e3).trans (Ex.new nl)) (sq_of upd_same) (ex_l (Ex.new nl) (ex_l e3 g1)) (ex_l (Ex.new nl) g2)⟩
theorem dpLL {H : Hp} {l p1 p2 : Addr} {xs ys : List Int} (hl : SqL K H l [.ref p1, .ref p2]) (h1 : SqL K H p1 (il xs)) (h2 : SqL K H p2 (il ys)) : Dp K H (.ref l) (.list [.list (xs.map PyData.int), .list (ys.map PyData.int)]) := .lst hl (.cons (dp_ints h1) (.cons (dp_ints h2) .nil))
theorem shapedLL (xs ys : List Int) : SeqAt.shaped (.list [.list (xs.map PyData.int), .list (ys.map PyData.int)]) = true := by
  show ((PyData.canLayAll0 (xs.map PyData.int) && (PyData.canLayAll0 (ys.map PyData.int) && true)) && decide (max (PyData.depthAll (xs.map PyData.int) + 1) (max (PyData.depthAll (ys.map PyData.int) + 1) 0) + 1 ≤ 64)) = true
  rw [canLay_ints, canLay_ints, depth_ints, depth_ints]
  rfl
theorem ev_eqLL {xs ys xs' ys' : List Int} (ha : EvLL K ta σ H xs ys) (hb : EvLL K tb σ H xs' ys') : Ev (tOp (rEqD K) ta tb) σ H (.bl (decide (xs = xs') && decide (ys = ys'))) := fun H1 e Q q =>
  ha H1 e _ fun l p1 p2 H2 e2 hl h1 h2 => hb H2 (e.trans e2) _ fun l' p1' p2' H3 e3 hl' h1' h2' => ⟨_, _, dpLL (ex_l e3 hl) (ex_l e3 h1) (ex_l e3 h2), dpLL hl' h1' h2', shapedLL _ _, shapedLL _ _, by
    show Q (.bl (PyData.eqvAll _ _ && (PyData.eqvAll _ _ && true))) H3
    rw [eqv_ints, eqv_ints, Bool.and_true]
    exact q H3 (e2.trans e3)⟩
theorem ev_neLL {xs ys xs' ys' : List Int} (ha : EvLL K ta σ H xs ys) (hb : EvLL K tb σ H xs' ys') : Ev (tOp (rNeD K) ta tb) σ H (.bl (!(decide (xs = xs') && decide (ys = ys')))) := fun H1 e Q q =>
  ha H1 e _ fun l p1 p2 H2 e2 hl h1 h2 => hb H2 (e.trans e2) _ fun l' p1' p2' H3 e3 hl' h1' h2' => ⟨_, _, dpLL (ex_l e3 hl) (ex_l e3 h1) (ex_l e3 h2), dpLL hl' h1' h2', shapedLL _ _, shapedLL _ _, by
    show Q (.bl (!(PyData.eqvAll _ _ && (PyData.eqvAll _ _ && true)))) H3
    rw [eqv_ints, eqv_ints, Bool.and_true]
    exact q H3 (e2.trans e3)⟩
end
end RK
/-! RrFar: a row gone on, and what stands at a far place, by powers of a step. -/
namespace RR
/-- the row gone on by so many numbers -/
def goF (p : Int) (rule row : List Int) : Nat → List Int
  | 0 => row
  | m + 1 => goF p rule row m ++ [due p rule (goF p rule row m) (goF p rule row m).length]
section
variable {p : Int} {rule row : List Int}
theorem goF_len : ∀ m, (goF p rule row m).length = row.length + m
  | 0 => rfl
  | m + 1 => by unfold goF; rw [List.length_append, goF_len m]; simp; omega
theorem goF_g {n m : Nat} (h : n < row.length + m) : ∀ j, g (goF p rule row (m + j)) n = g (goF p rule row m) n
  | 0 => rfl
  | j + 1 => by
    rw [← Nat.add_assoc]
    show g (goF p rule row (m + j) ++ [due p rule (goF p rule row (m + j)) (goF p rule row (m + j)).length]) n = _
    rw [g_append_left (by rw [goF_len]; omega)]
    exact goF_g h j
/-- the number at a place of the row gone on -/
def ext (p : Int) (rule row : List Int) (n : Nat) : Int := g (goF p rule row (n + 1)) n
theorem ext_go {n m : Nat} (h : n < row.length + m) : g (goF p rule row m) n = ext p rule row n := by
  unfold ext
  by_cases c : m ≤ n + 1
  · rw [show n + 1 = m + (n + 1 - m) by omega, goF_g h]
  · rw [show m = n + 1 + (m - (n + 1)) by omega, goF_g (by omega)]
theorem ext_row {n : Nat} (h : n < row.length) : ext p rule row n = g row n := (ext_go (m := 0) (by omega)).symm
theorem ext_rec {n : Nat} (hl : rule.length ≤ row.length) (h : row.length ≤ n) : ext p rule row n = S rule.length (fun k => g rule k * ext p rule row (n - 1 - k)) % p := by
  obtain ⟨m, rfl⟩ : ∃ m, n = row.length + m := ⟨n - row.length, by omega⟩
  rw [← ext_go (m := m + 1) (by omega)]
  unfold goF
  rw [g_append_right (by rw [goF_len]; omega), goF_len, show row.length + m - (row.length + m) = 0 by omega, g_cons_zero]
  unfold due
  refine cg_S fun k hk => ?_
  rw [ext_go (m := m) (by omega)]
theorem ext_rs (hp : 0 < p) (hr : Rs p row) (hl : rule.length ≤ row.length) (n : Nat) : 0 ≤ ext p rule row n ∧ ext p rule row n < p := by
  by_cases h : n < row.length
  · rw [ext_row h]; exact hr.g hp n
  · rw [ext_rec hl (by omega)]
    exact ⟨Int.emod_nonneg _ (by omega), Int.emod_lt_of_pos _ hp⟩
theorem goF_rs (hp : 0 < p) (hr : Rs p row) : ∀ m, Rs p (goF p rule row m)
  | 0 => hr
  | m + 1 => fun x hx => by
    unfold goF at hx
    rcases List.mem_append.mp hx with h | h
    · exact goF_rs hp hr m x h
    · rw [List.mem_singleton.mp h]
      exact ⟨Int.emod_nonneg _ (by omega), Int.emod_lt_of_pos _ hp⟩
end

/-! ### sums of powers, at a place -/
def F (e : Nat → Int) (f : List Int) (m : Nat) : Int := S f.length (fun k => g f k * e (m + k))
theorem S_single {n t : Nat} (h : t < n) (c : Int) : S n (fun k => if k = t then c else 0) = c := by
  induction n with
  | zero => omega
  | succ n ih =>
    simp only [S]
    by_cases e : t = n
    · subst e
      rw [if_pos rfl, S_zero (fun k hk => if_neg (by omega))]
      omega
    · rw [ih (by omega), if_neg (fun z => e z.symm)]
      omega
theorem F_set {e : Nat → Int} {f : List Int} {t : Nat} {v : Int} (h : t < f.length) (m : Nat) : F e (f.set t v) m = F e f m + (v - g f t) * e (m + t) := by
  unfold F
  rw [List.length_set, ← S_single h ((v - g f t) * e (m + t)), ← S_add]
  refine S_congr fun k hk => ?_
  by_cases c : k = t
  · subst c
    rw [if_pos rfl, g_set_self h, Int.sub_mul]
    omega
  · rw [if_neg c, g_set_ne (fun z => c z.symm)]
    omega
theorem F_last {e : Nat → Int} {f : List Int} {n : Nat} (h : f.length = n + 1) (m : Nat) : F e f m = F e (f.take n) m + g f n * e (m + n) := by
  unfold F
  rw [h, List.length_take, h, show min n (n + 1) = n by omega]
  simp only [S]
  rw [S_congr (n := n) (f := fun k => g (f.take n) k * e (m + k)) (h := fun k => g f k * e (m + k)) (fun k hk => by rw [g_take hk])]
theorem F_map {p : Int} {e : Nat → Int} {f : List Int} {r : Int → Int} (hr : ∀ x, r x % p = x % p) (m : Nat) : F e (f.map r) m % p = F e f m % p := by
  unfold F
  rw [List.length_map]
  refine cg_S fun k hk => cg_mul ?_ rfl
  rw [g_map hk]
  exact hr _

/-! ### multiplied -/
/-- one power of the one by all of the other -/
def inn (r : Int → Int) (a : Int) (other l : List Int) (i : Nat) : Nat → List Int
  | 0 => l
  | j + 1 => (inn r a other l i j).set (i + j) (r (g (inn r a other l i j) (i + j) + a * g other j))
theorem inn_len (r : Int → Int) (a : Int) (other l : List Int) (i : Nat) : ∀ j, (inn r a other l i j).length = l.length
  | 0 => rfl
  | j + 1 => by unfold inn; rw [List.length_set, inn_len r a other l i j]
theorem inn_F {p : Int} {r : Int → Int} (hr : ∀ x, r x % p = x % p) {e : Nat → Int} {a : Int} {other l : List Int} {i : Nat} (m : Nat) : ∀ j, i + j ≤ l.length → F e (inn r a other l i j) m % p = (F e l m + a * S j (fun k => g other k * e (m + i + k))) % p
  | 0, _ => by simp [inn, S]
  | j + 1, h => by
    unfold inn
    rw [F_set (by rw [inn_len]; omega)]
    have ih := inn_F (p := p) hr (e := e) (a := a) (other := other) (l := l) (i := i) m j (by omega)
    obtain ⟨x, hx⟩ : ∃ x, g (inn r a other l i j) (i + j) = x := ⟨_, rfl⟩
    rw [hx]
    have h2 : ((r (x + a * g other j) - x) * e (m + (i + j))) % p = (a * g other j * e (m + (i + j))) % p := by
      refine cg_mul ?_ rfl
      have := cg_sub (hr (x + a * g other j)) (rfl : x % p = x % p)
      rw [this, show x + a * g other j - x = a * g other j by omega]
    rw [cg_add ih h2]
    simp only [S]
    rw [Int.mul_add, Int.add_assoc, ← Nat.add_assoc, Int.mul_assoc]
def outF (r : Int → Int) (one other : List Int) (len : Nat) : Nat → List Int
  | 0 => List.replicate len 0
  | i + 1 => inn r (g one i) other (outF r one other len i) i other.length
theorem outF_len (r : Int → Int) (one other : List Int) (len : Nat) : ∀ i, (outF r one other len i).length = len
  | 0 => by simp [outF]
  | i + 1 => by unfold outF; rw [inn_len, outF_len r one other len i]
theorem outF_F {p : Int} {r : Int → Int} (hr : ∀ x, r x % p = x % p) {e : Nat → Int} {one other : List Int} {len : Nat} (m : Nat) : ∀ i, (i = 0 ∨ i + other.length ≤ len + 1) → F e (outF r one other len i) m % p = S i (fun k => g one k * F e other (m + k)) % p
  | 0, _ => by
    unfold outF F
    rw [S_zero (fun k _ => by rw [g_replicate, Int.zero_mul])]
    rfl
  | i + 1, h => by
    unfold outF
    rw [inn_F hr m other.length (by rw [outF_len]; omega), cg_add (outF_F hr m i (by omega)) rfl]
    rfl
theorem F_nil (e : Nat → Int) (m : Nat) : F e [] m = 0 := rfl
/-- two lists of rests multiplied, as the program does -/
def timesF (p : Int) (one other : List Int) : List Int := if one.length = 0 ∨ other.length = 0 then [] else outF (· % p) one other (one.length + other.length - 1) one.length
theorem timesF_len (p : Int) (one other : List Int) : (timesF p one other).length ≤ one.length + other.length := by
  unfold timesF
  split
  · simp
  · rw [outF_len]; omega
theorem timesF_F {p : Int} {e : Nat → Int} (one other : List Int) (m : Nat) : F e (timesF p one other) m % p = S one.length (fun k => g one k * F e other (m + k)) % p := by
  unfold timesF
  split
  · rename_i h
    rcases h with h | h
    · rw [h]; rfl
    · rw [F_nil, S_zero (fun k _ => by rw [show other = [] from List.eq_nil_of_length_eq_zero h, F_nil, Int.mul_zero])]
  · exact outF_F (fun x => mm) m _ (by omega)
theorem inn_rs {p : Int} (hp : 0 < p) {a : Int} {other l : List Int} {i : Nat} (h : Rs p l) : ∀ j, Rs p (inn (· % p) a other l i j)
  | 0 => h
  | j + 1 => fun x hx => by
    unfold inn at hx
    rcases List.mem_or_eq_of_mem_set hx with w | w
    · exact inn_rs hp h j x w
    · rw [w]; exact ⟨Int.emod_nonneg _ (by omega), Int.emod_lt_of_pos _ hp⟩
theorem outF_rs {p : Int} (hp : 0 < p) {one other : List Int} {len : Nat} : ∀ i, Rs p (outF (· % p) one other len i)
  | 0 => fun x hx => by
    have := (List.mem_replicate.mp hx).2
    omega
  | i + 1 => by unfold outF; exact inn_rs hp (outF_rs hp i) _
theorem timesF_rs {p : Int} (hp : 0 < p) (one other : List Int) : Rs p (timesF p one other) := by
  unfold timesF
  split
  · exact Rs.nil
  · exact outF_rs hp _

/-! ### brought down -/
/-- the highest power is due by the rule of those beneath -/
def bin (r : Int → Int) (most : Int) (rule l : List Int) (n : Nat) : Nat → List Int
  | 0 => l
  | k + 1 => (bin r most rule l n k).set (n - 1 - k) (r (g (bin r most rule l n k) (n - 1 - k) + most * g rule k))
theorem bin_len (r : Int → Int) (most : Int) (rule l : List Int) (n : Nat) : ∀ k, (bin r most rule l n k).length = l.length
  | 0 => rfl
  | k + 1 => by unfold bin; rw [List.length_set, bin_len r most rule l n k]
theorem bin_F {p : Int} {r : Int → Int} (hr : ∀ x, r x % p = x % p) {e : Nat → Int} {most : Int} {rule l : List Int} {n : Nat} (hl : l.length = n) (m : Nat) : ∀ k, k ≤ n → F e (bin r most rule l n k) m % p = (F e l m + most * S k (fun j => g rule j * e (m + n - 1 - j))) % p
  | 0, _ => by simp [bin, S]
  | k + 1, h => by
    unfold bin
    rw [F_set (by rw [bin_len]; omega)]
    have ih := bin_F (p := p) hr (e := e) (most := most) (rule := rule) hl m k (by omega)
    obtain ⟨x, hx⟩ : ∃ x, g (bin r most rule l n k) (n - 1 - k) = x := ⟨_, rfl⟩
    rw [hx]
    have h2 : ((r (x + most * g rule k) - x) * e (m + (n - 1 - k))) % p = (most * g rule k * e (m + (n - 1 - k))) % p := by
      refine cg_mul ?_ rfl
      have := cg_sub (hr (x + most * g rule k)) (rfl : x % p = x % p)
      rw [this, show x + most * g rule k - x = most * g rule k by omega]
    rw [cg_add ih h2]
    simp only [S]
    rw [Int.mul_add, Int.add_assoc, show m + (n - 1 - k) = m + n - 1 - k by omega, Int.mul_assoc]
/-- one step down: the last is taken away -/
def bdStep (r rm : Int → Int) (rule l : List Int) : List Int := bin r (rm (g l (l.length - 1))) rule (l.take (l.length - 1)) (l.length - 1) rule.length
theorem bdStep_len (r rm : Int → Int) (rule l : List Int) : (bdStep r rm rule l).length = l.length - 1 := by
  unfold bdStep
  rw [bin_len, List.length_take]
  omega
def bdF (r rm : Int → Int) (rule l : List Int) : Nat → List Int
  | 0 => l
  | t + 1 => bdStep r rm rule (bdF r rm rule l t)
theorem bdF_len (r rm : Int → Int) (rule l : List Int) : ∀ t, (bdF r rm rule l t).length = l.length - t
  | 0 => rfl
  | t + 1 => by unfold bdF; rw [bdStep_len, bdF_len r rm rule l t]; omega
theorem bdStep_F {p : Int} {r rm : Int → Int} (hr : ∀ x, r x % p = x % p) (hrm : ∀ x, rm x % p = x % p) {rule row l : List Int} (hl : rule.length ≤ row.length) {m : Nat} (h : rule.length < l.length) (hm : row.length ≤ m + rule.length) :
    F (ext p rule row) (bdStep r rm rule l) m % p = F (ext p rule row) l m % p := by
  obtain ⟨n, hn⟩ : ∃ n, l.length = n + 1 := ⟨l.length - 1, by omega⟩
  unfold bdStep
  rw [hn, show n + 1 - 1 = n by omega, bin_F hr (by rw [List.length_take, hn]; omega) m rule.length (by omega), F_last hn]
  refine cg_add rfl (cg_mul (hrm _) ?_)
  rw [ext_rec hl (by omega), mm]
theorem bdF_F {p : Int} {r rm : Int → Int} (hr : ∀ x, r x % p = x % p) (hrm : ∀ x, rm x % p = x % p) {rule row l : List Int} (hl : rule.length ≤ row.length) {m : Nat} (hm : row.length ≤ m + rule.length) : ∀ t, rule.length + t ≤ l.length →
    F (ext p rule row) (bdF r rm rule l t) m % p = F (ext p rule row) l m % p
  | 0, _ => rfl
  | t + 1, h => by
    unfold bdF
    rw [bdStep_F hr hrm hl (by rw [bdF_len]; omega) hm]
    exact bdF_F hr hrm hl hm t (by omega)
theorem bin_rs {p : Int} (hp : 0 < p) {most : Int} {rule l : List Int} {n : Nat} (h : Rs p l) : ∀ k, Rs p (bin (· % p) most rule l n k)
  | 0 => h
  | k + 1 => fun x hx => by
    unfold bin at hx
    rcases List.mem_or_eq_of_mem_set hx with w | w
    · exact bin_rs hp h k x w
    · rw [w]; exact ⟨Int.emod_nonneg _ (by omega), Int.emod_lt_of_pos _ hp⟩
theorem bdF_rs {p : Int} (hp : 0 < p) {rm : Int → Int} {rule l : List Int} (h : Rs p l) : ∀ t, Rs p (bdF (· % p) rm rule l t)
  | 0 => h
  | t + 1 => by
    unfold bdF bdStep
    exact bin_rs hp (fun x hx => bdF_rs hp h t x (List.mem_of_mem_take hx)) _
/-- as the program does it -/
def down (p : Int) (rule l : List Int) : List Int := bdF (· % p) id rule l (l.length - rule.length)
theorem down_len (p : Int) (rule l : List Int) : (down p rule l).length ≤ rule.length ∨ (down p rule l).length = l.length ∧ l.length ≤ rule.length := by
  unfold down
  rw [bdF_len]
  omega
theorem down_F {p : Int} {rule row l : List Int} (hl : rule.length ≤ row.length) {m : Nat} (hm : row.length ≤ m + rule.length) : F (ext p rule row) (down p rule l) m % p = F (ext p rule row) l m % p := by
  unfold down
  by_cases h : rule.length ≤ l.length
  · exact bdF_F (fun x => mm) (fun x => rfl) hl hm _ (by omega)
  · rw [show l.length - rule.length = 0 by omega]; rfl
theorem down_rs {p : Int} (hp : 0 < p) {rule l : List Int} (h : Rs p l) : Rs p (down p rule l) := bdF_rs hp h _

/-! ### what stands for a power of a step -/
structure Rep (p : Int) (rule row f : List Int) (t : Nat) : Prop where
  len : f.length ≤ rule.length
  rs : Rs p f
  at_ : ∀ m, row.length ≤ m + rule.length → F (ext p rule row) f m % p = ext p rule row (m + t) % p
section
variable {p : Int} {rule row : List Int}
theorem rep_mul {f h : List Int} {t u : Nat} {fh : List Int} (hf : Rep p rule row f t) (hh : Rep p rule row h u) (hl : fh.length ≤ rule.length) (hrs : Rs p fh)
    (e : ∀ m, row.length ≤ m + rule.length → F (ext p rule row) fh m % p = S f.length (fun k => g f k * F (ext p rule row) h (m + k)) % p) : Rep p rule row fh (t + u) := ⟨hl, hrs, fun m hm => by
  rw [e m hm, cg_S (h := fun k => g f k * ext p rule row (m + u + k)) (fun k hk => cg_mul rfl (by rw [hh.at_ (m + k) (by omega), show m + k + u = m + u + k by omega]))]
  have := hf.at_ (m + u) (by omega)
  unfold F at this
  rw [this, show m + u + t = m + (t + u) by omega]⟩
theorem rep_times {f h : List Int} {t u : Nat} (hp : 0 < p) (hl : rule.length ≤ row.length) (h0 : 0 < rule.length) (hf : Rep p rule row f t) (hh : Rep p rule row h u) : Rep p rule row (down p rule (timesF p f h)) (t + u) :=
  rep_mul hf hh (by have := down_len p rule (timesF p f h); omega) (down_rs hp (timesF_rs hp f h)) fun m hm => by
    rw [down_F hl hm, timesF_F]
theorem F_one (e : Nat → Int) (m : Nat) : F e [1] m = e m := by
  show 0 + (1 : Int) * e (m + 0) = e m
  rw [Int.one_mul, Int.zero_add, Nat.add_zero]
theorem F_step (e : Nat → Int) (m : Nat) : F e [0, 1] m = e (m + 1) := by
  show 0 + (0 : Int) * e (m + 0) + (1 : Int) * e (m + 1) = e (m + 1)
  rw [Int.one_mul, Int.zero_mul]
  omega
theorem rs_one (hp : 1 < p) : Rs p [1] := fun x hx => by
  simp only [List.mem_cons, List.mem_nil_iff, or_false] at hx
  omega
theorem rs_step (hp : 1 < p) : Rs p [0, 1] := fun x hx => by
  simp only [List.mem_cons, List.mem_nil_iff, or_false] at hx
  omega
theorem rep_one (hp : 1 < p) (hl : rule.length ≤ row.length) (h0 : 0 < rule.length) : Rep p rule row (down p rule [1]) 0 :=
  ⟨by have h := down_len p rule [1]; simp at h; omega, down_rs (by omega) (rs_one hp), fun m hm => by rw [down_F hl hm, F_one]; rfl⟩
theorem rep_step (hp : 1 < p) (hl : rule.length ≤ row.length) (h0 : 0 < rule.length) : Rep p rule row (down p rule [0, 1]) 1 :=
  ⟨by have h := down_len p rule [0, 1]; simp at h; omega, down_rs (by omega) (rs_step hp), fun m hm => by rw [down_F hl hm, F_step]⟩
/-- the number, from what stands for the power -/
theorem rep_far {f : List Int} {t : Nat} (hp : 0 < p) (hr : Rs p row) (hl : rule.length ≤ row.length) (hf : Rep p rule row f t) :
    S f.length (fun k => g f k * g row (row.length - rule.length + k)) % p = ext p rule row (row.length - rule.length + t) := by
  have h := hf.at_ (row.length - rule.length) (by omega)
  unfold F at h
  have hlen := hf.len
  rw [S_congr (h := fun k => g f k * g row (row.length - rule.length + k)) (fun k hk => by rw [ext_row (by omega)])] at h
  rw [h]
  exact emod_small (ext_rs hp hr hl _)
/-! ### as law 3 does it: the highest figure first, rests at the end alone -/
def lawTimes (p : Int) (rule one other : List Int) : List Int :=
  (bdF id (· % p) rule (outF id one other (one.length + other.length) one.length) (one.length + other.length - (if (rule.length : Int) > 1 then rule.length else 1))).map (· % p)
theorem lawTimes_len (rule one other : List Int) (h0 : 0 < rule.length) : (lawTimes p rule one other).length ≤ rule.length := by
  unfold lawTimes
  rw [List.length_map, bdF_len, outF_len]
  split <;> omega
theorem rep_lawTimes {f h : List Int} {t u : Nat} (hp : 0 < p) (hl : rule.length ≤ row.length) (h0 : 0 < rule.length) (hf : Rep p rule row f t) (hh : Rep p rule row h u) : Rep p rule row (lawTimes p rule f h) (t + u) :=
  rep_mul hf hh (lawTimes_len rule f h h0) (Rs.mod hp) fun m hm => by
    unfold lawTimes
    rw [F_map (fun x => mm)]
    by_cases c : rule.length ≤ f.length + h.length
    · rw [bdF_F (r := id) (fun x => rfl) (fun x => mm) hl hm _ (by rw [outF_len]; split <;> omega)]
      exact outF_F (r := id) (fun x => rfl) m _ (by omega)
    · rw [show f.length + h.length - (if (rule.length : Int) > 1 then rule.length else 1) = 0 by split <;> omega]
      exact outF_F (r := id) (fun x => rfl) m _ (by omega)
/-- by the step itself, however long the rule: [0, 1] may be longer than it -/
theorem rep_lawStep {f : List Int} {t : Nat} (hp : 0 < p) (hl : rule.length ≤ row.length) (h0 : 0 < rule.length) (hf : Rep p rule row f t) : Rep p rule row (lawTimes p rule f [0, 1]) (t + 1) := ⟨lawTimes_len rule f [0, 1] h0, Rs.mod hp, fun m hm => by
  have key : F (ext p rule row) (lawTimes p rule f [0, 1]) m % p = S f.length (fun k => g f k * F (ext p rule row) [0, 1] (m + k)) % p := by
    unfold lawTimes
    rw [F_map (fun x => mm)]
    by_cases c : rule.length ≤ f.length + ([0, 1] : List Int).length
    · rw [bdF_F (r := id) (fun x => rfl) (fun x => mm) hl hm _ (by rw [outF_len]; split <;> omega)]
      exact outF_F (r := id) (fun x => rfl) m _ (by omega)
    · rw [show f.length + ([0, 1] : List Int).length - (if (rule.length : Int) > 1 then rule.length else 1) = 0 by split <;> omega]
      exact outF_F (r := id) (fun x => rfl) m _ (by omega)
  rw [key, S_congr (h := fun k => g f k * ext p rule row (m + 1 + k)) (fun k hk => by rw [F_step, show m + k + 1 = m + 1 + k by omega])]
  have := hf.at_ (m + 1) (by omega)
  unfold F at this
  rw [this, show m + 1 + t = m + (t + 1) by omega]⟩
theorem rep_lawOne (hp : 1 < p) (h0 : 0 < rule.length) : Rep p rule row [1] 0 := ⟨by simp; omega, rs_one hp, fun m hm => by rw [F_one]; rfl⟩
end
/-! ### law 3's own row and what it asks of it -/
theorem makes_tail {p : Int} {rule row : List Int} (hl : rule.length ≤ row.length) (m : Nat) : Makes p rule ((goF p rule row m).drop (row.length - rule.length)) := fun n h1 h2 => by
  rw [List.length_drop, goF_len] at h2
  rw [g_drop, ext_go (by omega), ext_rec hl (by omega)]
  unfold due
  refine cg_S fun k hk => ?_
  rw [g_drop, ext_go (by omega), show row.length - rule.length + n - 1 - k = row.length - rule.length + (n - 1 - k) by omega]
theorem half_step (s k : Nat) : s / 2 ^ k = s / 2 ^ (k + 1) + s / 2 ^ (k + 1) + s / 2 ^ k % 2 := by
  rw [Nat.pow_succ, ← Nat.div_div_eq_div_mul]
  omega
theorem int_shift (s k : Nat) : (s : Int) / 2 ^ k = ((s / 2 ^ k : Nat) : Int) := by
  rw [Int.natCast_ediv]
  simp
end RR
/-! RrLaw: what the laws draw out of a script: a prime, rests, a row. -/
namespace RR
def PR : List Int := [1000003, 1000033, 1000037, 1000039, 1000081, 1000099, 1000117, 1000121, 1000133, 1000151, 1000159, 1000171, 1000183, 1000187, 1000193, 1000199]
theorem PR_pos (k : Int) : 0 < g PR (k % 16).toNat := by
  have h1 : 0 ≤ k % 16 := Int.emod_nonneg _ (by decide)
  have h2 : k % 16 < 16 := Int.emod_lt_of_pos _ (by decide)
  have : ∀ i : Nat, i < 16 → 0 < g PR i := by decide
  exact this _ (by omega)
def draw (c k m : Int) : Int := (c * 48271 + k * 69621) % g PR (k % 16).toNat % m
theorem draw_in {c k m : Int} (h : 0 < m) : 0 ≤ draw c k m ∧ draw c k m < m := ⟨Int.emod_nonneg _ (by omega), Int.emod_lt_of_pos _ h⟩
def PL : List Int := [2, 3, 2, 5, 7, 2, 997, 11, 31, 3]
def lawPrime (ns : List Int) : Int := g PL (draw (g ns 0) 6 10).toNat
/-- a prime, by trying -/
def good (n : Nat) : Bool := decide (2 ≤ n) && decide (n ≤ 997) && (List.range (n + 1)).all fun e => decide (e = 0) || decide (e = 1) || decide (e = n) || decide (n % e ≠ 0)
theorem good_of {n : Nat} (h : good n = true) : Good (n : Int) := by
  unfold good at h
  simp only [Bool.and_eq_true, decide_eq_true_eq, List.all_eq_true, List.mem_range, Bool.or_eq_true] at h
  obtain ⟨⟨h1, h2⟩, h3⟩ := h
  refine ⟨by omega, by omega, fun e he hd => ?_⟩
  have hle : e ≤ n := Int.le_of_dvd (by omega) hd
  obtain ⟨m, rfl⟩ : ∃ m : Nat, e = m := ⟨e.toNat, by omega⟩
  rcases h3 m (by omega) with ((w | w) | w) | w
  · omega
  · left; omega
  · right; omega
  · exact absurd (Nat.mod_eq_zero_of_dvd (Int.natCast_dvd_natCast.mp hd)) w
theorem PL_good : ∀ i : Nat, i < 10 → Good (g PL i) := fun i hi => by
  have h2 : Good 2 := good_of (n := 2) (by decide +kernel)
  have h3 : Good 3 := good_of (n := 3) (by decide +kernel)
  have h5 : Good 5 := good_of (n := 5) (by decide +kernel)
  have h7 : Good 7 := good_of (n := 7) (by decide +kernel)
  have h11 : Good 11 := good_of (n := 11) (by decide +kernel)
  have h31 : Good 31 := good_of (n := 31) (by decide +kernel)
  have h997 : Good 997 := good_of (n := 997) (by decide +kernel)
  match i, hi with
  | 0, _ => exact h2
  | 1, _ => exact h3
  | 2, _ => exact h2
  | 3, _ => exact h5
  | 4, _ => exact h7
  | 5, _ => exact h2
  | 6, _ => exact h997
  | 7, _ => exact h11
  | 8, _ => exact h31
  | 9, _ => exact h3
theorem lawPrime_good (ns : List Int) : Good (lawPrime ns) := by
  have := draw_in (c := g ns 0) (k := 6) (m := 10) (by decide)
  exact PL_good _ (by omega)
def lawRests (ns : List Int) (by_ p m : Int) : List Int := (List.range m.toNat).map fun k => draw (g ns k) ((k : Int) % 5 + by_) p
theorem lawRests_len (ns : List Int) (by_ p m : Int) : (lawRests ns by_ p m).length = m.toNat := by simp [lawRests]
theorem lawRests_rs {ns : List Int} {by_ p m : Int} (hp : 0 < p) : Rs p (lawRests ns by_ p m) := fun x hx => by
  obtain ⟨k, _, rfl⟩ := List.mem_map.mp hx
  exact draw_in hp
/-- numbers made by a rule set in their places, from lo on -/
def fillF (p : Int) (rule l : List Int) (lo : Nat) : Nat → List Int
  | 0 => l
  | i + 1 => (fillF p rule l lo i).set (lo + i) (due p rule (fillF p rule l lo i) (lo + i))
theorem fillF_len (p : Int) (rule l : List Int) (lo : Nat) : ∀ i, (fillF p rule l lo i).length = l.length
  | 0 => rfl
  | i + 1 => by unfold fillF; rw [List.length_set, fillF_len p rule l lo i]
theorem fillF_rs {p : Int} (hp : 0 < p) {rule l : List Int} (hl : Rs p l) (lo : Nat) : ∀ i, Rs p (fillF p rule l lo i)
  | 0 => hl
  | i + 1 => fun x hx => by
    unfold fillF at hx
    rcases List.mem_or_eq_of_mem_set hx with h | h
    · exact fillF_rs hp hl lo i x h
    · rw [h]
      exact ⟨Int.emod_nonneg _ (by omega), Int.emod_lt_of_pos _ hp⟩
def OFF : List Int := [0, 0, 0, 2]
def lawKind (ns : List Int) : Int := draw (g ns 1) 7 5
def lawRule (ns : List Int) (p : Int) : List Int := lawRests (ns.drop 1) 3 p (1 + draw (g ns 2) 8 6)
def lawRow (ns : List Int) (p : Int) : List Int :=
  if decide (lawKind ns = 0) = true then (List.range ns.length).map fun k => if decide (draw (g ns k) 9 5 = 0) = true then g (lawRests ns 1 p ns.length) k else 0
  else if decide (lawKind ns < 4) = true then fillF p (lawRule ns p) (lawRests ns 1 p ns.length) (lawRule ns p).length (ns.length - g OFF (lawKind ns).toNat - (lawRule ns p).length).toNat
  else lawRests ns 1 p ns.length
theorem lawRow_len (ns : List Int) (p : Int) : (lawRow ns p).length = ns.length := by
  unfold lawRow
  split
  · simp
  · split
    · rw [fillF_len, lawRests_len]; simp
    · rw [lawRests_len]; simp
theorem lawRow_rs {ns : List Int} {p : Int} (hp : 0 < p) : Rs p (lawRow ns p) := by
  have h1 : Rs p (lawRests ns 1 p ns.length) := lawRests_rs hp
  unfold lawRow
  split
  · intro x hx
    obtain ⟨k, _, rfl⟩ := List.mem_map.mp hx
    split
    · exact h1.g hp k
    · omega
  · split
    · exact fillF_rs hp h1 _ _
    · exact h1
theorem Rs.reverse {p : Int} {l : List Int} (h : Rs p l) : Rs p l.reverse := fun x hx => h x (List.mem_reverse.mp hx)
theorem Rs.drop {p : Int} {l : List Int} (h : Rs p l) (n : Nat) : Rs p (l.drop n) := fun x hx => h x (List.mem_of_mem_drop hx)
theorem Rs.take {p : Int} {l : List Int} (h : Rs p l) (n : Nat) : Rs p (l.take n) := fun x hx => h x (List.mem_of_mem_take hx)
/-- the two ends of law 1 -/
theorem shortest_nil (p : Int) : (shortest p []).rule = [] := rfl
theorem shortest_two {p : Int} (hp : Good p) : (shortest p [0, 0, 1]).place = 2 := by
  have h1 := hp.two
  have e0 : (0 : Int) % p = 0 := Int.zero_emod p
  have e1 : (1 : Int) % p = 1 := Int.emod_eq_of_lt (by omega) (by omega)
  have s1 : bm p [0, 0, 1] 1 = ⟨[], [], -1, 1⟩ := by
    show bmStep p [0, 0, 1] ⟨[], [], -1, 1⟩ 0 = _
    unfold bmStep
    rw [if_neg]
    rintro ⟨_, h⟩
    exact h (by show (0 - 0 % p) % p = 0; rw [e0]; exact e0)
  have s2 : bm p [0, 0, 1] 2 = ⟨[], [], -1, 1⟩ := by
    show bmStep p [0, 0, 1] (bm p [0, 0, 1] 1) 1 = _
    rw [s1]
    unfold bmStep
    rw [if_neg]
    rintro ⟨_, h⟩
    exact h (by show (0 - 0 % p) % p = 0; rw [e0]; exact e0)
  show (bmStep p [0, 0, 1] (bm p [0, 0, 1] 2) 2).place = 2
  rw [s2]
  unfold bmStep
  rw [if_pos ⟨by show 0 ≤ 2; omega, by show (1 - 0 % p) % p ≠ 0; rw [e0, Int.sub_zero, e1]; decide⟩]
  rw [if_pos (by show 2 + 1 - 0 > 0; decide)]
  rfl
/-! ### law 5: rests with something changed -/
def bentAt (l : List Int) (c : Int) : Int := draw c 2 (if (l.length : Int) > 1 then (l.length : Int) else 1)
theorem bentAt_in {l : List Int} {c : Int} : 0 ≤ bentAt l c ∧ (l ≠ [] → bentAt l c < l.length) := by
  unfold bentAt
  have h : 0 < (if (l.length : Int) > 1 then (l.length : Int) else 1) := by split <;> omega
  have := draw_in (c := c) (k := 2) h
  refine ⟨this.1, fun hn => ?_⟩
  have hl : 0 < l.length := List.length_pos_iff.mpr hn
  have h2 : (if (l.length : Int) > 1 then (l.length : Int) else 1) = l.length := by split <;> omega
  rw [h2] at this ⊢
  exact this.2
def bent (l : List Int) (c p : Int) : List Int :=
  if (decide (draw c 1 9 = 1) && !decide (l = [])) = true then l.take (bentAt l c).toNat ++ [(g l (bentAt l c).toNat + 1) % p] ++ l.drop (bentAt l c + 1).toNat
  else if decide (draw c 1 9 = 2) = true then l ++ [draw c 3 2]
  else if decide (draw c 1 9 = 3) = true then l.dropLast
  else if decide (draw c 1 9 = 4) = true then l.reverse
  else if (decide (draw c 1 9 = 5) && !decide (l = [])) = true then l.take (bentAt l c).toNat ++ [g l (bentAt l c).toNat + g [p, -p] (draw c 4 2).toNat] ++ l.drop (bentAt l c + 1).toNat
  else if decide (draw c 1 9 = 6) = true then []
  else l
theorem bent_len (l : List Int) (c p : Int) : (bent l c p).length ≤ l.length + 1 := by
  unfold bent
  repeat' split
  all_goals (try simp only [List.length_append, List.length_take, List.length_drop, List.length_cons, List.length_nil, List.length_dropLast, List.length_reverse])
  all_goals omega
def SPOT : List Int := [0, 0, 0, 1, -1]
end RR
/-! RrBoth: two rules put together; a rule told backwards. -/
namespace RR
theorem S_swap (n m : Nat) (f : Nat → Nat → Int) : S n (fun i => S m (f i)) = S m (fun j => S n (fun i => f i j)) := by
  induction n with
  | zero => exact (S_zero fun _ _ => rfl).symm
  | succ n ih => simp only [S]; rw [ih, ← S_add]
theorem S_rev (n : Nat) (f : Nat → Int) : S n f = S n (fun k => f (n - 1 - k)) := by
  induction n with
  | zero => rfl
  | succ n ih =>
    rw [S_succ_left n (fun k => f (n + 1 - 1 - k))]
    simp only [S]
    rw [ih, Int.add_comm, show n + 1 - 1 - 0 = n by omega]
    congr 1
    exact S_congr fun k hk => by rw [show n + 1 - 1 - (k + 1) = n - 1 - k by omega]
theorem g_reverse {l : List Int} {k : Nat} (h : k < l.length) : g l.reverse k = g l (l.length - 1 - k) := by
  unfold g
  rw [List.getD_eq_getElem?_getD, List.getD_eq_getElem?_getD, List.getElem?_reverse h]
theorem reverse_rs {p : Int} {l : List Int} (h : Rs p l) : Rs p l.reverse := fun x hx => h x (List.mem_reverse.mp hx)
section
variable {p : Int}
theorem D_F (c row : List Int) (n : Nat) : D c row n = F (fun j => g row (n - j)) c 0 := S_congr fun k hk => by rw [Nat.zero_add]
theorem D_times (a b row : List Int) (n : Nat) : D (timesF p a b) row n % p = S a.length (fun k => g a k * D b row (n - k)) % p := by
  rw [D_F, timesF_F]
  refine cg_S fun k hk => congrArg (fun z => g a k * z % p) ?_
  unfold F D
  refine S_congr fun j hj => ?_
  show g b j * g row (n - (0 + k + j)) = g b j * g row (n - k - j)
  rw [show n - (0 + k + j) = n - k - j by omega]
theorem D_times' (a b row : List Int) (n : Nat) : D (timesF p a b) row n % p = S b.length (fun k => g b k * D a row (n - k)) % p := by
  rw [D_times]
  refine congrArg (· % p) ?_
  unfold D
  rw [S_congr (h := fun k => S b.length (fun j => g a k * (g b j * g row (n - k - j)))) fun k hk => (S_mul ..).symm, S_swap]
  refine S_congr fun j hj => ?_
  rw [← S_mul]
  refine S_congr fun k hk => ?_
  rw [show n - k - j = n - j - k by omega, Int.mul_left_comm]
/-- what stands at a place of the two multiplied -/
def ind (i : Nat) : Nat → Int := fun k => if k = i then 1 else 0
theorem F_ind (f : List Int) (i m : Nat) : F (ind i) f m = if m ≤ i then g f (i - m) else 0 := by
  unfold F ind
  by_cases h : m ≤ i
  · rw [if_pos h]
    by_cases hi : i - m < f.length
    · rw [← S_single hi (g f (i - m))]
      refine S_congr fun k hk => ?_
      by_cases e : k = i - m
      · rw [if_pos e, if_pos (by omega), e, Int.mul_one]
      · rw [if_neg e, if_neg (by omega), Int.mul_zero]
    · rw [g_out (by omega)]
      exact S_zero fun k hk => by rw [if_neg (by omega), Int.mul_zero]
  · rw [if_neg h]
    exact S_zero fun k hk => by rw [if_neg (by omega), Int.mul_zero]
theorem times_g (a b : List Int) (i : Nat) : g (timesF p a b) i % p = S a.length (fun k => g a k * (if k ≤ i then g b (i - k) else 0)) % p := by
  have h := timesF_F (p := p) (e := ind i) a b 0
  rw [F_ind, if_pos (Nat.zero_le _), Nat.sub_zero] at h
  rw [h]
  refine cg_S fun k hk => ?_
  rw [F_ind, Nat.zero_add]
theorem times_len {a b : List Int} (ha : 0 < a.length) (hb : 0 < b.length) : (timesF p a b).length = a.length + b.length - 1 := by
  unfold timesF
  rw [if_neg (by omega), outF_len]
theorem times_one {a : List Int} (hp : 0 < p) (ha : 0 < a.length) (hr : Rs p a) : timesF p a [1] = a := by
  have hl := times_len (p := p) ha (b := [1]) (by simp)
  refine g_ext (by rw [hl]; simp) fun i hi => ?_
  have hi' : i < a.length := by rw [hl] at hi; simp at hi; omega
  have h := times_g (p := p) a [1] i
  rw [emod_small ((timesF_rs hp a [1]).g hp i)] at h
  rw [h, ← emod_small (hr.g hp i), ← S_single hi' (g a i)]
  refine cg_S fun k hk => ?_
  by_cases e : k = i
  · subst e
    rw [if_pos rfl, if_pos (Nat.le_refl _), Nat.sub_self, g_cons_zero, Int.mul_one]
  · rw [if_neg e]
    by_cases c : k ≤ i
    · rw [if_pos c, g_out (l := [1]) (i := i - k) (by show 1 ≤ i - k; omega), Int.mul_zero]
    · rw [if_neg c, Int.mul_zero]
theorem one_times {a : List Int} (hp : 0 < p) (ha : 0 < a.length) (hr : Rs p a) : timesF p [1] a = a := by
  have hl := times_len (p := p) (a := [1]) (by simp) ha
  refine g_ext (by rw [hl]; simp) fun i hi => ?_
  have h := times_g (p := p) [1] a i
  rw [emod_small ((timesF_rs hp [1] a).g hp i)] at h
  rw [h, ← emod_small (hr.g hp i)]
  congr 1
  show 0 + (1 : Int) * (if 0 ≤ i then g a (i - 0) else 0) = g a i
  rw [if_pos (Nat.zero_le _), Nat.sub_zero, Int.one_mul, Int.zero_add]
theorem turned_back {rule : List Int} (hr : Rs p rule) : toldBack p (turned p rule) = rule := by
  refine g_ext (by rw [toldBack_len, turned_len]; omega) fun i hi => ?_
  rw [toldBack_len, turned_len] at hi
  unfold toldBack
  rw [g_map (f := fun r => (-r) % p) (by simp [turned]; omega), g_drop, Nat.add_comm, turned_succ (by omega), cg_neg (p := p) mm, Int.neg_neg]
  refine emod_small (hr _ (g_mem (by omega)))

/-! ### put together -/
def bothF (p : Int) (one other : List Int) : List Int := toldBack p (timesF p (turned p one) (turned p other))
theorem bothF_len (one other : List Int) : (bothF p one other).length = one.length + other.length := by
  unfold bothF
  rw [toldBack_len, times_len (by rw [turned_len]; omega) (by rw [turned_len]; omega), turned_len, turned_len]
  omega
theorem bothF_rs (hp : 0 < p) (one other : List Int) : Rs p (bothF p one other) := toldBack_rs hp _
theorem both_zero (hp : 1 < p) (one other : List Int) : g (timesF p (turned p one) (turned p other)) 0 % p = 1 := by
  rw [times_g, turned_len, S_succ_left, turned_zero, if_pos (Nat.le_refl 0), turned_zero, S_zero (fun k hk => by rw [if_neg (by omega), Int.mul_zero])]
  exact Int.emod_eq_of_lt (by omega) (by omega)
theorem both_D (hp : 1 < p) (one other row : List Int) (n : Nat) : D (turned p (bothF p one other)) row n % p = D (timesF p (turned p one) (turned p other)) row n % p :=
  turned_toldBack hp (both_zero hp one other) (by rw [times_len (by rw [turned_len]; omega) (by rw [turned_len]; omega), turned_len, turned_len]; omega) row n
theorem both_left (hp : 1 < p) {one other row : List Int} (hr : Rs p row) (h : Makes p one row) : Makes p (bothF p one other) row := fun n h1 h2 => by
  rw [bothF_len] at h1
  rw [due_iff (by omega) hr, both_D hp, D_times']
  rw [cg_S (h := fun _ => 0) fun k hk => ?_, S_zero fun _ _ => rfl]
  · rfl
  · rw [turned_len] at hk
    rw [cg_mul (p := p) rfl (((due_iff (by omega) hr).mp (h (n - k) (by omega) (by omega))).trans (Int.zero_emod p).symm : D (turned p one) row (n - k) % p = 0 % p), Int.mul_zero]
theorem both_right (hp : 1 < p) {one other row : List Int} (hr : Rs p row) (h : Makes p other row) : Makes p (bothF p one other) row := fun n h1 h2 => by
  rw [bothF_len] at h1
  rw [due_iff (by omega) hr, both_D hp, D_times]
  rw [cg_S (h := fun _ => 0) fun k hk => ?_, S_zero fun _ _ => rfl]
  · rfl
  · rw [turned_len] at hk
    rw [cg_mul (p := p) rfl (((due_iff (by omega) hr).mp (h (n - k) (by omega) (by omega))).trans (Int.zero_emod p).symm : D (turned p other) row (n - k) % p = 0 % p), Int.mul_zero]
theorem both_none (hp : 1 < p) {one : List Int} (hr : Rs p one) : bothF p one [] = one := by
  unfold bothF
  rw [show turned p [] = [1] from rfl, times_one (by omega) (by rw [turned_len]; omega) (turned_rs hp one), turned_back hr]
theorem none_both (hp : 1 < p) {one : List Int} (hr : Rs p one) : bothF p [] one = one := by
  unfold bothF
  rw [show turned p [] = [1] from rfl, one_times (by omega) (by rw [turned_len]; omega) (turned_rs hp one), turned_back hr]
/-- a row of the one and a row of the other, put together number by number -/
def mixF (p : Int) (f s : List Int) (m : Nat) : List Int := (List.range m).map fun k => (g f k + g s k) % p
theorem mixF_len (f s : List Int) (m : Nat) : (mixF p f s m).length = m := by simp [mixF]
theorem mixF_rs (hp : 0 < p) (f s : List Int) (m : Nat) : Rs p (mixF p f s m) := Rs.mod hp
theorem mix_makes {rule f s : List Int} {m : Nat} (hf : Makes p rule f) (hs : Makes p rule s) (lf : m ≤ f.length) (ls : m ≤ s.length) : Makes p rule (mixF p f s m) := fun n h1 h2 => by
  rw [mixF_len] at h2
  have e : ∀ k, k < m → g (mixF p f s m) k = (g f k + g s k) % p := fun k hk => by unfold mixF; rw [g_range_map hk]
  rw [e n h2, hf n h1 (by omega), hs n h1 (by omega)]
  unfold due
  rw [← Int.add_emod, ← S_add]
  refine cg_S fun k hk => ?_
  rw [e _ (by omega), ← Int.mul_add]
  exact cg_mul rfl mm.symm
theorem go_makes {rule row : List Int} (h : rule.length = row.length) (m : Nat) : Makes p rule (goF p rule row m) := by
  have := makes_tail (p := p) (rule := rule) (row := row) (by omega) m
  rw [h, Nat.sub_self, List.drop_zero] at this
  exact this

/-! ### backwards -/
def backF (p : Int) (rule : List Int) : List Int := toldBack p ((turned p rule).reverse.map fun r => r * inverse p (g (turned p rule).reverse 0) % p)
theorem backF_len (rule : List Int) : (backF p rule).length = rule.length := by
  unfold backF
  rw [toldBack_len, List.length_map, List.length_reverse, turned_len]
  omega
theorem backF_rs (hp : 0 < p) (rule : List Int) : Rs p (backF p rule) := toldBack_rs hp _
theorem back_first {rule : List Int} (hp : 1 < p) (hr : Rs p rule) (h0 : 0 < rule.length) (hl : g rule (rule.length - 1) ≠ 0) : 1 ≤ g (turned p rule).reverse 0 ∧ g (turned p rule).reverse 0 < p := by
  rw [g_reverse (by rw [turned_len]; omega), turned_len, show rule.length + 1 - 1 - 0 = rule.length - 1 + 1 by omega, turned_succ (by omega)]
  have b := hr _ (g_mem (show rule.length - 1 < rule.length by omega))
  have e : (-g rule (rule.length - 1)) % p = p - g rule (rule.length - 1) := by
    rw [← Int.add_emod_right, Int.emod_eq_of_lt (by omega) (by omega)]
    omega
  omega
section
variable {rule : List Int}
theorem back_c (hp : Good p) (hr : Rs p rule) (h0 : 0 < rule.length) (hl : g rule (rule.length - 1) ≠ 0) : g ((turned p rule).reverse.map fun r => r * inverse p (g (turned p rule).reverse 0) % p) 0 % p = 1 := by
  obtain ⟨b1, b2⟩ := back_first hp.one hr h0 hl
  rw [g_map (f := fun r => r * inverse p (g (turned p rule).reverse 0) % p) (by rw [List.length_reverse, turned_len]; omega), mm, Int.mul_comm]
  exact inverse_ok hp b1 b2
theorem back_D (hp : Good p) (hr : Rs p rule) (h0 : 0 < rule.length) (hl : g rule (rule.length - 1) ≠ 0) (row : List Int) (n : Nat) :
    D (turned p (backF p rule)) row n % p = (inverse p (g (turned p rule).reverse 0) * D (turned p rule).reverse row n) % p := by
  unfold backF
  rw [turned_toldBack hp.one (back_c hp hr h0 hl) (by rw [List.length_map, List.length_reverse, turned_len]; omega)]
  unfold D
  rw [List.length_map, ← S_mul]
  refine cg_S fun k hk => ?_
  rw [g_map (f := fun r => r * inverse p (g (turned p rule).reverse 0) % p) hk, Int.mul_comm (g (turned p rule).reverse k), cg_mul (p := p) mm rfl, Int.mul_assoc]
theorem back_makes (hp : Good p) (hr : Rs p rule) (h0 : 0 < rule.length) (hl : g rule (rule.length - 1) ≠ 0) {row : List Int} (hrow : Rs p row) (h : Makes p rule row) : Makes p (backF p rule) row.reverse := fun n h1 h2 => by
  rw [backF_len] at h1
  rw [List.length_reverse] at h2
  have hp1 := hp.one
  rw [due_iff hp.pos (reverse_rs hrow), back_D hp hr h0 hl]
  have e : D (turned p rule).reverse row.reverse n = D (turned p rule) row (row.length - 1 - n + rule.length) := by
    unfold D
    rw [List.length_reverse, S_rev _ (fun k => g (turned p rule) k * _)]
    refine S_congr fun k hk => ?_
    rw [g_reverse hk, g_reverse (by omega)]
    rw [turned_len] at hk ⊢
    rw [show row.length - 1 - (n - k) = row.length - 1 - n + rule.length - (rule.length + 1 - 1 - k) by omega]
  rw [e, cg_mul (p := p) rfl (((due_iff hp.pos hrow).mp (h (row.length - 1 - n + rule.length) (by omega) (by omega))).trans (Int.zero_emod p).symm : D (turned p rule) row (row.length - 1 - n + rule.length) % p = 0 % p), Int.mul_zero]
  rfl
/-- the rests of a rule backwards, turned -/
theorem back_turned (hp : Good p) (hr : Rs p rule) (h0 : 0 < rule.length) (hl : g rule (rule.length - 1) ≠ 0) {k : Nat} (hk : k ≤ rule.length) :
    g (turned p (backF p rule)) k % p = (g (turned p rule) (rule.length - k) * inverse p (g (turned p rule).reverse 0)) % p := by
  have hc := back_c hp hr h0 hl
  have hp1 := hp.one
  cases k with
  | zero =>
    rw [turned_zero]
    rw [g_map (f := fun r => r * inverse p (g (turned p rule).reverse 0) % p) (by rw [List.length_reverse, turned_len]; omega), mm] at hc
    rw [g_reverse (by rw [turned_len]; omega), turned_len, show rule.length + 1 - 1 - 0 = rule.length - 0 by omega] at hc ⊢
    rw [hc]
    exact Int.emod_eq_of_lt (by omega) (by omega)
  | succ k =>
    rw [turned_succ (by rw [backF_len]; omega)]
    unfold backF toldBack
    rw [g_map (f := fun r => (-r) % p) (by simp; rw [turned_len]; omega), g_drop, mm, cg_neg (p := p) mm, Int.neg_neg, Nat.add_comm 1 k,
      g_map (f := fun r => r * inverse p (g (turned p rule).reverse 0) % p) (by rw [List.length_reverse, turned_len]; omega), mm]
    rw [g_reverse (k := k + 1) (by rw [turned_len]; omega), turned_len, show rule.length + 1 - 1 - (k + 1) = rule.length - (k + 1) by omega]
theorem back_last (hp : Good p) (hr : Rs p rule) (h0 : 0 < rule.length) (hl : g rule (rule.length - 1) ≠ 0) : g (backF p rule) ((backF p rule).length - 1) ≠ 0 := fun z => by
  have hp1 := hp.one
  obtain ⟨b1, b2⟩ := back_first hp1 hr h0 hl
  have h := back_turned hp hr h0 hl (k := rule.length) (Nat.le_refl _)
  rw [Nat.sub_self, turned_zero, Int.one_mul] at h
  rw [show rule.length = rule.length - 1 + 1 by omega, turned_succ (by rw [backF_len]; omega)] at h
  rw [backF_len] at z
  rw [z, mm] at h
  have i := inverse_ok hp b1 b2
  rw [cg_mul (p := p) (h.symm.trans (by rfl) : inverse p (g (turned p rule).reverse 0) % p = 0 % p) rfl, Int.zero_mul] at i
  simp at i
theorem back_back (hp : Good p) (hr : Rs p rule) (h0 : 0 < rule.length) (hl : g rule (rule.length - 1) ≠ 0) : backF p (backF p rule) = rule := by
  have hp1 := hp.one
  have hr2 := backF_rs hp.pos rule
  have hl2 := back_last hp hr h0 hl
  have hlen := backF_len (p := p) rule
  have h02 : 0 < (backF p rule).length := by omega
  obtain ⟨b1, b2⟩ := back_first hp1 hr h0 hl
  obtain ⟨c1, c2⟩ := back_first hp1 hr2 h02 hl2
  have i1 := inverse_ok hp b1 b2
  have i2 := inverse_ok hp c1 c2
  -- the two inverses are each other's
  have e1 : g (turned p (backF p rule)).reverse 0 % p = inverse p (g (turned p rule).reverse 0) % p := by
    rw [g_reverse (by rw [turned_len]; omega), turned_len, hlen, show rule.length + 1 - 1 - 0 = rule.length by omega, back_turned hp hr h0 hl (Nat.le_refl _), Nat.sub_self, turned_zero, Int.one_mul]
  have e2 : (inverse p (g (turned p rule).reverse 0) * inverse p (g (turned p (backF p rule)).reverse 0)) % p = 1 := by
    rw [Int.mul_comm, ← cg_mul (p := p) rfl e1]
    exact i2
  refine g_ext (by rw [backF_len, hlen]) fun k hk => ?_
  rw [backF_len, hlen] at hk
  have h := back_turned hp hr2 h02 hl2 (k := k + 1) (by omega)
  have h3 := back_turned hp hr h0 hl (k := rule.length - (k + 1)) (by omega)
  rw [turned_succ (by rw [backF_len]; omega), mm, hlen, cg_mul (p := p) h3 rfl, show rule.length - (rule.length - (k + 1)) = k + 1 by omega, Int.mul_assoc, cg_mul (p := p) rfl (e2.trans (Int.emod_eq_of_lt (by omega) hp1).symm), Int.mul_one, turned_succ hk, mm] at h
  have h4 := cg_neg h
  rw [Int.neg_neg, Int.neg_neg, emod_small ((backF_rs hp.pos (backF p rule)).g hp.pos k), emod_small (hr.g hp.pos k)] at h4
  exact h4
end
end
end RR
/-! RrExc: own words for errors: a list asked within an except suite, a caught error's class, defs that raise with no context. -/
namespace PySem
namespace HotL
open PySem PySem.Spec PyProof.Rows
variable {prog : Program} {w : World} {A : Around} {E : Value → Shared → Prop} {s : Shared}
/-- the end of a list's walk while an exception without context is handled -/
theorem list_end_hot {it l x1 : Addr} {i : Nat} {items : Array Value} {Q : Option Value → Shared → Prop} (hot : HotX.HotAt A x1 s.heap) (hxi : x1 ≠ it)
    (hit : s.heap.IsListIter it l i) (hl : s.heap.IsList l items) (hx : items[i]? = none)
    (hQ : ∀ h', Heap.ExtBut it s.heap h' → Q none { s with heap := h' }) : wpAny (model prog w) A (pyNext (.ref it)) Q E s := by
  obtain ⟨hh, o1, vs1, h1, d1, c1⟩ := hot
  obtain ⟨o, ho, hc, hd⟩ := id hit
  obtain ⟨ol, hol, _, nl, hdl⟩ := hl
  unfold pyNext
  refine wpAny_bind (wpAny_attempt (wpAny_callSpecial?_slot (name := Str.ofString "__next__") hit.typeIs slot_listiter_next
    (wpAny_call_entry slot_listiter_next hit.typeIs entry_listiter_next ?_ (args_listiter_next _))))
  show wpAny _ _ (field (.ref it) 0 >>= _) _ _ s
  refine wpAny_bind (wpAny_field ho hd (x := .ref l) rfl ?_)
  show wpAny _ _ (if (Value.ref l == Value.none) = true then _ else _) _ _ s
  rw [if_neg (show ¬ ((Value.ref l == Value.none) = true) from Bool.false_ne_true)]
  show wpAny _ _ (field (.ref it) 1 >>= _) _ _ s
  refine wpAny_bind (wpAny_field ho hd (x := .int i 0) rfl ?_)
  show wpAny _ _ (seqItems? (.ref l) >>= _) _ _ s
  refine wpAny_bind (wpAny_seqItems hol hdl ?_)
  simp only [Int.toNat_natCast, hx]
  refine wpAny_bind (wpAny_rule (wpAny_bind (wpAny_setField ho hd (by simp) ?_)))
  show wpAny _ _ (newExc (.type "StopIteration") [] >>= _) _ _ _
  refine wpAny_bind ?_
  simp only [newExc, newTuple]
  refine wpAny_bind (wpAny_newObj_type ?_ (by size_fits))
  refine wpAny_bind (m := firstArgMember _ _) (wpAny_of_eq (a := Value.none) (by first | rfl | (simp only [firstArgMember]; rfl)) ?_)
  refine wpAny_newObj_type ?_ (by size_fits)
  have h1' := (Heap.get?_update_other s.heap (Obj.mapFields (·.setIfInBounds 0 Value.none)) (Ne.symm hxi)).trans h1
  refine HotX.raiseNew_hot ⟨hh, o1, vs1, Heap.get?_push_of_some _ (Heap.get?_push_of_some _ h1'), d1, c1⟩ (Nat.ne_of_lt (Heap.lt_size (Heap.get?_push_of_some _ h1'))) (Heap.get?_push_size _ rfl) rfl (by first | (simp; done) | (simp; omega) | (simp only [Array.size_append]; simp; omega)) ?_
  refine wpAny_bind (wpAny_isInstance (T := "StopIteration") (b := true) ⟨_, Heap.get?_update_self _ (Heap.get?_push_size _ rfl) rfl, rfl⟩ isSubtype_stop ?_)
  refine wpAny_pure (hQ _ fun b o hb e => ?_)
  have e1 := (Heap.get?_update_other s.heap (Obj.mapFields (·.setIfInBounds 0 Value.none)) (Ne.symm hb)).trans e
  rw [Heap.get?_update_other _ _ (Nat.ne_of_gt (Heap.lt_size (Heap.get?_push_of_some _ e1)))]
  exact Heap.get?_push_of_some _ (Heap.get?_push_of_some _ e1)
theorem walks_hot {x1 : Addr} {o1 : Obj} {vs1 : Array Value} (hh : A.handled = some (.ref x1)) (d1 : o1.data = .fields vs1) (c1 : vs1[2]? = some .none) (I ax : Addr) (hne : ax ≠ I) (hx : x1 ≠ I) (items : Array Value) :
    Walks prog w A I [I, ax, x1] [I] items.size (fun i v => items[i]? = some v) (fun i h => h.IsListIter I ax i ∧ h.IsList ax items ∧ h.get? x1 = some o1) where
  sub := fun b hb => by simp at hb; simp [hb]
  frame := fun _ _ _ st hk => ⟨st.1.at fun o e => hk I (by simp) o e, st.2.1.at fun o e => hk ax (by simp) o e, hk x1 (by simp) _ st.2.2⟩
  item := fun i s Q E hi st hQ => by
    refine wpAny_pyNext_list_item st.1 st.2.1 (x := items[i]) (by simp [hi]) fun h' hit' hs' => ?_
    exact hQ _ h' s.toks (by simp [hi]) ⟨hit', st.2.1.extBut hs'.extBut hne, hs'.extBut x1 _ hx st.2.2⟩ fun b o hb e => hs'.extBut b o (fun h => hb (by simp [h])) e
  done := fun s Q E st hQ => list_end_hot ⟨hh, o1, vs1, st.2.2, d1, c1⟩ hx st.1 st.2.1 (by simp) fun h' he' => hQ h' s.toks fun b o hb e => he' b o (fun h => hb (by simp [h])) e
  self := fun _ _ _ _ st hQ => wpAny_pyIter_listiter st.1 hQ
end HotL
end PySem
namespace L2
open PySem PySem.Spec PyProof.Rows
section
variable {X : Cx}
/-- any(list) within an except suite: the caught error has no context -/
theorem cr_anyE {a : Addr} {oe : Obj} {pn : List (Addr × Obj)} {cls : Value} {d : Option Addr} (hz : L2N.Zn cls d oe) (hf : ∃ vs, oe.data = .fields vs) : CallR (X.suite a ((a, oe) :: pn)) (.builtin "any") (rAny X.K) := by
  intro pins s σ H vs us Q I r h
  obtain ⟨b, bs, rfl, hs, q⟩ := h
  obtain ⟨its, rv, hl, _⟩ := I.list hs
  rw [Vals.ref1 r]
  have hb := rv.bls
  obtain ⟨vs1, d1⟩ := hf
  have c1 := hz.2.2 vs1 d1
  obtain ⟨hget, _⟩ := I.pin (a, oe) (List.mem_append.mpr (.inl List.mem_cons_self))
  refine call_any_walk (iter_any hl.isList fun s₂ e2 st hne => ?_)
  subst e2
  have hxa : a ≠ s.heap.objs.size := Nat.ne_of_lt (Heap.lt_size hget)
  refine ⟨_, _, _, _, _, _, _, rfl, HotL.walks_hot (A := (X.suite a ((a, oe) :: pn)).A.in1) (o1 := oe) rfl d1 c1 _ b hne hxa its.toArray, ⟨st.1, st.2, Heap.get?_push_of_some _ hget⟩, truth_bools hb, fun h' tk hk => ?_⟩
  refine ⟨.bl _, H, I.kept fun b o eo => hk b o (fun hmem => ?_) (Heap.get?_push_of_some _ eo), ?_, q⟩
  · rcases List.mem_cons.mp hmem with e1 | hmem
    · exact absurd (e1 ▸ Heap.lt_size eo) (Nat.lt_irrefl _)
    · cases hmem
  · show Value.bool _ = Value.bool _
    rw [← any_range, hb, List.size_toArray, List.length_map]
/-- isinstance(e, c), e the error that the suite holds, of an own class told at the reading -/
def rIsX (K : PySem.W.Frag) (a : Addr) (cls : Value) (d : Option Addr) : List V → Hp → VK → Prop := fun xs H Q => ∃ D : Addr, cls = .ref D ∧ d = none ∧ ExcC K D ∧ rIsE K D a xs H Q
theorem call_isX {a : Addr} {oe : Obj} {pn : List (Addr × Obj)} {cls : Value} {d : Option Addr} (hz : Zc cls d oe) (hf : ∃ vs, oe.data = .fields vs) : CallR (X.suite a ((a, oe) :: pn)) (.builtin "isinstance") (rIsX X.K a cls d) := by
  intro pins s σ H xs us Q I r h
  obtain ⟨D, rfl, rfl, C, h⟩ := h
  exact call_isE C hz hf pins s σ H xs us Q I r h
theorem x_isX {a : Addr} {oe : Obj} {pn : List (Addr × Obj)} {cls : Value} {d : Option Addr} {e1 e2 : Expr} {tr : TA} {p1 pos : Pos} (K : PySem.W.Frag) (hK : X.K = K) (hz : L2N.Zn cls d oe) (hf : ∃ vs, oe.data = .fields vs) (hm : X.mg "isinstance" = none) (hg : Gl X "isinstance") (ha : PA (X.suite a ((a, oe) :: pn)) [e1, e2] tr)
    (he : starEach [e1, e2] X.env = (false, eval e1 X.env) :: starEach [e2] X.env := by rfl) (hpl : (backTo pos (starEach [e2] X.env)).any (·.1) = false := by rfl) : PE (X.suite a ((a, oe) :: pn)) (.Call (.Name "isinstance" p1) [e1, e2] [] pos) (tCB (rIsX K a cls d) tr) := by
  subst hK; exact pe_callB (call_isX hz.zc hf) hg hm (by decide +kernel) ha (he := he) (hpl := hpl)
theorem x_anyE {a : Addr} {oe : Obj} {pn : List (Addr × Obj)} {cls : Value} {d : Option Addr} {e : Expr} {tr : TA} {p1 pos : Pos} (K : PySem.W.Frag) (hK : X.K = K) (hz : L2N.Zn cls d oe) (hf : ∃ vs, oe.data = .fields vs) (hm : X.mg "any" = none) (hg : Gl X "any") (ha : PA (X.suite a ((a, oe) :: pn)) [e] tr)
    (he : starEach [e] X.env = (false, eval e X.env) :: starEach [] X.env := by rfl) (hpl : (backTo pos (starEach [] X.env)).any (·.1) = false := by rfl) : PE (X.suite a ((a, oe) :: pn)) (.Call (.Name "any" p1) [e] [] pos) (tCB (rAny K) tr) := by
  subst hK; exact pe_callB (cr_anyE hz hf) hg hm (by decide +kernel) ha (he := he) (hpl := hpl)
end
theorem passN {X : Cx} : Passes (L2N.CX X.prog X.w) X E0 := fun _ _ _ _ _ _ _ h => by
  obtain ⟨_, _, _, _, _, _, _, _, _, _, _, _, z⟩ := h
  exact z.elim
theorem takesN0 {X : Cx} : L2N.Takes X (fun _ _ _ _ => False) := fun _ _ x => by
  obtain ⟨_, _, _, _, _, _, _, _, _, _, _, _, _, _, _, _, z⟩ := x
  exact z.elim
section
variable {P : Program} {w : World} {K : PySem.W.Frag} {mg : Str → Option Value} {base : Heap}
/-- a def that may raise, its errors without context -/
theorem Fun.okN {x qual : Str} {st : Stmt} {f : Addr} {fd : FuncData} {N ps : List Str} {k : Nat} {sp : Sp} (F : Fun K x qual st f fd) (S : FnScope N ps (defScope st)) (len : ∀ vs H Q E, sp vs H Q E → vs.length = ps.length)
    (hbody : ∀ (cdv : Value) (A : Around) (outer : List Env) (s : Shared) (H : Hp) (vs : List V) (Q : VK) (E : XK), Room k (A.deeper (envOfC qual (defScope st) s.heap.objs.size f cdv)) → sp vs H Q E →
      ∃ t, PSs (cxOf (L2N.CX P w) P w K mg base N qual (defScope st) f cdv A outer s H E) (defBody st) t ∧ t { nx := fun _ H' => Q .non H', rt := Q } (start N vs) H) : FnOk P w K mg base (L2N.CX P w) (k + 1) f fd ps sp := by
  obtain ⟨oc, od, kV, doc, pm, an, cdv, ct, osl, rfl, lk, hcd⟩ := F.ex
  exact fn_of lk hcd S len fun A outer s H vs Q E hr hsp => hbody cdv A outer s H vs Q E hr hsp
end
end L2
namespace RK
open PySem L2 Evl RR PyProof.Rows
section
variable {K : PySem.W.Frag} {σ : L2.St} {H : Hp} {ta tb te : TE}
/-- isinstance of the caught error -/
theorem ev_isX {a D : Addr} {cls : Value} {d : Option Addr} {b : Bool} {c : V} {cv : Value} (ha : Ev ta σ H (.ref a)) (hb : Ev tb σ H c) (hcls : cls = .ref D) (hd : d = none) (hC : ExcC K D) (hcv : ∀ u, RelV c u → u = cv) (hk : PySem.W.kitOne K (.ref D) cv = some b) :
    Ev (tCB (rIsX K a cls d) (tCons ta (tCons tb tNil))) σ H (.bl b) := fun H1 e Q q =>
  ha H1 e _ fun H2 e2 => hb H2 (e.trans e2) _ fun H3 e3 => ⟨D, hcls, hd, hC, c, cv, b, rfl, hcv, hk, q H3 (e2.trans e3)⟩
theorem ev_isNref {a : Addr} (ha : Ev ta σ H (.ref a)) (hb : Ev tb σ H .non) : Ev (tOp rIsN ta tb) σ H (.bl false) := ev_op ha hb fun H1 e Q q => (show V.non = V.non ∧ Q (.bl (decide (V.ref a = V.non))) H1 from ⟨rfl, by rw [decide_eq_false (fun z => by cases z)]; exact q H1 (Ex.refl H1)⟩)
theorem ev_isNnon (ha : Ev ta σ H .non) (hb : Ev tb σ H .non) : Ev (tOp rIsN ta tb) σ H (.bl true) := ev_op ha hb fun H1 e Q q => (show V.non = V.non ∧ Q (.bl (decide (V.non = V.non))) H1 from ⟨rfl, by rw [decide_eq_true rfl]; exact q H1 (Ex.refl H1)⟩)
end
/-- a built-in class above an own one -/
theorem kit_blt {K : PySem.W.Frag} {C : Addr} {n : String} {b : Bool} (h1 : PySem.W.kitMeta n = true) (h2 : PySem.W.subIn K (.ref C) (.type n) = some b) : PySem.W.kitOne K (.ref C) (.type n) = some b := by
  unfold PySem.W.kitOne
  rw [if_neg (show ¬ (Value.ref C == Value.type n) = true from fun z => nomatch (beq_iff_eq.mp z))]
  show (if PySem.W.kitMeta n = true then PySem.W.subIn K (.ref C) (.type n) else none) = some b
  rw [if_pos h1]
  exact h2
end RK
/-! RrRef: what is handed in is any thing: whether it is whole, a prime, a list of rests; calls that never come back. -/
namespace RK
open PySem L2 Evl RR PyProof.Rows
section
variable {K : PySem.W.Frag} {H H' : Hp} {σ : L2.St} {ta tb te tl : TE} {t : TT} {x : V} {D : Ends} {tz : TS}
/-- what is no list -/
inductive NoL (K : PySem.W.Frag) (H : Hp) : V → Prop
  | non : NoL K H .non
  | bl (b : Bool) : NoL K H (.bl b)
  | int (i : Int) : NoL K H (.int i)
  | str (s : Str) : NoL K H (.str s)
  | tup {a : Addr} {xs : List V} (h : H a = some (.tup xs)) : NoL K H (.ref a)
  | dct {a : Addr} {kvs : List (Key × V)} (h : H a = some (.dK kvs)) : NoL K H (.ref a)
theorem NoL.up (h : NoL K H x) (e : Ex H H') : NoL K H' x := by
  cases h with
  | non => exact .non
  | bl b => exact .bl b
  | int i => exact .int i
  | str s => exact .str s
  | tup h => exact .tup (e _ _ h)
  | dct h => exact .dct (e _ _ h)
/-- anything that is handed in -/
inductive Thing (K : PySem.W.Frag) (H : Hp) : V → Prop
  | no {x : V} (h : NoL K H x) : Thing K H x
  | lst {a : Addr} {xs : List V} (h : SqL K H a xs) : Thing K H (.ref a)
theorem Thing.up (h : Thing K H x) (e : Ex H H') : Thing K H' x := by
  cases h with
  | no h => exact .no (h.up e)
  | lst h => exact .lst (ex_l e h)
def whole : V → Bool
  | .int _ => true
  | _ => false
def isIntV : V → Bool
  | .int _ => true
  | .bl _ => true
  | _ => false
def isBlV : V → Bool
  | .bl _ => true
  | _ => false
theorem isi_any {n : String} {b : Bool} {tn : String} (ha : Ev ta σ H x) (hty : ∀ H1, Ex H H1 → TyX K H1 x (.type tn)) (hk : PySem.W.kitOne K (.type tn) (.type n) = some b) : Ev (tCB (rIsi K) (tCons ta (tCons (tC (.ty n)) tNil))) σ H (.bl b) :=
  ev_isi ha (hty H (Ex.refl H)) hk fun e => hty _ e
theorem ev_tInt (h : Thing K H x) (ha : Ev ta σ H x) : Ev (tCB (rIsi K) (tCons ta (tCons (tC (.ty "int")) tNil))) σ H (.bl (isIntV x)) := by
  cases h with
  | no h =>
    cases h with
    | non => exact isi_any (b := false) ha (fun _ _ => .base .non) (kit_ty (by decide +kernel))
    | bl b => exact isi_any (b := true) ha (fun _ _ => .base (.bl b)) (kit_ty (by decide +kernel))
    | int i => exact isi_any (b := true) ha (fun _ _ => .base (.int i)) (kit_ty (by decide +kernel))
    | str s => exact isi_any (b := false) ha (fun _ _ => .base (.str s)) (kit_ty (by decide +kernel))
    | tup h => exact isi_any (b := false) ha (fun _ e => .base (.tup (e _ _ h))) (kit_ty (by decide +kernel))
    | dct h => exact isi_any (b := false) ha (fun _ e => .base (.dK (e _ _ h))) (kit_ty (by decide +kernel))
  | lst h => exact isi_any (b := false) ha (fun _ e => tyx_sql (ex_l e h)) (kit_ty (by decide +kernel))
theorem ev_tBool (h : Thing K H x) (ha : Ev ta σ H x) : Ev (tCB (rIsi K) (tCons ta (tCons (tC (.ty "bool")) tNil))) σ H (.bl (isBlV x)) := by
  cases h with
  | no h =>
    cases h with
    | non => exact isi_any (b := false) ha (fun _ _ => .base .non) (kit_ty (by decide +kernel))
    | bl b => exact isi_any (b := true) ha (fun _ _ => .base (.bl b)) (kit_ty (by decide +kernel))
    | int i => exact isi_any (b := false) ha (fun _ _ => .base (.int i)) (kit_ty (by decide +kernel))
    | str s => exact isi_any (b := false) ha (fun _ _ => .base (.str s)) (kit_ty (by decide +kernel))
    | tup h => exact isi_any (b := false) ha (fun _ e => .base (.tup (e _ _ h))) (kit_ty (by decide +kernel))
    | dct h => exact isi_any (b := false) ha (fun _ e => .base (.dK (e _ _ h))) (kit_ty (by decide +kernel))
  | lst h => exact isi_any (b := false) ha (fun _ e => tyx_sql (ex_l e h)) (kit_ty (by decide +kernel))
theorem ev_tNoL (h : NoL K H x) (ha : Ev ta σ H x) : Ev (tCB (rIsi K) (tCons ta (tCons (tC (.ty "list")) tNil))) σ H (.bl false) := by
  cases h with
  | non => exact isi_any ha (fun _ _ => .base .non) (kit_ty (by decide +kernel))
  | bl b => exact isi_any ha (fun _ _ => .base (.bl b)) (kit_ty (by decide +kernel))
  | int i => exact isi_any ha (fun _ _ => .base (.int i)) (kit_ty (by decide +kernel))
  | str s => exact isi_any ha (fun _ _ => .base (.str s)) (kit_ty (by decide +kernel))
  | tup h => exact isi_any ha (fun _ e => .base (.tup (e _ _ h))) (kit_ty (by decide +kernel))
  | dct h => exact isi_any ha (fun _ e => .base (.dK (e _ _ h))) (kit_ty (by decide +kernel))
theorem whole_is (h : Thing K H x) : whole x = (isIntV x && !isBlV x) := by
  cases h with
  | no h => cases h <;> rfl
  | lst h => rfl
/-- a rest by p -/
def okRest (p : Int) : V → Bool
  | .int i => decide (0 ≤ i) && decide (i < p)
  | _ => false
theorem okRest_not {p : Int} (h : whole x = false) : okRest p x = false := by
  cases x <;> first | rfl | cases h
/-- what are_rests says of it -/
def RestsAre (K : PySem.W.Frag) (H : Hp) (p : Int) (x : V) (b : Bool) : Prop := (NoL K H x ∧ b = false) ∨ (∃ a xs, x = .ref a ∧ SqL K H a xs ∧ xs.length ≤ 2000 ∧ (∀ y ∈ xs, Thing K H y) ∧ b = xs.all (okRest p))
theorem RestsAre.up {p : Int} {b : Bool} (h : RestsAre K H p x b) (e : Ex H H') : RestsAre K H' p x b := by
  rcases h with ⟨h, hb⟩ | ⟨a, xs, h1, h2, h3, h4, h5⟩
  · exact .inl ⟨h.up e, hb⟩
  · exact .inr ⟨a, xs, h1, ex_l e h2, h3, fun y hy => (h4 y hy).up e, h5⟩
theorem rests_il {p : Int} {a : Addr} {ns : List Int} (h : SqL K H a (il ns)) (hl : ns.length ≤ 2000) (hr : Rs p ns) : RestsAre K H p (.ref a) true := .inr ⟨a, il ns, rfl, h, by rw [il_len]; exact hl, fun y hy => by
  obtain ⟨n, _, rfl⟩ := List.mem_map.mp hy
  exact .no (.int n), by
  symm
  rw [List.all_eq_true]
  intro y hy
  obtain ⟨n, hn, rfl⟩ := List.mem_map.mp hy
  have := hr n hn
  show (decide (0 ≤ n) && decide (n < p)) = true
  rw [decide_eq_true this.1, decide_eq_true this.2]
  rfl⟩
/-- what check_prime says of it -/
def primeOk : V → Bool
  | .int p => decide (2 ≤ p) && decide (p ≤ 997) && !((List.range 30).any fun (i : Nat) => decide ((2 : Int) + (i : Int) < p) && decide (p % ((2 : Int) + (i : Int)) = 0))
  | _ => false
/-- what never comes back -/
def Nv (te : TE) (σ : L2.St) (H : Hp) : Prop := ∀ H1, Ex H H1 → ∀ Q : VK, te σ H1 Q
theorem s_retNv (h : Nv te σ H) : tRet te D σ H := h H (Ex.refl H) _
theorem s_dropNv (h : Nv te σ H) : tDrop te D σ H := h H (Ex.refl H) _
theorem q_dropNv (h : Nv te σ H) : tSeq (tDrop te) tz D σ H := h H (Ex.refl H) _
theorem q_asgNv {k : Nat} (h : Nv te σ H) : tSeq (tAsg te (gName k)) tz D σ H := h H (Ex.refl H) _
theorem nv_ifT (c : EvT t σ H true) (h : Nv ta σ H) : Nv (tIf t ta tb) σ H := fun H1 e Q => c H1 e _ fun H2 e2 => by
  show (if true = true then ta σ H2 Q else tb σ H2 Q)
  rw [if_pos rfl]
  exact h H2 (e.trans e2) Q
theorem nv_ifF (c : EvT t σ H false) (h : Nv tb σ H) : Nv (tIf t ta tb) σ H := fun H1 e Q => c H1 e _ fun H2 e2 => by
  show (if false = true then ta σ H2 Q else tb σ H2 Q)
  rw [if_neg Bool.false_ne_true]
  exact h H2 (e.trans e2) Q
/-- a call that never comes back: at every heap onwards its promise is met without a word of what comes behind -/
theorem nv_call {sp : Sp} {E : XK} {ta : TA} {vs : List V} (h : EvA ta σ H vs) (k : ∀ H1, Ex H H1 → ∀ Q : VK, sp vs H1 Q E) : Nv (tCall sp [] E ta) σ H := fun H1 e Q =>
  h H1 e _ fun H2 e2 => by
    show sp (vs ++ []) H2 Q E
    rw [List.append_nil]
    exact k H2 (e.trans e2) Q
theorem nv_if {b : Bool} (c : EvT t σ H b) (h1 : b = true → Nv ta σ H) (h2 : b = false → Nv tb σ H) : Nv (tIf t ta tb) σ H := by
  cases b with
  | true => exact nv_ifT c (h1 rfl)
  | false => exact nv_ifF c (h2 rfl)
theorem nv_callP {sp : Sp} {E : XK} {ta : TA} {φs : List Wd} (h : EvPs ta σ H φs) (k : ∀ vs H1, Ex H H1 → AllW H1 φs vs → ∀ Q : VK, sp vs H1 Q E) : Nv (tCall sp [] E ta) σ H := fun H1 e Q =>
  h H1 e _ fun vs H2 e2 hw => by
    show sp (vs ++ []) H2 Q E
    rw [List.append_nil]
    exact k vs H2 (e.trans e2) hw Q
/-- a comprehension over a list of things -/
theorem el_lcV {xs : List V} {j : Nat} {vs : List Nat} (f : V → V) (h : EvR K tl σ H xs) (hz : xs.length ≤ 40000) (hw : ∀ x, wipe ((wipe σ vs).set j (some x)) vs = wipe σ vs)
    (he : ∀ x H1, Ex H H1 → x ∈ xs → Ev te ((wipe σ vs).set j (some x)) H1 (f x)) : EvL (tLc (iList K tl) (gName j) tYes te vs) σ H (xs.map f) := fun H0 e Q q => h H0 e _ fun a H1 e1 hx => ⟨a, rfl, ⟨_, hx⟩, fun Dl hD =>
  lc_list (xs := xs) (Cw H1 (fun _ => true) (fun i => f (xs.getD i .non)) Dl) ⟨hD, Ex.new hD, upd_same⟩ (fun i H' _ p => ex_l p.2.1 hx) (fun i x H' hi p => by
      have hi2 : i < xs.length := (List.getElem?_eq_some_iff.mp hi).1
      have ex : x = xs.getD i .non := by
        rw [List.getD_eq_getElem?_getD, hi]
        rfl
      rw [ex]
      exact ⟨hw _, cw_turn p (by omega) (fun H2 _ Q q => q H2 (Ex.refl H2)) (fun _ => he _ H1 (e.trans e1) (ex ▸ List.mem_of_getElem? hi))⟩) (fun H' p => q Dl H' (fresh_back e1 p.1) (e1.trans p.2.1) (by
      have := p.2.2
      rw [given_all] at this
      rw [this]
      congr 2
      apply List.ext_getElem?
      intro i
      rw [List.getElem?_map, List.getElem?_map]
      by_cases hi : i < xs.length
      · rw [List.getElem?_range hi, List.getElem?_eq_getElem hi]
        show some (f (xs.getD i .non)) = some (f xs[i])
        rw [List.getD_eq_getElem?_getD, List.getElem?_eq_getElem hi]
        rfl
      · rw [List.getElem?_eq_none (by simp; omega), List.getElem?_eq_none (by omega)]
        rfl))⟩
/-! ### what is refused at a door, and by which class -/
section
variable (K) (H) (cP cR cW cF cB : Addr)
inductive Ref3 : V → V → V → Addr → Prop
  | prime {P R W : V} (h : Thing K H P) (hb : primeOk P = false) : Ref3 P R W cP
  | rule {p : Int} {R W : V} (hp : primeOk (.int p) = true) (h : RestsAre K H p R false) : Ref3 (.int p) R W cR
  | row {p : Int} {R W : V} (hp : primeOk (.int p) = true) (h : RestsAre K H p R true) (h2 : RestsAre K H p W false) : Ref3 (.int p) R W cW
inductive Ref2 : V → V → Addr → Prop
  | prime {P W : V} (h : Thing K H P) (hb : primeOk P = false) : Ref2 P W cP
  | row {p : Int} {W : V} (hp : primeOk (.int p) = true) (h2 : RestsAre K H p W false) : Ref2 (.int p) W cW
def placeOk : V → Bool
  | .int m => decide (0 ≤ m)
  | _ => false
/-- a prime, a rule, a row that may go on -/
structure Goes (p : Int) (a b : Addr) (ns ms : List Int) : Prop where
  hp : primeOk (.int p) = true
  h1 : SqL K H a (il ns)
  r1 : Rs p ns
  l1 : ns.length ≤ 2000
  h2 : SqL K H b (il ms)
  r2 : Rs p ms
  l2 : ms.length ≤ 2000
inductive GoX : V → V → V → V → Addr → Prop
  | three {P R W M : V} {C : Addr} (h : Ref3 K H cP cR cW P R W C) : GoX P R W M C
  | few {p : Int} {a b : Addr} {ns ms : List Int} {M : V} (g : Goes K H p a b ns ms) (h : ms.length < ns.length) : GoX (.int p) (.ref a) (.ref b) M cF
  | place {p : Int} {a b : Addr} {ns ms : List Int} {M : V} (g : Goes K H p a b ns ms) (h : ns.length ≤ ms.length) (hM : Thing K H M) (hb : placeOk M = false) : GoX (.int p) (.ref a) (.ref b) M cB
end
section
variable {cP cR cW cF cB C : Addr} {P R W M : V}
theorem Ref3.up (h : Ref3 K H cP cR cW P R W C) (e : Ex H H') : Ref3 K H' cP cR cW P R W C := by
  cases h with
  | prime h hb => exact .prime (h.up e) hb
  | rule hp h => exact .rule hp (h.up e)
  | row hp h h2 => exact .row hp (h.up e) (h2.up e)
theorem Ref2.up (h : Ref2 K H cP cW P W C) (e : Ex H H') : Ref2 K H' cP cW P W C := by
  cases h with
  | prime h hb => exact .prime (h.up e) hb
  | row hp h2 => exact .row hp (h2.up e)
theorem Goes.up {p : Int} {a b : Addr} {ns ms : List Int} (g : Goes K H p a b ns ms) (e : Ex H H') : Goes K H' p a b ns ms := ⟨g.hp, ex_l e g.h1, g.r1, g.l1, ex_l e g.h2, g.r2, g.l2⟩
theorem Goes.rule {p : Int} {a b : Addr} {ns ms : List Int} (g : Goes K H p a b ns ms) : RestsAre K H p (.ref a) true := rests_il g.h1 g.l1 g.r1
theorem Goes.row {p : Int} {a b : Addr} {ns ms : List Int} (g : Goes K H p a b ns ms) : RestsAre K H p (.ref b) true := rests_il g.h2 g.l2 g.r2
theorem GoX.up (h : GoX K H cP cR cW cF cB P R W M C) (e : Ex H H') : GoX K H' cP cR cW cF cB P R W M C := by
  cases h with
  | three h => exact .three (h.up e)
  | few g h => exact .few (g.up e) h
  | place g h hM hb => exact .place (g.up e) h (hM.up e) hb
end
end
end RK
/-! RrHot: a def that is handed the error that is handled: its promise speaks of the error's object. -/
namespace L2H
open PySem PySem.Spec PyProof.Rows L2 HotX
/-- as FnH, the promise told of the handled error -/
structure FnHP (P : Program) (w : World) (K : PySem.W.Frag) (mg : Str → Option Value) (base : Heap) (CX : CXT) (k : Nat) (f : Addr) (fd : FuncData) (ps : List Str) (sp : Addr × Obj → Sp) : Prop where
  len : ∀ p vs H Q E, sp p vs H Q E → vs.length = ps.length
  run : ∀ (A : Around) (outer : List Env) (s : Shared) (H : Hp) (args : Args) (us : List Value) (vs : List V) (Q : VK) (E : XK) (p : Addr × Obj), RoomH k A → Hot1 A p → PinOk outer H s p → Env0 P w K mg base A outer s H → BindsTo s fd args (ps.zip us) → Vals vs us → sp p vs H Q E →
    codeAny (model P w) A (.call (.ref f) args) (CR CX outer P w H s Q E) s
theorem fn_ofHP {CX : CXT} {P : Program} {w : World} {K : PySem.W.Frag} {mg : Str → Option Value} {base : Heap} {k : Nat} {f : Addr} {name qual : Str} {params : Arguments} {body : List Stmt} {scope : Scope} {dV kV doc pm cdv ct oc : Value} {an od : Option Addr}
    {osl : Array (Option Value)} {N ps : List Str} {sp : Addr × Obj → Sp} (lk : K.lookup f = some ⟨oc, od, .func (PySem.W.fnOf name qual params body scope dV kV doc pm an cdv ct), osl⟩) (hcd : PySem.W.codeIn K cdv qual = true) (S : FnScope N ps scope)
    (len : ∀ p vs H Q E, sp p vs H Q E → vs.length = ps.length)
    (hbody : ∀ (A : Around) (outer : List Env) (s : Shared) (H : Hp) (vs : List V) (Q : VK) (E : XK) (p : Addr × Obj), Hot1 A p → RoomH k (A.deeper (envOfC qual scope s.heap.objs.size f cdv)) → sp p vs H Q E →
      ∃ t, PSs (cxH CX P w K mg base N qual scope f cdv A outer s H E p) body t ∧ t { nx := fun _ H' => Q .non H', rt := Q } (L2.start N vs) H) :
    FnHP P w K mg base CX (k + 1) f (PySem.W.fnOf name qual params body scope dV kV doc pm an cdv ct) ps sp := by
  refine ⟨len, fun A outer s H args us vs Q E p hr hot hpin e0 hb r hsp => ?_⟩
  have hl := len _ _ _ _ _ hsp
  have KX : K.In s.heap := e0.mod.kin.keeps fun b o e => (e0.bs b o e).1
  have lim : s.heap.NoLimit := e0.mod.nolimit.keeps fun b o e => (e0.bs b o e).1
  have hkind : ∀ y ∈ ps.zip us, scope.names.lookup y.1 = some .local ∨ (scope.names.lookup y.1 = some .cell ∧ ((cellsFrom (s.heap.objs.size + 1) scope.names []).lookup y.1).isSome = true) := fun ⟨n, v⟩ hy => by
    rcases S.par n (List.of_mem_zip hy).1 with q | q
    · exact .inl q
    · exact .inr ⟨q, PySem.W.cellsFrom_some _ _ _ (.inl q)⟩
  refine codeAny_call_function hr.depth (KX _ _ lk) rfl S.co S.gen rfl (PySem.W.codeRec_of KX hcd) (hb _ _ _ _ ?_)
  refine wpAny_newFunctionEnv_cells S.kind hkind fun env he s1 x => ?_
  subst he
  refine ⟨lim.keeps x.toInCall.keep, codeAny_func ?_⟩
  obtain ⟨t, ht, hq⟩ := hbody A outer s H vs Q E p hot (hr.deeper _) hsp
  refine wpAny_mono (ht.run [] s1 (L2.start N vs) H _ (inv_startH S hpin e0 hl r x) hq) (fun fl s' hs => ?_) fun e s' hs => hs
  cases fl with
  | ret u =>
    obtain ⟨v, σ', H', J, rv, q⟩ := hs
    exact ⟨v, H', J.os, J.bare, J.base, J.hok, rv, q⟩
  | next =>
    obtain ⟨σ', H', J, q⟩ := hs
    exact ⟨.non, H', J.os, J.bare, J.base, J.hok, rfl, q⟩
  | brk =>
    obtain ⟨_, _, _, q⟩ := hs
    exact False.elim q
  | cont =>
    obtain ⟨_, _, _, q⟩ := hs
    exact False.elim q
section
variable {X : Cx} {k : Nat} {f : Addr} {fd : FuncData} {ps : List Str} {sp : Addr × Obj → Sp} {x : Str} {q pos : Pos} {e e1 e2 : Expr} {es : List Expr} {t : TA} {p1 : Pos}
/-- isinstance of the error that is handled, in a def that was handed it -/
theorem call_isP {p : Addr × Obj} {D : Addr} (hp : p ∈ X.pn) (C : ExcC X.K D) (hz : Zc (.ref D) none p.2) (hf : ∃ vs, p.2.data = .fields vs) : CallR X (.builtin "isinstance") (rIsE X.K D p.1) := by
  intro pins s σ H xs us Q I r h
  obtain ⟨c, cv, b, rfl, hcv, e, q⟩ := h
  cases r with
  | cons rx rr =>
    cases rr with
    | cons rt rr =>
      cases rr
      cases rx
      have ec := hcv _ rt
      subst ec
      obtain ⟨hget, _⟩ := I.pin p (List.mem_append.mpr (.inl hp))
      obtain ⟨vs, hv⟩ := hf
      have J : PySem.W.InstAt s.heap p.1 p.2 D none := by
        obtain ⟨pa, oc, od, oda, osl⟩ := p
        obtain ⟨h1, h2⟩ := hz
        dsimp only at h1 h2 hv hget
        subst h1 h2 hv
        exact ⟨hget, rfl, rfl, trivial⟩
      exact PySem.W.kia_one (PySem.W.handS_kitx_exc C.hg C.hk C.hs C.hd C.ha C.hn C.ht C.hm) I.kIn J e (fun z => nomatch z) fun tk => ⟨.bl b, H, I.kept (t' := tk) fun _ _ z => z, rfl, q⟩
theorem x_isP {p : Addr × Obj} {D : Addr} {tr : TA} (K : PySem.W.Frag) (hK : X.K = K) (hp : p ∈ X.pn) (C : ExcC K D) (hz : Zc (.ref D) none p.2) (hf : ∃ vs, p.2.data = .fields vs) (hm : X.mg "isinstance" = none) (hg : Gl X "isinstance") (ha : PA X [e1, e2] tr)
    (he : starEach [e1, e2] X.env = (false, eval e1 X.env) :: starEach [e2] X.env := by rfl) (hpl : (backTo pos (starEach [e2] X.env)).any (·.1) = false := by rfl) : PE X (.Call (.Name "isinstance" p1) [e1, e2] [] pos) (tCB (rIsE K D p.1) tr) := by
  subst hK; exact pe_callB (call_isP hp C hz hf) hg hm (by decide +kernel) ha (he := he) (hpl := hpl)
/-- such a def is called within the suite: spK is what its promise comes to without the object -/
theorem pe_callK {a : Addr} {oe : Obj} {pn : List (Addr × Obj)} {cls : Value} {d : Option Addr} {spK : Sp} (hz : L2N.Zn cls d oe) (hf : ∃ vs, oe.data = .fields vs) (F : FnHP X.prog X.w X.K X.mg X.base CX0 k f fd ps sp) (hs : ∀ vs H Q E, spK vs H Q E → sp (a, oe) vs H Q E)
    (hr : RoomH k X.A) (hg : Gl X x) (hm : X.mg x = some (.ref f)) (hk : PySem.W.keepIn X.K (.ref f) = true) (hb : Binds X.K fd ps []) (ha : PA (X.suite a ((a, oe) :: pn)) (e :: es) t) (hdb : (x == ("__debug__" : Str)) = false := by decide)
    (he : starEach (e :: es) X.env = (false, eval e X.env) :: starEach es X.env := by rfl) (hpl : (backTo pos (starEach es X.env)).any (·.1) = false := by rfl) :
    PE (X.suite a ((a, oe) :: pn)) (.Call (.Name x q) (e :: es) [] pos) (fun σ H Q => t σ H fun vs H1 => spK vs H1 Q E0) := by
  refine ⟨fun pins s σ H Q I h => ?_⟩
  refine wpAny_Call_Name_kw (ld_glob I hg hm ?_ hdb)
  refine PySem.W.callWith_K (h₀ := X.base) I.ok.mod.kin hk (thn (ha.run pos pins s σ H _ I h) fun us s1 ⟨vs, H1, I1, r, q⟩ => ⟨I1.kIn, ?_⟩) he hpl
  have P1 := I1.pin (a, oe) (List.mem_append_left _ List.mem_cons_self)
  obtain ⟨vs1, d1⟩ := hf
  have hot : Hot1 (X.suite a ((a, oe) :: pn)).A (a, oe) := ⟨rfl, vs1, d1, hz.2.2 vs1 d1⟩
  have hpin : PinOk (X.suite a ((a, oe) :: pn)).stack H1 s1 (a, oe) := ⟨P1.1, P1.2.1, fun hm => (List.mem_cons.mp (I1.stkSub a hm)).elim P1.2.2.1 P1.2.2.2.1, P1.2.2.2.2⟩
  have hl : us.length = ps.length := by rw [← r.length]; exact F.len _ _ _ _ _ (hs _ _ _ _ q)
  have b := hb s1 us I1.kIn (by rw [List.append_nil]; exact hl)
  rw [List.append_nil] at b
  refine wpAny_call (codeAny_mono (F.run (X.suite a ((a, oe) :: pn)).A X.stack s1 H1 ⟨us, []⟩ us vs Q E0 (a, oe) ⟨hr.dp, hr.un⟩ hot hpin I1.env0 b r (hs _ _ _ _ q)) fun r' s' hq => ?_)
  cases r' with
  | error e => exact False.elim hq
  | ok fl =>
    cases fl with
    | ret u => exact I1.after hq
    | next => exact False.elim hq
    | brk => exact False.elim hq
    | cont => exact False.elim hq
end
end L2H
namespace RK
open PySem L2 Evl RR PyProof.Rows
theorem ev_isP {K : PySem.W.Frag} {σ : L2.St} {H : Hp} {ta tb : TE} {a D : Addr} {b : Bool} {c : V} {cv : Value} (ha : Ev ta σ H (.ref a)) (hb : Ev tb σ H c) (hcv : ∀ u, RelV c u → u = cv) (hk : PySem.W.kitOne K (.ref D) cv = some b) :
    Ev (tCB (rIsE K D a) (tCons ta (tCons tb tNil))) σ H (.bl b) := fun H1 e Q q =>
  ha H1 e _ fun H2 e2 => hb H2 (e.trans e2) _ fun H3 e3 => ⟨c, cv, b, rfl, hcv, hk, q H3 (e2.trans e3)⟩
/-- what an error of class D is, of these -/
structure Kinds (K : PySem.W.Frag) (c1 c2 c3 c4 c5 c6 c7 D : Addr) (b1 b2 b3 b4 b5 b6 b7 b8 : Bool) : Prop where
  xc : ExcC K D
  h1 : PySem.W.kitOne K (.ref D) (.ref c1) = some b1
  h2 : PySem.W.kitOne K (.ref D) (.ref c2) = some b2
  h3 : PySem.W.kitOne K (.ref D) (.ref c3) = some b3
  h4 : PySem.W.kitOne K (.ref D) (.ref c4) = some b4
  h5 : PySem.W.kitOne K (.ref D) (.ref c5) = some b5
  h6 : PySem.W.kitOne K (.ref D) (.ref c6) = some b6
  h7 : PySem.W.kitOne K (.ref D) (.ref c7) = some b7
  h8 : PySem.W.kitOne K (.ref D) (.type "ValueError") = some b8
end RK
namespace L2
open PySem PySem.Spec PyProof.Rows
/-- a def that a name holds: its promise goes with the address -/
structure HeldN (P : Program) (w : World) (K : PySem.W.Frag) (mg : Str → Option Value) (base : Heap) (k : Nat) (f : Addr) (sp : Sp) : Prop where
  ex : ∃ (fd : FuncData) (ps : List Str), FnOk P w K mg base (L2N.CX P w) k f fd ps sp ∧ PySem.W.keepIn K (.ref f) = true ∧ Binds K fd ps []
def tCallAS (i : Nat) (R : Addr → Sp → Prop) (E : St → XK) (t : TA) : TE := fun σ H Q => ∃ f sp, σ[i]? = some (some (.ref f)) ∧ R f sp ∧ t σ H fun vs H1 => sp vs H1 Q (E σ)
section
variable {X : Cx} {k i : Nat} {E : St → XK} {x : Str} {p pos : Pos} {e : Expr} {es : List Expr} {t : TA}
theorem pe_callAS {R : Addr → Sp → Prop} (A : ∀ f sp, R f sp → HeldN X.prog X.w X.K X.mg X.base k f sp) (hr : Room k X.A) (hN : X.N[i]? = some x) (hv : Vis X.env.scope x) (hx : ∀ σ, PassesAt (L2N.CX X.prog X.w) X σ (E σ)) (ha : PA X (e :: es) t)
    (hdb : (x == ("__debug__" : Str)) = false := by decide) (hcd : (x == ("__classdict__" : Str)) = false := by decide)
    (he : starEach (e :: es) X.env = (false, eval e X.env) :: starEach es X.env := by rfl) (hpl : (backTo pos (starEach es X.env)).any (·.1) = false := by rfl) : PE X (.Call (.Name x p) (e :: es) [] pos) (tCallAS i R E t) := by
  refine ⟨fun pins s σ H Q I h => ?_⟩
  obtain ⟨f, sp, hs, hR, ht⟩ := h
  obtain ⟨fd, ps, F, hk, hb⟩ := (A f sp hR).ex
  refine wpAny_Call_Name_kw (thn ((pe_var (pos := p) hN hv hdb hcd).run pins s σ H (fun v H1 => v = .ref f ∧ H1 = H) I ⟨.ref f, hs, rfl, rfl⟩) fun u s1 ⟨v, H1, I1, r1, q1⟩ => ?_)
  obtain ⟨rfl, rfl⟩ := q1
  cases r1
  refine PySem.W.callWith_K (h₀ := X.base) I.ok.mod.kin hk (thn (ha.run pos pins s1 σ _ _ I1 ht) fun us s2 ⟨vs, H2, I2, r, q⟩ => ⟨I2.kIn, ?_⟩) he hpl
  exact run_fnS F hr hb (hx σ) I2 r q
end
end L2
/-! RrSeven: bags (lists of mixed things that grow), list(range(n)), range with a step. -/
namespace RK
open PySem L2 Evl RR PyProof.Rows
section
variable {K : PySem.W.Frag} {σ : L2.St} {H H' G : Hp} {ta' tb' : TA} {ta tb tc te tl : TE} {t u : TT} {x y z v : V} {xs ys zs : List V} {ns : List Int} {i j : Int} {a d p : Addr} {D : Ends} {tu tw tz : TS} {φ ψ : Wd} {φs : List Wd}
/-- all but one object -/
def hide (H : Hp) (d : Addr) : Hp := fun b => if b = d then none else H b
theorem hide_no : hide H d d = none := if_pos rfl
theorem hide_at (h : p ≠ d) : hide H d p = H p := if_neg h
theorem hide_ex : Ex (hide H d) H := fun b o h => by
  by_cases c : b = d
  · rw [c, hide_no] at h
    cases h
  · rw [hide_at c] at h
    exact h
theorem hide_up (e : Ex G H) (h : G d = none) : Ex G (hide H d) := fun b o hb => by
  rw [hide_at (ne_of_none hb h)]
  exact e b o hb
/-- a list of things of which words hold, ahead of it -/
structure Bag (φs : List Wd) (G : Hp) (d : Addr) (H : Hp) (xs : List V) : Prop where
  no : G d = none
  up : Ex G H
  at_ : H d = some (.lst xs)
  all : AllW G φs xs
theorem Bag.mono (b : Bag φs G d H xs) (e : Ex H H') : Bag φs G d H' xs := ⟨b.no, b.up.trans e, e _ _ b.at_, b.all⟩
theorem allW_snoc : ∀ {φs : List Wd} {xs : List V}, AllW H φs xs → φ y H → AllW H (φs ++ [φ]) (xs ++ [y])
  | [], _, h, k => by
    rw [show _ = [] from h]
    exact ⟨y, [], rfl, k, rfl⟩
  | _ :: _, _, ⟨z, zs, h1, h2, h3⟩, k => by
    rw [h1]
    exact ⟨z, zs ++ [y], rfl, h2, allW_snoc h3 k⟩
theorem allW_all {P : V → Prop} : ∀ {φs : List Wd} {xs : List V}, AllW H φs xs → (∀ φ ∈ φs, ∀ y, φ y H → P y) → ∀ x ∈ xs, P x
  | [], _, h, _, x, hx => by
    rw [show _ = [] from h] at hx
    cases hx
  | φ :: φs, _, ⟨z, zs, h1, h2, h3⟩, k, x, hx => by
    rw [h1] at hx
    cases hx with
    | head => exact k φ List.mem_cons_self _ h2
    | tail _ hx => exact allW_all h3 (fun ψ hψ => k ψ (List.mem_cons_of_mem _ hψ)) x hx
theorem EvP.imp (h : EvP te σ H φ) (k : ∀ v H1, φ v H1 → ψ v H1) : EvP te σ H ψ := fun H1 e Q q => h H1 e Q fun v H2 e2 hv => q v H2 e2 (k v H2 hv)
/-- a new bag -/
theorem q_asgBag {k : Nat} (m : ∀ φ ∈ φs, Mono φ) (h : EvPs ta' σ H φs) (hz : φs.length ≤ 100000) (q : ∀ l vs G, G l = none → Ex H G → Bag φs G l (upd G l (.lst vs)) vs → tz D (σ.set k (some (.ref l))) (upd G l (.lst vs))) :
    tSeq (tAsg (tLst ta') (gName k)) tz D σ H := h H (Ex.refl H) _ fun vs H1 e1 hv => ⟨sz_of (by rw [allW_len hv]; exact hz), fun p hp => q p vs H1 hp e1 ⟨hp, Ex.new hp, upd_same, hv⟩⟩
/-- a bag grows by a new list, by a value -/
theorem bag_snoc (m : ∀ φ ∈ φs, Mono φ) (b : Bag φs G d H xs) (e : Ex H H') (hy : φ y (hide H' d)) : Bag (φs ++ [φ]) (hide H' d) d (upd H' d (.lst (xs ++ [y]))) (xs ++ [y]) where
  no := hide_no
  up := Ex.mut hide_ex hide_no
  at_ := upd_same
  all := allW_snoc (allW_up m b.all (hide_up (b.up.trans e) b.no)) hy
theorem s_appBagL (m : ∀ φ ∈ φs, Mono φ) (b : Bag φs G d H xs) (hz : φs.length < 100000) (ha : Ev ta σ H (.ref d)) (h : EvL te σ H ys) (hφ : ∀ p H1, H1 p = some (.lst ys) → φ (.ref p) H1) (k : ∀ G' H' zs, Ex G G' → Bag (φs ++ [φ]) G' d H' zs → D.nx σ H') :
    tDrop (tBM K "list" rAppend ta (tCons te tNil)) D σ H := ha H (Ex.refl H) _ fun H1 e1 =>
  ⟨.inl ⟨rfl, _, sq_of (e1 d _ b.at_)⟩, h H1 e1 _ fun p H2 np e2 hp => ⟨d, xs, .ref p, rfl, rfl, e2 d _ (e1 d _ b.at_), sz_lt (by rw [allW_len b.all]; exact hz),
    k _ _ _ (hide_up (b.up.trans (e1.trans e2)) b.no) (bag_snoc m b (e1.trans e2) (hφ p _ (by rw [hide_at (ne_of_none (e1 d _ b.at_) np).symm]; exact hp)))⟩⟩
theorem q_appBagV (m : ∀ φ ∈ φs, Mono φ) (b : Bag φs G d H xs) (hz : φs.length < 100000) (ha : Ev ta σ H (.ref d)) (h : Ev te σ H v) (hφ : ∀ H1, φ v H1) (k : ∀ G' H' zs, Ex G G' → Bag (φs ++ [φ]) G' d H' zs → tz D σ H') :
    tSeq (tDrop (tBM K "list" rAppend ta (tCons te tNil))) tz D σ H := ha H (Ex.refl H) _ fun H1 e1 =>
  ⟨.inl ⟨rfl, _, sq_of (e1 d _ b.at_)⟩, h H1 e1 _ fun H2 e2 => ⟨d, xs, v, rfl, rfl, e2 d _ (e1 d _ b.at_), sz_lt (by rw [allW_len b.all]; exact hz),
    k _ _ _ (hide_up (b.up.trans (e1.trans e2)) b.no) (bag_snoc m b (e1.trans e2) (hφ _))⟩⟩
/-- list(range(n)) -/
theorem el_listRg {n : Int} (h : Ev te σ H (.int n)) (hn : 0 ≤ n ∧ n ≤ 1000) : EvL (tLstRg (tRg1 te)) σ H (il ((List.range n.toNat).map fun (k : Nat) => (k : Int))) := fun H1 e Q q =>
  h H1 e _ fun H2 e2 => ⟨n, rfl, RgOk.of_le (by omega) (by omega) (by omega) (by omega), fun p hp => by
    refine q p _ (fresh_back e2 hp) (e2.trans (Ex.new hp)) ?_
    rw [upd_same]
    congr 2
    unfold rgV il
    rw [List.map_map, show n - 0 = n by omega]
    apply List.map_congr_left
    intro k _
    show V.int (0 + (k : Int)) = V.int (k : Int)
    rw [Int.zero_add]⟩
/-- for i in range(0, n, c) -/
theorem q_forR3 {k : Nat} {n c : Int} {m : Nat} (h : EvA ta' σ H [.int 0, .int n, .int c]) (hr : RgC 0 n c m) (Pv : Nat → L2.St → Hp → Prop) (h0 : ∀ H1, Ex H H1 → Pv 0 σ H1)
    (hs : ∀ (i : Nat) σ' H', i < m → Pv i σ' H' → tu { D with nx := Pv (i + 1), ct := Pv (i + 1), bk := tz D } (σ'.set k (some (.int ((i : Int) * c)))) H') (hd : ∀ σ' H', Pv m σ' H' → tz D σ' H') : tSeq (tFor (iRng3 ta') (gName k) tu) tz D σ H :=
  h H (Ex.refl H) _ fun H1 e => ⟨0, n, c, m, rfl, hr, for_rangeC (D := { D with nx := tz D }) Pv (h0 H1 e) (fun i σ' H' hi p => by
    rw [Int.zero_add]
    exact hs i σ' H' hi p) hd⟩
theorem q_parLV {k l : Nat} (h1 : EvL ta σ H xs) (h2 : Ev tb σ H y) (q : ∀ p H1, H p = none → Ex H H1 → H1 p = some (.lst xs) → tz D ((σ.set k (some (.ref p))).set l (some y)) H1) :
    tSeq (tPar k l (tCons ta (tCons tb tNil))) tz D σ H :=
  h1 H (Ex.refl H) _ fun p H1 n1 e1 g1 => h2 H1 e1 _ fun H2 e2 => ⟨_, _, rfl, q p H2 n1 (e1.trans e2) (e2 _ _ g1)⟩
end
/-! ### what the law draws -/
/-- the steps of law 7 -/
def stepsN (m : Nat) : Nat := (m + m / 6) / (1 + m / 6)
theorem rgc_steps {m : Nat} (h : m ≤ 63) : RgC 0 (m : Int) (1 + (m : Int) / 6) (stepsN m) := by
  have : ∀ m : Nat, m < 64 → Builtin.Range.small 0 (m : Int) (1 + (m : Int) / 6) = true ∧ Builtin.Range.rangeSize 0 (m : Int) (1 + (m : Int) / 6) = (stepsN m : Int) := by decide +kernel
  have t := this m (by omega)
  exact ⟨by omega, by omega, t.1, t.2⟩
theorem steps_at {m k : Nat} (h : m ≤ 63) (hk : k < stepsN m) : (k : Int) * (1 + (m : Int) / 6) < m := by
  have : ∀ m : Nat, m < 64 → ∀ k : Nat, k < stepsN m → (k : Int) * (1 + (m : Int) / 6) < m := by decide +kernel
  exact this m (by omega) k hk
theorem steps_le {m : Nat} (h : m ≤ 63) : stepsN m ≤ 63 := by
  have : ∀ m : Nat, m < 64 → stepsN m ≤ 63 := by decide +kernel
  exact this m (by omega)
/-- no prime: a product -/
theorem prod_no {a b : Int} (ha : 2 ≤ a ∧ a ≤ 30) (hb : 2 ≤ b) : primeOk (.int (a * b)) = false := by
  have hlt : a < a * b := by
    have : a * 2 ≤ a * b := Int.mul_le_mul_of_nonneg_left hb (by omega)
    omega
  show (decide (2 ≤ a * b) && decide (a * b ≤ 997) && !((List.range 30).any _)) = false
  rw [Bool.and_eq_false_iff]
  right
  rw [Bool.not_eq_false', List.any_eq_true]
  refine ⟨(a - 2).toNat, List.mem_range.mpr (by omega), ?_⟩
  have e : (2 : Int) + ((a - 2).toNat : Int) = a := by omega
  rw [e, Bool.and_eq_true, decide_eq_true_eq, decide_eq_true_eq]
  exact ⟨hlt, Int.mul_emod_right a b⟩
theorem big_no {p : Int} (h : 997 < p) : primeOk (.int p) = false := by
  show (decide (2 ≤ p) && decide (p ≤ 997) && _) = false
  rw [decide_eq_false (show ¬ p ≤ 997 by omega), Bool.and_false, Bool.false_and]
theorem small_no {p : Int} (h : p < 2) : primeOk (.int p) = false := by
  show (decide (2 ≤ p) && decide (p ≤ 997) && _) = false
  rw [decide_eq_false (show ¬ 2 ≤ p by omega), Bool.false_and, Bool.false_and]
/-- what the class with this number is told as -/
def dueB (k : Nat) : List Bool := [decide ((k : Int) = 0), decide ((k : Int) = 1), decide ((k : Int) = 2), decide ((k : Int) = 3), decide ((k : Int) = 4), decide ((k : Int) = 5), false, true]
/-- words of what is handed in -/
def wNoPrime (K : PySem.W.Frag) : Wd := fun y H => Thing K H y ∧ primeOk y = false
def wBad (K : PySem.W.Frag) : Wd := fun y H => RestsAre K H 5 y false
def wNoPlace (K : PySem.W.Frag) : Wd := fun y H => Thing K H y ∧ placeOk y = false
def wFew (K : PySem.W.Frag) : Wd := fun y H => ∃ (b : Addr) (ms : List Int), y = .ref b ∧ SqL K H b (il ms) ∧ Rs 5 ms ∧ ms.length < 3
section
variable {K : PySem.W.Frag} {σ : L2.St} {H H' G : Hp} {te : TE} {ta : TA} {v : V} {xs : List V}
theorem mono_np : Mono (wNoPrime K) := fun _ _ _ e h => ⟨h.1.up e, h.2⟩
theorem mono_bad : Mono (wBad K) := fun _ _ _ e h => h.up e
theorem mono_npl : Mono (wNoPlace K) := fun _ _ _ e h => ⟨h.1.up e, h.2⟩
theorem mono_few : Mono (wFew K) := fun _ _ _ e ⟨b, ms, h1, h2, h3, h4⟩ => ⟨b, ms, h1, ex_l e h2, h3, h4⟩
/-- a list of things, one of which is no rest -/
theorem bad_list {a : Addr} (h : SqL K H a xs) (hl : xs.length ≤ 2000) (ht : ∀ y ∈ xs, Thing K H y) (hb : xs.all (okRest 5) = false) : RestsAre K H 5 (.ref a) false := .inr ⟨a, xs, rfl, h, hl, ht, hb.symm⟩
theorem ep_bad (h : EvL te σ H xs) (hl : xs.length ≤ 2000) (ht : ∀ y ∈ xs, ∀ H, NoL K H y) (hb : xs.all (okRest 5) = false) : EvP te σ H (wBad K) := (ep_m (em_of_l h)).imp fun v H1 ⟨p, e, hp⟩ => by
  subst e
  exact bad_list (sq_of hp) hl (fun y hy => .no (ht y hy H1)) hb
theorem ep_badV (h : Ev te σ H v) (hn : ∀ H, NoL K H v) : EvP te σ H (wBad K) := (ep_v h).imp fun y H1 e => by
  rw [show y = v from e]
  exact .inl ⟨hn H1, rfl⟩
theorem ep_badT {ta : TA} {φs : List Wd} (m : ∀ φ ∈ φs, Mono φ) (h : EvPs ta σ H φs) (hz : φs.length ≤ 100000) : EvP (tTup ta) σ H (wBad K) := (ep_t m h hz).imp fun y H1 ⟨T, vs, e, hT, _⟩ => by
  subst e
  exact .inl ⟨.tup hT, rfl⟩
theorem ep_badD : EvP tDNewK σ H (wBad K) := fun H1 e Q q => fun p hp => q (.ref p) _ (Ex.new hp) (.inl ⟨.dct upd_same, rfl⟩)
/-- [[1]] -/
theorem ep_badLL {ta : TE} (h : EvL ta σ H xs) : EvP (tLst (tCons ta tNil)) σ H (wBad K) := fun H1 e Q q =>
  h H1 e _ fun p H2 np e2 hp => ⟨sz_of (by simp), fun l nl => q (.ref l) _ (e2.trans (Ex.new nl)) (bad_list (xs := [.ref p]) (sq_of upd_same) (by simp) (fun y hy => by
    cases hy with
    | head => exact .lst (sq_of (Ex.new nl _ _ hp))
    | tail _ hy => cases hy) rfl)⟩
theorem ep_npV (h : Ev te σ H v) (hn : ∀ H, NoL K H v) (hb : primeOk v = false) : EvP te σ H (wNoPrime K) := (ep_v h).imp fun y H1 e => by
  rw [show y = v from e]
  exact ⟨.no (hn H1), hb⟩
theorem ep_npL (h : EvL te σ H xs) : EvP te σ H (wNoPrime K) := (ep_m (em_of_l h)).imp fun v H1 ⟨p, e, hp⟩ => by
  subst e
  exact ⟨.lst (sq_of hp), rfl⟩
theorem ep_nplV (h : Ev te σ H v) (hn : ∀ H, NoL K H v) (hb : placeOk v = false) : EvP te σ H (wNoPlace K) := (ep_v h).imp fun y H1 e => by
  rw [show y = v from e]
  exact ⟨.no (hn H1), hb⟩
theorem ep_nplL (h : EvL te σ H xs) : EvP te σ H (wNoPlace K) := (ep_m (em_of_l h)).imp fun v H1 ⟨p, e, hp⟩ => by
  subst e
  exact ⟨.lst (sq_of hp), rfl⟩
theorem ep_few {ms : List Int} (h : EvL te σ H (il ms)) (hr : rs 5 ms = true) (hl : ms.length < 3) : EvP te σ H (wFew K) := (ep_m (em_of_l h)).imp fun v H1 ⟨p, e, hp⟩ => by
  subst e
  exact ⟨p, ms, rfl, sq_of hp, rs_iff.mp hr, hl⟩
theorem bent_bad {ms : List Int} {v : V} {at_ : Nat} (hv : okRest 5 v = false) : (il (ms.take at_) ++ [v] ++ il (ms.drop (at_ + 1))).all (okRest 5) = false := by
  rw [List.all_append, List.all_append]
  show (_ && (okRest 5 v && true) && _) = false
  rw [hv, Bool.false_and, Bool.and_false, Bool.false_and]
/-- a list of things, of each of which a word holds -/
def wThings (K : PySem.W.Frag) (φ : Wd) : Wd := fun y H => ∃ p xs, y = .ref p ∧ SqL K H p xs ∧ xs.length ≤ 1000 ∧ ∀ x ∈ xs, φ x H
theorem mono_things {φ : Wd} (m : Mono φ) : Mono (wThings K φ) := fun _ _ _ e ⟨p, xs, h1, h2, h3, h4⟩ => ⟨p, xs, h1, ex_l e h2, h3, fun x hx => m _ _ _ e (h4 x hx)⟩
theorem ep_things {φ : Wd} {φs : List Wd} (m : ∀ ψ ∈ φs, Mono ψ) (h : EvPs ta σ H φs) (hz : φs.length ≤ 1000) (k : ∀ ψ ∈ φs, ∀ y H, ψ y H → φ y H) : EvP (tLst ta) σ H (wThings K φ) := fun H1 e Q q =>
  h H1 e _ fun vs H2 e2 hv => ⟨sz_of (by rw [allW_len hv]; omega), fun p hp => q (.ref p) _ (e2.trans (Ex.new hp)) ⟨p, vs, rfl, sq_of upd_same, by rw [allW_len hv]; exact hz, allW_all (allW_up m hv (Ex.new hp)) fun ψ hψ y => k ψ hψ y _⟩⟩
theorem ep_bag {φ : Wd} {φs : List Wd} {n : Nat} {d : Addr} (hn : σ[n]? = some (some (.ref d))) (m : ∀ ψ ∈ φs, Mono ψ) (b : Bag φs G d H xs) (hz : φs.length ≤ 1000) (k : ∀ ψ ∈ φs, ∀ y H, ψ y H → φ y H) : EvP (tVar n) σ H (wThings K φ) := fun H1 e Q q =>
  ⟨_, hn, q _ H1 (Ex.refl H1) ⟨d, xs, rfl, sq_of (e _ _ b.at_), by rw [allW_len b.all]; exact hz, allW_all (allW_up m b.all (b.up.trans e)) fun ψ hψ y => k ψ hψ y _⟩⟩
theorem rep_mem {φ ψ : Wd} {n : Nat} (h : ψ ∈ List.replicate n φ) : ψ = φ := List.eq_of_mem_replicate h
/-- what is due of each class -/
def Dues (K : PySem.W.Frag) (H : Hp) (d : Addr) : Prop := ∃ xs, H d = some (.lst xs) ∧ ∀ k : Nat, k < 6 → ∃ p, atI xs (k : Int) = some (.ref p) ∧ SqL K H p (bls (dueB k))
theorem Dues.up {d : Addr} (h : Dues K H d) (e : Ex H H') : Dues K H' d := by
  obtain ⟨xs, h1, h2⟩ := h
  exact ⟨xs, e _ _ h1, fun k hk => by
    obtain ⟨p, h3, h4⟩ := h2 k hk
    exact ⟨p, h3, ex_l e h4⟩⟩
theorem dues_of {d : Addr} (b : Bag ((List.range 6).map fun k => wL K (bls (dueB k))) G d H xs) : Dues K H d := by
  refine ⟨xs, b.at_, fun k hk => ?_⟩
  have hl : xs.length = 6 := by rw [allW_len b.all]; rfl
  have hx : xs[k]? = some (xs[k]'(by omega)) := List.getElem?_eq_getElem _
  obtain ⟨φ, h1, h2⟩ := allW_at b.all hx
  rw [List.getElem?_map, List.getElem?_range (by omega)] at h1
  have : (wL K (bls (dueB k))) = φ := Option.some.inj h1
  subst this
  obtain ⟨p, h3, h4⟩ := h2
  refine ⟨p, ?_, ex_l b.up h4⟩
  rw [h3] at hx
  exact atI_nat hx
theorem er_due {d : Addr} {n k : Nat} (hn : σ[n]? = some (some (.ref d))) (h : Dues K H d) (hk : k < 6) : EvR K (tOp (rIxL K) (tVar n) (tC (.int (k : Int)))) σ H (bls (dueB k)) := by
  obtain ⟨xs, h1, h2⟩ := h
  obtain ⟨p, h3, h4⟩ := h2 k hk
  exact er_ix (er_var hn (sq_of h1)) ev_c h3 h4
theorem ev_neBs {tb : TE} {ms ns : List Bool} (ha : EvR K te σ H (bls ms)) (hb : EvR K tb σ H (bls ns)) : Ev (tOp (rNeD K) te tb) σ H (.bl (!decide (ms = ns))) := fun H1 e Q q =>
  ha H1 e _ fun p H2 e2 hp => hb H2 (e.trans e2) _ fun p2 H3 e3 hp2 => ⟨_, _, dp_bools (ex_l e3 hp), dp_bools hp2, shaped_bools _, shaped_bools _, by
    show Q (.bl (!(PyData.eqvAll _ _))) H3
    rw [eqv_bools]
    exact q H3 (e2.trans e3)⟩
theorem ep_bad1 {v : V} (h : Ev te σ H v) (hn : ∀ H, NoL K H v) (hb : okRest 5 v = false) : EvP (tLst (tCons te tNil)) σ H (wBad K) := ep_bad (el_lst (ea_cons h ea_nil) (by simp)) (by simp) (fun y hy H => by
    rw [List.mem_singleton.mp hy]
    exact hn H) (by
    show (okRest 5 v && true) = false
    rw [hb]
    rfl)
theorem okR_big {i : Int} (h : 5 ≤ i) : okRest 5 (.int i) = false := by
  show (decide (0 ≤ i) && decide (i < 5)) = false
  rw [decide_eq_false (show ¬ i < 5 by omega), Bool.and_false]
theorem okR_neg {i : Int} (h : i < 0) : okRest 5 (.int i) = false := by
  show (decide (0 ≤ i) && decide (i < 5)) = false
  rw [decide_eq_false (show ¬ 0 ≤ i by omega), Bool.false_and]
/-- the thing that is set in -/
theorem spot_at {F i : Int} (hF : 0 ≤ F) (h : 0 ≤ i ∧ i < 5) : ∃ v, atI [.non, .str "1", .bl true, .int (5 + F), .int (-1)] i = some v ∧ okRest 5 v = false ∧ ∀ H, NoL K H v := by
  rcases (show i = 0 ∨ i = 1 ∨ i = 2 ∨ i = 3 ∨ i = 4 by omega) with e | e | e | e | e
  · rw [e]; exact ⟨_, rfl, rfl, fun _ => .non⟩
  · rw [e]; exact ⟨_, rfl, rfl, fun _ => .str _⟩
  · rw [e]; exact ⟨_, rfl, rfl, fun _ => .bl _⟩
  · rw [e]; exact ⟨_, rfl, okR_big (by omega), fun _ => .int _⟩
  · rw [e]; exact ⟨_, rfl, okR_neg (by omega), fun _ => .int _⟩
end
end RK
namespace RP
open PySem PySem.Spec PyProof.Rows L2 Evl RR RK
/-! own short tactics, under the walk's word: ev (what an expression evaluates to), sd (a side condition), sq (a list that stands) -/
local macro_rules | `(tactic| walk_at "sq") => `(tactic| first
  | assumption
  | exact sq_of (by assumption)
  | exact Has.at (by assumption) (List.Mem.head _)
  | exact Has.at (by assumption) (List.Mem.tail _ (List.Mem.head _))
  | exact Has.at (by assumption) (List.Mem.tail _ (List.Mem.tail _ (List.Mem.head _)))
  | exact Has.at (by assumption) (List.Mem.tail _ (List.Mem.tail _ (List.Mem.tail _ (List.Mem.head _))))
  | exact Has.at (by assumption) (List.Mem.tail _ (List.Mem.tail _ (List.Mem.tail _ (List.Mem.tail _ (List.Mem.head _)))))
  | exact Has.at (by assumption) (List.Mem.tail _ (List.Mem.tail _ (List.Mem.tail _ (List.Mem.tail _ (List.Mem.tail _ (List.Mem.head _)))))))
local macro_rules | `(tactic| walk_at "hb") => `(tactic| (with_reducible intro hb; try simp only [Bool.and_eq_true, Bool.or_eq_true, Bool.not_eq_true', Bool.not_eq_false', Bool.and_eq_false_iff, Bool.or_eq_false_iff, decide_eq_true_eq, decide_eq_false_iff_not] at hb))
local macro_rules | `(tactic| walk_at "sd") => `(tactic| first | assumption | omega | (constructor <;> omega) | exact trivial | (simp only [List.length_cons, List.length_nil, List.length_map, List.length_take, List.length_drop, List.length_append, List.length_reverse]; omega) | skip)
/-- no def of the text: the newest rows stand further on -/
local macro_rules | `(tactic| walk_at "own") => `(tactic| fail "no own def")
local macro_rules | `(tactic| walk_at "fl") => `(tactic| first | exact fl3_rule _ _ _ | exact fl3_shorter _ _ _ | exact fl3_place _ _ _ | exact fl4_one _ _ _ _ | exact fl4_other _ _ _ _ | exact fl4_shorter _ _ _ _ | exact fl4_place _ _ _ _)
local macro_rules | `(tactic| walk_at "ev") => `(tactic| first
  | with_reducible exact ev_c
  | ((with_reducible apply ev_var); rfl)
  | ((with_reducible apply em_var); rfl; assumption)
  | ((with_reducible apply er_var); rfl; walk_at "sq")
  | ((with_reducible apply er_ix); walk_at "ev"; walk_at "ev"; rfl; walk_at "sq")
  | ((with_reducible apply em_fld); walk_at "ev"; assumption)
  | ((with_reducible apply er_fld); walk_at "ev"; walk_at "sq")
  | ((with_reducible apply ev_fld); walk_at "ev"; assumption; assumption; assumption; walk_at "fl")
  | ((with_reducible apply ev_add) <;> walk_at "ev")
  | ((with_reducible apply ev_sub) <;> walk_at "ev")
  | ((with_reducible apply ev_mul) <;> walk_at "ev")
  | ((with_reducible apply ev_mod) <;> walk_at "ev")
  | ((with_reducible apply ev_div) <;> walk_at "ev")
  | ((with_reducible apply ev_lt) <;> walk_at "ev")
  | ((with_reducible apply ev_le) <;> walk_at "ev")
  | ((with_reducible apply ev_gt) <;> walk_at "ev")
  | ((with_reducible apply ev_ge) <;> walk_at "ev")
  | ((with_reducible apply ev_eq) <;> walk_at "ev")
  | ((with_reducible apply ev_ne) <;> walk_at "ev")
  | ((with_reducible apply ev_neg) <;> walk_at "ev")
  | ((with_reducible apply ev_shr) <;> walk_at "ev")
  | ((with_reducible apply ev_band1) <;> walk_at "ev")
  | ((with_reducible apply ev_absI) <;> walk_at "ev")
  | ((with_reducible apply ev_isB) <;> walk_at "ev")
  | ((with_reducible apply ev_notB) <;> walk_at "ev")
  | ((with_reducible apply ev_ixLast) <;> walk_at "ev")
  | ((with_reducible apply ev_ixI) <;> walk_at "ev")
  | ((with_reducible apply ev_ixR); walk_at "ev"; walk_at "ev"; rfl)
  | ((with_reducible apply ev_eqL) <;> walk_at "ev")
  | ((with_reducible apply ev_neL) <;> walk_at "ev")
  | ((with_reducible apply ev_ixTvar); rfl; (exact st_of (by assumption)); walk_at "ev"; rfl)
  | ((with_reducible apply ev_ixTi); rfl; (exact st_of (by assumption)); walk_at "ev"; walk_at "sd")
  | ((with_reducible apply ev_ixUi) <;> walk_at "ev")
  | ((with_reducible apply er_ifT) <;> walk_at "ev")
  | ((with_reducible apply er_ifF) <;> walk_at "ev")
  | ((with_reducible apply ev_ifI) <;> walk_at "ev")
  | ((with_reducible apply ev_ifT) <;> walk_at "ev")
  | ((with_reducible apply ev_ifF) <;> walk_at "ev")
  | ((with_reducible apply ev_alt1) <;> walk_at "ev")
  | ((with_reducible apply ev_alt2) <;> walk_at "ev")
  | ((with_reducible apply ev_isiO); walk_at "ev"; assumption; assumption; assumption; assumption; assumption; assumption; assumption)
  | ((with_reducible apply ev_eqLL) <;> walk_at "ev")
  | ((with_reducible apply ev_neLL) <;> walk_at "ev")
  | ((with_reducible apply ell_var); rfl; walk_at "sq"; walk_at "sq"; walk_at "sq")
  | ((with_reducible apply ell_lst) <;> walk_at "ev")
  | ((with_reducible apply ev_lenI) <;> walk_at "ev")
  | ((with_reducible apply ev_lenR) <;> walk_at "ev")
  | ((with_reducible apply ev_sumR) <;> walk_at "ev")
  | ((with_reducible apply ev_allR) <;> walk_at "ev")
  | ((with_reducible apply ev_anyR) <;> walk_at "ev")
  | ((with_reducible apply ev_max2) <;> walk_at "ev")
  | ((with_reducible apply ev_isiV) <;> walk_at "ev")
  | with_reducible exact fun _ => TyX.base (TyOf.int _)
  | with_reducible exact fun _ => TyX.base (TyOf.bl _)
  | exact fun e => tyx_sql (ex_l e (by walk_at "sq"))
  | with_reducible exact kit_ty (r := true) (by decide +kernel)
  | with_reducible exact kit_ty (r := false) (by decide +kernel)
  | with_reducible exact Sc.int _ _
  | with_reducible exact Sc.bl _ _
  | with_reducible exact Sc.str _ _
  | ((with_reducible apply ev_andV) <;> walk_at "ev")
  | ((with_reducible apply ev_orV) <;> walk_at "ev")
  | ((with_reducible apply ev_notV) <;> walk_at "ev")
  | ((with_reducible apply ev_chain) <;> walk_at "ev")
  | ((with_reducible apply et_and) <;> walk_at "ev")
  | ((with_reducible apply et_or) <;> walk_at "ev")
  | ((with_reducible apply et_not) <;> walk_at "ev")
  | ((with_reducible apply et_test) <;> walk_at "ev")
  | ((with_reducible apply et_B) <;> walk_at "ev")
  | with_reducible exact et_yes
  | with_reducible exact rv_lt
  | with_reducible exact rv_le
  | with_reducible exact rv_eqI
  | with_reducible exact ea_nilI
  | with_reducible exact ea_nil
  | ((with_reducible apply ea_consI) <;> walk_at "ev")
  | ((with_reducible apply ea_cons) <;> walk_at "ev")
  | with_reducible exact eas_nil
  | ((with_reducible apply eas_v) <;> walk_at "ev")
  | ((with_reducible apply eas_l) <;> walk_at "ev")
  | ((with_reducible apply eas_m) <;> walk_at "ev")
  | with_reducible exact eo_none
  | ((with_reducible apply eo_some) <;> walk_at "ev")
  | ((with_reducible apply el_catI) <;> walk_at "ev")
  | ((with_reducible apply el_repI) <;> walk_at "ev")
  | ((with_reducible apply el_slBut) <;> walk_at "ev")
  | ((with_reducible apply el_slFrom) <;> walk_at "ev")
  | ((with_reducible apply el_slTo) <;> walk_at "ev")
  | ((with_reducible apply el_slR) <;> walk_at "ev")
  | ((with_reducible apply el_listR) <;> walk_at "ev")
  | ((with_reducible apply el_revI) <;> walk_at "ev")
  | with_reducible exact el_nilI
  | with_reducible exact el_nil
  | ((with_reducible apply el_one) <;> walk_at "ev")
  | ((with_reducible apply el_lstI) <;> walk_at "ev")
  | ((with_reducible apply el_lst) <;> walk_at "ev")
  | ((with_reducible apply eu_tup) <;> walk_at "ev")
  | walk_at "own"
  | ((with_reducible apply er_of_l) <;> walk_at "ev")
  | ((with_reducible apply em_of_l) <;> walk_at "ev")
  | (walk_at "hb"; walk_at "ev")
  | ((with_reducible show EvL (tLc _ _ _ _ _) _ _ _); skip)
  | ((with_reducible first | show List _ | show Int | show Bool | show V | show Nat | show Addr | show Str | show Value); skip)
  | (((fail_if_success with_reducible first | show Ev _ _ _ _ | show EvR _ _ _ _ _ | show EvM _ _ _ _ | show EvL _ _ _ _ | show EvT _ _ _ _ | show EvA _ _ _ _ | show EvAs _ _ _ _ _ | show EvU _ _ _ _ | show EvO _ _ _ _ | show EvLL _ _ _ _ _ _)); walk_at "sd"))
def topS (i : Nat) : Stmt := PySem.Challenge.pw_rulerow_k07_refused.main.body.getD i (.Pass ⟨0, 0, 0, 0⟩)
abbrev s_is_whole : Stmt := topS 11
abbrev s_check_prime : Stmt := topS 12
abbrev s_are_rests : Stmt := topS 13
abbrev s_check_row : Stmt := topS 14
abbrev s_inverse : Stmt := topS 16
abbrev s_check_rule : Stmt := topS 15
abbrev s_due_at : Stmt := topS 18
abbrev s_turned : Stmt := topS 26
abbrev s_told_back : Stmt := topS 27
abbrev s_least : Stmt := topS 39
abbrev s__law_cell_at : Stmt := topS 44
abbrev s__law_draw : Stmt := topS 45
abbrev s__law_rests : Stmt := topS 47
abbrev s__law_due : Stmt := topS 49
abbrev s__law_row : Stmt := topS 48
abbrev s_makes : Stmt := topS 20
abbrev s_both : Stmt := topS 28
abbrev s_unlike : Stmt := topS 40
abbrev s_written : Stmt := topS 42
abbrev s_check_going : Stmt := topS 21
abbrev s_far : Stmt := topS 25
abbrev s_go_on : Stmt := topS 22
abbrev s_backwards : Stmt := topS 29
abbrev s__law_more : Stmt := topS 55
abbrev s__law_with_prime : Stmt := topS 54
abbrev s__law_with_rule : Stmt := topS 56
abbrev s__law_with_row : Stmt := topS 57
abbrev s__law_with_few : Stmt := topS 58
abbrev s__law_with_place : Stmt := topS 59
abbrev s__law_kinds : Stmt := topS 53
abbrev s__law_told : Stmt := topS 60
abbrev s__law_all : Stmt := topS 61
abbrev s_law : Stmt := topS 62
theorem sc_is_whole : FnScope ["thing"] ["thing"] (defScope s_is_whole) := ⟨rfl, rfl, rfl, by decide +kernel, rfl, by decide +kernel, by decide +kernel⟩
theorem sc_check_prime : FnScope ["prime", "at"] ["prime"] (defScope s_check_prime) := ⟨rfl, rfl, rfl, by decide +kernel, rfl, by decide +kernel, by decide +kernel⟩
theorem sc_are_rests : FnScope ["prime", "thing", "one"] ["prime", "thing"] (defScope s_are_rests) := ⟨rfl, rfl, rfl, by decide +kernel, rfl, by decide +kernel, by decide +kernel⟩
theorem sc_check_row : FnScope ["prime", "row"] ["prime", "row"] (defScope s_check_row) := ⟨rfl, rfl, rfl, by decide +kernel, rfl, by decide +kernel, by decide +kernel⟩
theorem sc_inverse : FnScope ["prime", "rest", "here", "there", "times"] ["prime", "rest"] (defScope s_inverse) := ⟨rfl, rfl, rfl, by decide +kernel, rfl, by decide +kernel, by decide +kernel⟩
theorem sc_check_rule : FnScope ["prime", "rule"] ["prime", "rule"] (defScope s_check_rule) := ⟨rfl, rfl, rfl, by decide +kernel, rfl, by decide +kernel, by decide +kernel⟩
theorem sc_due_at : FnScope ["prime", "rule", "row", "place", "k", "rest"] ["prime", "rule", "row", "place"] (defScope s_due_at) := ⟨rfl, rfl, rfl, by decide +kernel, rfl, by decide +kernel, by decide +kernel⟩
theorem sc_turned : FnScope ["prime", "rule", "rest"] ["prime", "rule"] (defScope s_turned) := ⟨rfl, rfl, rfl, by decide +kernel, rfl, by decide +kernel, by decide +kernel⟩
theorem sc_told_back : FnScope ["prime", "rests", "rest"] ["prime", "rests"] (defScope s_told_back) := ⟨rfl, rfl, rfl, by decide +kernel, rfl, by decide +kernel, by decide +kernel⟩
theorem sc_least : FnScope ["prime", "row", "rule", "shorter", "place", "miss"] ["prime", "row"] (defScope s_least) := ⟨rfl, rfl, rfl, by decide +kernel, rfl, by decide +kernel, by decide +kernel⟩
theorem sc__law_cell_at : FnScope ["_law_script", "_law_k"] ["_law_script", "_law_k"] (defScope s__law_cell_at) := ⟨rfl, rfl, rfl, by decide +kernel, rfl, by decide +kernel, by decide +kernel⟩
theorem sc__law_draw : FnScope ["_law_cell", "_law_k", "_law_many", "_law_primes"] ["_law_cell", "_law_k", "_law_many"] (defScope s__law_draw) := ⟨rfl, rfl, rfl, by decide +kernel, rfl, by decide +kernel, by decide +kernel⟩
theorem sc__law_rests : FnScope ["_law_script", "_law_by", "_law_prime_here", "_law_many", "_law_k"] ["_law_script", "_law_by", "_law_prime_here", "_law_many"] (defScope s__law_rests) := ⟨rfl, rfl, rfl, by decide +kernel, rfl, by decide +kernel, by decide +kernel⟩
theorem sc__law_due : FnScope ["_law_prime_here", "_law_rule", "_law_row_here", "_law_place", "_law_k", "_law_rest"] ["_law_prime_here", "_law_rule", "_law_row_here", "_law_place"] (defScope s__law_due) := ⟨rfl, rfl, rfl, by decide +kernel, rfl, by decide +kernel, by decide +kernel⟩
theorem sc__law_row : FnScope ["_law_script", "_law_prime_here", "_law_kind", "_law_many", "_law_drawn", "_law_rule", "_law_place", "_law_k", "_law_number"] ["_law_script", "_law_prime_here"] (defScope s__law_row) := ⟨rfl, rfl, rfl, by decide +kernel, rfl, by decide +kernel, by decide +kernel⟩
theorem sc_makes : FnScope ["prime", "rule", "row"] ["prime", "rule", "row"] (defScope s_makes) := ⟨rfl, rfl, rfl, by decide +kernel, rfl, by decide +kernel, by decide +kernel⟩
theorem sc_both : FnScope ["prime", "one", "other"] ["prime", "one", "other"] (defScope s_both) := ⟨rfl, rfl, rfl, by decide +kernel, rfl, by decide +kernel, by decide +kernel⟩
theorem sc_unlike : FnScope ["prime", "row", "rule", "shorter", "place", "miss", "rests"] ["prime", "row"] (defScope s_unlike) := ⟨rfl, rfl, rfl, by decide +kernel, rfl, by decide +kernel, by decide +kernel⟩
theorem sc_written : FnScope ["prime", "row", "number"] ["prime", "row"] (defScope s_written) := ⟨rfl, rfl, rfl, by decide +kernel, rfl, by decide +kernel, by decide +kernel⟩
theorem sc_check_going : FnScope ["prime", "rule", "row", "many"] ["prime", "rule", "row", "many"] (defScope s_check_going) := ⟨rfl, rfl, rfl, by decide +kernel, rfl, by decide +kernel, by decide +kernel⟩
theorem sc_far : FnScope ["prime", "rule", "row", "place", "first", "found", "square", "left", "k", "rest"] ["prime", "rule", "row", "place"] (defScope s_far) := ⟨rfl, rfl, rfl, by decide +kernel, rfl, by decide +kernel, by decide +kernel⟩
theorem sc_go_on : FnScope ["prime", "rule", "row", "many", "found", "turn"] ["prime", "rule", "row", "many"] (defScope s_go_on) := ⟨rfl, rfl, rfl, by decide +kernel, rfl, by decide +kernel, by decide +kernel⟩
theorem sc_backwards : FnScope ["prime", "rule", "back", "by", "rest"] ["prime", "rule"] (defScope s_backwards) := ⟨rfl, rfl, rfl, by decide +kernel, rfl, by decide +kernel, by decide +kernel⟩
theorem sc__law_more : FnScope ["_law_door", "_law_prime_here"] ["_law_door", "_law_prime_here"] (defScope s__law_more) := ⟨rfl, rfl, rfl, by decide +kernel, rfl, by decide +kernel, by decide +kernel⟩
theorem sc__law_with_prime : FnScope ["_law_door", "_law_prime_here"] ["_law_door", "_law_prime_here"] (defScope s__law_with_prime) := ⟨rfl, rfl, rfl, by decide +kernel, rfl, by decide +kernel, by decide +kernel⟩
theorem sc__law_with_rule : FnScope ["_law_door", "_law_rule"] ["_law_door", "_law_rule"] (defScope s__law_with_rule) := ⟨rfl, rfl, rfl, by decide +kernel, rfl, by decide +kernel, by decide +kernel⟩
theorem sc__law_with_row : FnScope ["_law_door", "_law_row_here"] ["_law_door", "_law_row_here"] (defScope s__law_with_row) := ⟨rfl, rfl, rfl, by decide +kernel, rfl, by decide +kernel, by decide +kernel⟩
theorem sc__law_with_few : FnScope ["_law_door", "_law_row_here"] ["_law_door", "_law_row_here"] (defScope s__law_with_few) := ⟨rfl, rfl, rfl, by decide +kernel, rfl, by decide +kernel, by decide +kernel⟩
theorem sc__law_with_place : FnScope ["_law_door", "_law_place"] ["_law_door", "_law_place"] (defScope s__law_with_place) := ⟨rfl, rfl, rfl, by decide +kernel, rfl, by decide +kernel, by decide +kernel⟩
theorem sc__law_kinds : FnScope ["_law_error", "_law_found"] ["_law_error"] (defScope s__law_kinds) := ⟨rfl, rfl, rfl, by decide +kernel, rfl, by decide +kernel, by decide +kernel⟩
theorem sc__law_told : FnScope ["_law_ask", "_law_one", "_law_other", "_law_error"] ["_law_ask", "_law_one", "_law_other"] (defScope s__law_told) := ⟨rfl, rfl, rfl, by decide +kernel, rfl, by decide +kernel, by decide +kernel⟩
theorem sc__law_all : FnScope ["_law_ask", "_law_doors", "_law_things", "_law_due_here", "_law_door", "_law_thing"] ["_law_ask", "_law_doors", "_law_things", "_law_due_here"] (defScope s__law_all) := ⟨rfl, rfl, rfl, by decide +kernel, rfl, by decide +kernel, by decide +kernel⟩
theorem sc_law : FnScope ["_law_script", "_law_far_one", "_law_due_here", "_law_k", "_law_primes", "_law_row_here", "_law_kept", "_law_many", "_law_bad", "_law_at", "_law_rule"] ["_law_script"] (defScope s_law) := ⟨rfl, rfl, rfl, by decide +kernel, rfl, by decide +kernel, by decide +kernel⟩
/-- what the top has written -/
structure Txt (K : PySem.W.Frag) (mg : Str → Option Value) where
  a_is_whole : Addr
  f_is_whole : FuncData
  F_is_whole : Fun K "is_whole" "is_whole" s_is_whole a_is_whole f_is_whole
  b_is_whole : Binds K f_is_whole ["thing"] []
  g_is_whole : mg "is_whole" = some (.ref a_is_whole)
  a_check_prime : Addr
  f_check_prime : FuncData
  F_check_prime : Fun K "check_prime" "check_prime" s_check_prime a_check_prime f_check_prime
  b_check_prime : Binds K f_check_prime ["prime"] []
  g_check_prime : mg "check_prime" = some (.ref a_check_prime)
  a_are_rests : Addr
  f_are_rests : FuncData
  F_are_rests : Fun K "are_rests" "are_rests" s_are_rests a_are_rests f_are_rests
  b_are_rests : Binds K f_are_rests ["prime", "thing"] []
  g_are_rests : mg "are_rests" = some (.ref a_are_rests)
  a_check_row : Addr
  f_check_row : FuncData
  F_check_row : Fun K "check_row" "check_row" s_check_row a_check_row f_check_row
  b_check_row : Binds K f_check_row ["prime", "row"] []
  g_check_row : mg "check_row" = some (.ref a_check_row)
  a_inverse : Addr
  f_inverse : FuncData
  F_inverse : Fun K "inverse" "inverse" s_inverse a_inverse f_inverse
  b_inverse : Binds K f_inverse ["prime", "rest"] []
  g_inverse : mg "inverse" = some (.ref a_inverse)
  a_check_rule : Addr
  f_check_rule : FuncData
  F_check_rule : Fun K "check_rule" "check_rule" s_check_rule a_check_rule f_check_rule
  b_check_rule : Binds K f_check_rule ["prime", "rule"] []
  g_check_rule : mg "check_rule" = some (.ref a_check_rule)
  a_due_at : Addr
  f_due_at : FuncData
  F_due_at : Fun K "due_at" "due_at" s_due_at a_due_at f_due_at
  b_due_at : Binds K f_due_at ["prime", "rule", "row", "place"] []
  g_due_at : mg "due_at" = some (.ref a_due_at)
  a_turned : Addr
  f_turned : FuncData
  F_turned : Fun K "turned" "turned" s_turned a_turned f_turned
  b_turned : Binds K f_turned ["prime", "rule"] []
  g_turned : mg "turned" = some (.ref a_turned)
  a_told_back : Addr
  f_told_back : FuncData
  F_told_back : Fun K "told_back" "told_back" s_told_back a_told_back f_told_back
  b_told_back : Binds K f_told_back ["prime", "rests"] []
  g_told_back : mg "told_back" = some (.ref a_told_back)
  a_least : Addr
  f_least : FuncData
  F_least : Fun K "least" "least" s_least a_least f_least
  b_least : Binds K f_least ["prime", "row"] []
  g_least : mg "least" = some (.ref a_least)
  a__law_cell_at : Addr
  f__law_cell_at : FuncData
  F__law_cell_at : Fun K "_law_cell_at" "_law_cell_at" s__law_cell_at a__law_cell_at f__law_cell_at
  b__law_cell_at : Binds K f__law_cell_at ["_law_script", "_law_k"] []
  g__law_cell_at : mg "_law_cell_at" = some (.ref a__law_cell_at)
  a__law_draw : Addr
  f__law_draw : FuncData
  F__law_draw : Fun K "_law_draw" "_law_draw" s__law_draw a__law_draw f__law_draw
  b__law_draw : Binds K f__law_draw ["_law_cell", "_law_k", "_law_many"] []
  g__law_draw : mg "_law_draw" = some (.ref a__law_draw)
  a__law_rests : Addr
  f__law_rests : FuncData
  F__law_rests : Fun K "_law_rests" "_law_rests" s__law_rests a__law_rests f__law_rests
  b__law_rests : Binds K f__law_rests ["_law_script", "_law_by", "_law_prime_here", "_law_many"] []
  g__law_rests : mg "_law_rests" = some (.ref a__law_rests)
  a__law_due : Addr
  f__law_due : FuncData
  F__law_due : Fun K "_law_due" "_law_due" s__law_due a__law_due f__law_due
  b__law_due : Binds K f__law_due ["_law_prime_here", "_law_rule", "_law_row_here", "_law_place"] []
  g__law_due : mg "_law_due" = some (.ref a__law_due)
  a__law_row : Addr
  f__law_row : FuncData
  F__law_row : Fun K "_law_row" "_law_row" s__law_row a__law_row f__law_row
  b__law_row : Binds K f__law_row ["_law_script", "_law_prime_here"] []
  g__law_row : mg "_law_row" = some (.ref a__law_row)
  a_makes : Addr
  f_makes : FuncData
  F_makes : Fun K "makes" "makes" s_makes a_makes f_makes
  b_makes : Binds K f_makes ["prime", "rule", "row"] []
  g_makes : mg "makes" = some (.ref a_makes)
  a_both : Addr
  f_both : FuncData
  F_both : Fun K "both" "both" s_both a_both f_both
  b_both : Binds K f_both ["prime", "one", "other"] []
  g_both : mg "both" = some (.ref a_both)
  a_unlike : Addr
  f_unlike : FuncData
  F_unlike : Fun K "unlike" "unlike" s_unlike a_unlike f_unlike
  b_unlike : Binds K f_unlike ["prime", "row"] []
  g_unlike : mg "unlike" = some (.ref a_unlike)
  a_written : Addr
  f_written : FuncData
  F_written : Fun K "written" "written" s_written a_written f_written
  b_written : Binds K f_written ["prime", "row"] []
  g_written : mg "written" = some (.ref a_written)
  a_check_going : Addr
  f_check_going : FuncData
  F_check_going : Fun K "check_going" "check_going" s_check_going a_check_going f_check_going
  b_check_going : Binds K f_check_going ["prime", "rule", "row", "many"] []
  g_check_going : mg "check_going" = some (.ref a_check_going)
  a_far : Addr
  f_far : FuncData
  F_far : Fun K "far" "far" s_far a_far f_far
  b_far : Binds K f_far ["prime", "rule", "row", "place"] []
  g_far : mg "far" = some (.ref a_far)
  a_go_on : Addr
  f_go_on : FuncData
  F_go_on : Fun K "go_on" "go_on" s_go_on a_go_on f_go_on
  b_go_on : Binds K f_go_on ["prime", "rule", "row", "many"] []
  g_go_on : mg "go_on" = some (.ref a_go_on)
  a_backwards : Addr
  f_backwards : FuncData
  F_backwards : Fun K "backwards" "backwards" s_backwards a_backwards f_backwards
  b_backwards : Binds K f_backwards ["prime", "rule"] []
  g_backwards : mg "backwards" = some (.ref a_backwards)
  a__law_more : Addr
  f__law_more : FuncData
  F__law_more : Fun K "_law_more" "_law_more" s__law_more a__law_more f__law_more
  b__law_more : Binds K f__law_more ["_law_door", "_law_prime_here"] []
  g__law_more : mg "_law_more" = some (.ref a__law_more)
  a__law_with_prime : Addr
  f__law_with_prime : FuncData
  F__law_with_prime : Fun K "_law_with_prime" "_law_with_prime" s__law_with_prime a__law_with_prime f__law_with_prime
  b__law_with_prime : Binds K f__law_with_prime ["_law_door", "_law_prime_here"] []
  g__law_with_prime : mg "_law_with_prime" = some (.ref a__law_with_prime)
  a__law_with_rule : Addr
  f__law_with_rule : FuncData
  F__law_with_rule : Fun K "_law_with_rule" "_law_with_rule" s__law_with_rule a__law_with_rule f__law_with_rule
  b__law_with_rule : Binds K f__law_with_rule ["_law_door", "_law_rule"] []
  g__law_with_rule : mg "_law_with_rule" = some (.ref a__law_with_rule)
  a__law_with_row : Addr
  f__law_with_row : FuncData
  F__law_with_row : Fun K "_law_with_row" "_law_with_row" s__law_with_row a__law_with_row f__law_with_row
  b__law_with_row : Binds K f__law_with_row ["_law_door", "_law_row_here"] []
  g__law_with_row : mg "_law_with_row" = some (.ref a__law_with_row)
  a__law_with_few : Addr
  f__law_with_few : FuncData
  F__law_with_few : Fun K "_law_with_few" "_law_with_few" s__law_with_few a__law_with_few f__law_with_few
  b__law_with_few : Binds K f__law_with_few ["_law_door", "_law_row_here"] []
  g__law_with_few : mg "_law_with_few" = some (.ref a__law_with_few)
  a__law_with_place : Addr
  f__law_with_place : FuncData
  F__law_with_place : Fun K "_law_with_place" "_law_with_place" s__law_with_place a__law_with_place f__law_with_place
  b__law_with_place : Binds K f__law_with_place ["_law_door", "_law_place"] []
  g__law_with_place : mg "_law_with_place" = some (.ref a__law_with_place)
  a__law_kinds : Addr
  f__law_kinds : FuncData
  F__law_kinds : Fun K "_law_kinds" "_law_kinds" s__law_kinds a__law_kinds f__law_kinds
  b__law_kinds : Binds K f__law_kinds ["_law_error"] []
  g__law_kinds : mg "_law_kinds" = some (.ref a__law_kinds)
  a__law_told : Addr
  f__law_told : FuncData
  F__law_told : Fun K "_law_told" "_law_told" s__law_told a__law_told f__law_told
  b__law_told : Binds K f__law_told ["_law_ask", "_law_one", "_law_other"] []
  g__law_told : mg "_law_told" = some (.ref a__law_told)
  a__law_all : Addr
  f__law_all : FuncData
  F__law_all : Fun K "_law_all" "_law_all" s__law_all a__law_all f__law_all
  b__law_all : Binds K f__law_all ["_law_ask", "_law_doors", "_law_things", "_law_due_here"] []
  g__law_all : mg "_law_all" = some (.ref a__law_all)
  a_law : Addr
  f_law : FuncData
  F_law : Fun K "law" "law" s_law a_law f_law
  b_law : Binds K f_law ["_law_script"] []
  g_law : mg "law" = some (.ref a_law)
  a_RuleError : Addr
  g_RuleError : mg "RuleError" = some (.ref a_RuleError)
  a_BadPrime : Addr
  g_BadPrime : mg "BadPrime" = some (.ref a_BadPrime)
  a_BadRow : Addr
  g_BadRow : mg "BadRow" = some (.ref a_BadRow)
  a_BadRule : Addr
  g_BadRule : mg "BadRule" = some (.ref a_BadRule)
  a_BadPlace : Addr
  g_BadPlace : mg "BadPlace" = some (.ref a_BadPlace)
  a_TooFew : Addr
  g_TooFew : mg "TooFew" = some (.ref a_TooFew)
  a_NoWay : Addr
  g_NoWay : mg "NoWay" = some (.ref a_NoWay)
  a_BadText : Addr
  g_BadText : mg "BadText" = some (.ref a_BadText)
  x_BadPrime : PySem.W.excIn K a_BadPrime [.type "ValueError", .type "Exception", .type "BaseException", .type "object"] "ValueError.__new__" = true
  kp_BadPrime : PySem.W.keepIn K (.ref a_BadPrime) = true
  s_BadPrime : PySem.W.subIn K (.ref a_BadPrime) (.type "BaseException") = some true
  t_BadPrime : PySem.W.typeIn K (.ref a_BadPrime) = some (.type "type")
  xc_BadPrime : ExcC K a_BadPrime
  isa_BadPrime_BadPrime : PySem.W.kitOne K (.ref a_BadPrime) (.ref a_BadPrime) = some true
  isa_BadPrime_BadRow : PySem.W.kitOne K (.ref a_BadPrime) (.ref a_BadRow) = some false
  isa_BadPrime_BadRule : PySem.W.kitOne K (.ref a_BadPrime) (.ref a_BadRule) = some false
  isa_BadPrime_BadPlace : PySem.W.kitOne K (.ref a_BadPrime) (.ref a_BadPlace) = some false
  isa_BadPrime_TooFew : PySem.W.kitOne K (.ref a_BadPrime) (.ref a_TooFew) = some false
  isa_BadPrime_NoWay : PySem.W.kitOne K (.ref a_BadPrime) (.ref a_NoWay) = some false
  isa_BadPrime_BadText : PySem.W.kitOne K (.ref a_BadPrime) (.ref a_BadText) = some false
  isa_BadPrime_ValueError : PySem.W.kitOne K (.ref a_BadPrime) (.type "ValueError") = some true
  exm_BadPrime_RuleError : PySem.W.exmOne K (.ref a_BadPrime) (.ref a_RuleError) = some true
  x_BadRow : PySem.W.excIn K a_BadRow [.type "ValueError", .type "Exception", .type "BaseException", .type "object"] "ValueError.__new__" = true
  kp_BadRow : PySem.W.keepIn K (.ref a_BadRow) = true
  s_BadRow : PySem.W.subIn K (.ref a_BadRow) (.type "BaseException") = some true
  t_BadRow : PySem.W.typeIn K (.ref a_BadRow) = some (.type "type")
  xc_BadRow : ExcC K a_BadRow
  isa_BadRow_BadPrime : PySem.W.kitOne K (.ref a_BadRow) (.ref a_BadPrime) = some false
  isa_BadRow_BadRow : PySem.W.kitOne K (.ref a_BadRow) (.ref a_BadRow) = some true
  isa_BadRow_BadRule : PySem.W.kitOne K (.ref a_BadRow) (.ref a_BadRule) = some false
  isa_BadRow_BadPlace : PySem.W.kitOne K (.ref a_BadRow) (.ref a_BadPlace) = some false
  isa_BadRow_TooFew : PySem.W.kitOne K (.ref a_BadRow) (.ref a_TooFew) = some false
  isa_BadRow_NoWay : PySem.W.kitOne K (.ref a_BadRow) (.ref a_NoWay) = some false
  isa_BadRow_BadText : PySem.W.kitOne K (.ref a_BadRow) (.ref a_BadText) = some false
  isa_BadRow_ValueError : PySem.W.kitOne K (.ref a_BadRow) (.type "ValueError") = some true
  exm_BadRow_RuleError : PySem.W.exmOne K (.ref a_BadRow) (.ref a_RuleError) = some true
  x_BadRule : PySem.W.excIn K a_BadRule [.type "ValueError", .type "Exception", .type "BaseException", .type "object"] "ValueError.__new__" = true
  kp_BadRule : PySem.W.keepIn K (.ref a_BadRule) = true
  s_BadRule : PySem.W.subIn K (.ref a_BadRule) (.type "BaseException") = some true
  t_BadRule : PySem.W.typeIn K (.ref a_BadRule) = some (.type "type")
  xc_BadRule : ExcC K a_BadRule
  isa_BadRule_BadPrime : PySem.W.kitOne K (.ref a_BadRule) (.ref a_BadPrime) = some false
  isa_BadRule_BadRow : PySem.W.kitOne K (.ref a_BadRule) (.ref a_BadRow) = some false
  isa_BadRule_BadRule : PySem.W.kitOne K (.ref a_BadRule) (.ref a_BadRule) = some true
  isa_BadRule_BadPlace : PySem.W.kitOne K (.ref a_BadRule) (.ref a_BadPlace) = some false
  isa_BadRule_TooFew : PySem.W.kitOne K (.ref a_BadRule) (.ref a_TooFew) = some false
  isa_BadRule_NoWay : PySem.W.kitOne K (.ref a_BadRule) (.ref a_NoWay) = some false
  isa_BadRule_BadText : PySem.W.kitOne K (.ref a_BadRule) (.ref a_BadText) = some false
  isa_BadRule_ValueError : PySem.W.kitOne K (.ref a_BadRule) (.type "ValueError") = some true
  exm_BadRule_RuleError : PySem.W.exmOne K (.ref a_BadRule) (.ref a_RuleError) = some true
  x_BadPlace : PySem.W.excIn K a_BadPlace [.type "ValueError", .type "Exception", .type "BaseException", .type "object"] "ValueError.__new__" = true
  kp_BadPlace : PySem.W.keepIn K (.ref a_BadPlace) = true
  s_BadPlace : PySem.W.subIn K (.ref a_BadPlace) (.type "BaseException") = some true
  t_BadPlace : PySem.W.typeIn K (.ref a_BadPlace) = some (.type "type")
  xc_BadPlace : ExcC K a_BadPlace
  isa_BadPlace_BadPrime : PySem.W.kitOne K (.ref a_BadPlace) (.ref a_BadPrime) = some false
  isa_BadPlace_BadRow : PySem.W.kitOne K (.ref a_BadPlace) (.ref a_BadRow) = some false
  isa_BadPlace_BadRule : PySem.W.kitOne K (.ref a_BadPlace) (.ref a_BadRule) = some false
  isa_BadPlace_BadPlace : PySem.W.kitOne K (.ref a_BadPlace) (.ref a_BadPlace) = some true
  isa_BadPlace_TooFew : PySem.W.kitOne K (.ref a_BadPlace) (.ref a_TooFew) = some false
  isa_BadPlace_NoWay : PySem.W.kitOne K (.ref a_BadPlace) (.ref a_NoWay) = some false
  isa_BadPlace_BadText : PySem.W.kitOne K (.ref a_BadPlace) (.ref a_BadText) = some false
  isa_BadPlace_ValueError : PySem.W.kitOne K (.ref a_BadPlace) (.type "ValueError") = some true
  exm_BadPlace_RuleError : PySem.W.exmOne K (.ref a_BadPlace) (.ref a_RuleError) = some true
  x_TooFew : PySem.W.excIn K a_TooFew [.type "ValueError", .type "Exception", .type "BaseException", .type "object"] "ValueError.__new__" = true
  kp_TooFew : PySem.W.keepIn K (.ref a_TooFew) = true
  s_TooFew : PySem.W.subIn K (.ref a_TooFew) (.type "BaseException") = some true
  t_TooFew : PySem.W.typeIn K (.ref a_TooFew) = some (.type "type")
  xc_TooFew : ExcC K a_TooFew
  isa_TooFew_BadPrime : PySem.W.kitOne K (.ref a_TooFew) (.ref a_BadPrime) = some false
  isa_TooFew_BadRow : PySem.W.kitOne K (.ref a_TooFew) (.ref a_BadRow) = some false
  isa_TooFew_BadRule : PySem.W.kitOne K (.ref a_TooFew) (.ref a_BadRule) = some false
  isa_TooFew_BadPlace : PySem.W.kitOne K (.ref a_TooFew) (.ref a_BadPlace) = some false
  isa_TooFew_TooFew : PySem.W.kitOne K (.ref a_TooFew) (.ref a_TooFew) = some true
  isa_TooFew_NoWay : PySem.W.kitOne K (.ref a_TooFew) (.ref a_NoWay) = some false
  isa_TooFew_BadText : PySem.W.kitOne K (.ref a_TooFew) (.ref a_BadText) = some false
  isa_TooFew_ValueError : PySem.W.kitOne K (.ref a_TooFew) (.type "ValueError") = some true
  exm_TooFew_RuleError : PySem.W.exmOne K (.ref a_TooFew) (.ref a_RuleError) = some true
  x_NoWay : PySem.W.excIn K a_NoWay [.type "ValueError", .type "Exception", .type "BaseException", .type "object"] "ValueError.__new__" = true
  kp_NoWay : PySem.W.keepIn K (.ref a_NoWay) = true
  s_NoWay : PySem.W.subIn K (.ref a_NoWay) (.type "BaseException") = some true
  t_NoWay : PySem.W.typeIn K (.ref a_NoWay) = some (.type "type")
  xc_NoWay : ExcC K a_NoWay
  isa_NoWay_BadPrime : PySem.W.kitOne K (.ref a_NoWay) (.ref a_BadPrime) = some false
  isa_NoWay_BadRow : PySem.W.kitOne K (.ref a_NoWay) (.ref a_BadRow) = some false
  isa_NoWay_BadRule : PySem.W.kitOne K (.ref a_NoWay) (.ref a_BadRule) = some false
  isa_NoWay_BadPlace : PySem.W.kitOne K (.ref a_NoWay) (.ref a_BadPlace) = some false
  isa_NoWay_TooFew : PySem.W.kitOne K (.ref a_NoWay) (.ref a_TooFew) = some false
  isa_NoWay_NoWay : PySem.W.kitOne K (.ref a_NoWay) (.ref a_NoWay) = some true
  isa_NoWay_BadText : PySem.W.kitOne K (.ref a_NoWay) (.ref a_BadText) = some false
  isa_NoWay_ValueError : PySem.W.kitOne K (.ref a_NoWay) (.type "ValueError") = some true
  exm_NoWay_RuleError : PySem.W.exmOne K (.ref a_NoWay) (.ref a_RuleError) = some true
  x_BadText : PySem.W.excIn K a_BadText [.type "ValueError", .type "Exception", .type "BaseException", .type "object"] "ValueError.__new__" = true
  kp_BadText : PySem.W.keepIn K (.ref a_BadText) = true
  s_BadText : PySem.W.subIn K (.ref a_BadText) (.type "BaseException") = some true
  t_BadText : PySem.W.typeIn K (.ref a_BadText) = some (.type "type")
  xc_BadText : ExcC K a_BadText
  isa_BadText_BadPrime : PySem.W.kitOne K (.ref a_BadText) (.ref a_BadPrime) = some false
  isa_BadText_BadRow : PySem.W.kitOne K (.ref a_BadText) (.ref a_BadRow) = some false
  isa_BadText_BadRule : PySem.W.kitOne K (.ref a_BadText) (.ref a_BadRule) = some false
  isa_BadText_BadPlace : PySem.W.kitOne K (.ref a_BadText) (.ref a_BadPlace) = some false
  isa_BadText_TooFew : PySem.W.kitOne K (.ref a_BadText) (.ref a_TooFew) = some false
  isa_BadText_NoWay : PySem.W.kitOne K (.ref a_BadText) (.ref a_NoWay) = some false
  isa_BadText_BadText : PySem.W.kitOne K (.ref a_BadText) (.ref a_BadText) = some true
  isa_BadText_ValueError : PySem.W.kitOne K (.ref a_BadText) (.type "ValueError") = some true
  exm_BadText_RuleError : PySem.W.exmOne K (.ref a_BadText) (.ref a_RuleError) = some true
  n_len : mg "len" = none
  n_sum : mg "sum" = none
  n_all : mg "all" = none
  n_any : mg "any" = none
  n_list : mg "list" = none
  n_max : mg "max" = none
  n_isinstance : mg "isinstance" = none
  n_range : mg "range" = none
  n_enumerate : mg "enumerate" = none
  n_int : mg "int" = none
  n_bool : mg "bool" = none
  n_abs : mg "abs" = none
  n_reversed : mg "reversed" = none
  n_str : mg "str" = none
  n_tuple : mg "tuple" = none
  n_ValueError : mg "ValueError" = none
  t_GREATEST : Tok
  c_GREATEST : mg "GREATEST" = some (.int 997 t_GREATEST)
section
variable {P : Program} {w : World} {K : PySem.W.Frag} {mg : Str → Option Value} {base : Heap}
/-! is_whole -/
def sp_is_whole (K : PySem.W.Frag) : Sp := fun vs H Q _ => ∃ x, vs = [x] ∧ Thing K H x ∧ RetV (.bl (whole x)) H Q
theorem ev_is_whole {K : PySem.W.Frag} {σ : L2.St} {H : Hp} {E : XK} {ta : TA} {x : V} (h : EvA ta σ H [x]) (hx : Thing K H x) : Ev (tCall (sp_is_whole K) [] E ta) σ H (.bl (whole x)) := fun H1 e Q q =>
  h H1 e _ fun H2 e2 => ⟨x, rfl, hx.up (e.trans e2), fun H3 e3 => q H3 (e2.trans e3)⟩
theorem ok_is_whole (T : Txt K mg) : FnOk P w K mg base CX0 1 T.a_is_whole T.f_is_whole ["thing"] (sp_is_whole K) := by
  refine T.F_is_whole.ok sc_is_whole (fun vs H Q E h => ?_) (fun cdv A outer s H vs Q E hr h => ?_)
  · obtain ⟨x, rfl, _⟩ := h
    rfl
  · obtain ⟨x, rfl, hx, q⟩ := h
    rw [show start ["thing"] [x] = [some x] from rfl]
    refine ⟨_, (pss_one (ps_ret (pe_and (x_isi K rfl T.n_isinstance (by rfl) (pa_cons (pv 0) (pa_cons (x_ty "int" T.n_int (by rfl) (by decide +kernel)) pa_nil))) (pe_one (pe_not (x_isi K rfl T.n_isinstance (by rfl) (pa_cons (pv 0) (pa_cons (x_ty "bool" T.n_bool (by rfl) (by decide +kernel)) pa_nil)))))))), ?_⟩
    refine s_ret (v := .bl (whole x)) ?_ q
    rw [whole_is hx]
    exact ev_andV (ev_tInt hx (ev_var rfl)) fun _ => ev_notV (ev_tBool hx (ev_var rfl))
/-! check_prime -/
def sp_check_prime (K : PySem.W.Frag) (C : Addr) : Sp := fun vs H Q E => ∃ x, vs = [x] ∧ Thing K H x ∧ (primeOk x = true → RetV .non H Q) ∧ (primeOk x = false → ∀ H', Ex H H' → E (.ref C) none H')
theorem q_checkPrime {K : PySem.W.Frag} {C : Addr} {σ : L2.St} {H : Hp} {E : XK} {ta : TA} {x : V} {tz : TS} {D : Ends} (h : EvA ta σ H [x]) (hx : Thing K H x) (h1 : primeOk x = true → ∀ H1, Ex H H1 → tz D σ H1) (h2 : primeOk x = false → ∀ H', Ex H H' → E (.ref C) none H') :
    tSeq (tDrop (tCall (sp_check_prime K C) [] E ta)) tz D σ H := h H (Ex.refl H) _ fun H1 e1 => ⟨x, rfl, hx.up e1, fun b H2 e2 => h1 b H2 (e1.trans e2), fun b H2 e2 => h2 b H2 (e1.trans e2)⟩
theorem ok_check_prime (T : Txt K mg) : FnOk P w K mg base (L2N.CX P w) 2 T.a_check_prime T.f_check_prime ["prime"] (sp_check_prime K T.a_BadPrime) := by
  refine T.F_check_prime.okN sc_check_prime (fun vs H Q E h => ?_) (fun cdv A outer s H vs Q E hr h => ?_)
  · obtain ⟨x, rfl, _⟩ := h
    rfl
  · obtain ⟨x, rfl, hx, q1, q2⟩ := h
    rw [show start ["prime", "at"] [x] = [some x, none] from rfl]
    refine ⟨_, (pss_one (ps_if (PW.pt (pw_or (pt_not (pt_val (pe_call (ok_is_whole T) (hr.mono (by decide)) (by rfl) T.g_is_whole T.F_is_whole.kp T.b_is_whole .nil pass0 (pa_cons (pv 0) pa_nil)))) (pw_or (pt_not (pt_chain op_le op_le pe_int (pv 0) (pe_glob (v := .int 997) (by rfl) T.c_GREATEST ⟨_, rfl⟩))) (pw_or1 (pt_val (x_any K rfl rfl T.n_any (by rfl) (pa_cons (pe_lc (own := [("at", 1)]) (g := (gName 1)) rfl sc_check_prime.nd (pi_range2 (by rfl) T.n_range (pa_cons pe_int (pa_cons pe_int pa_nil))) (blkOk_by (N := ["prime", "at"]) (sc := defScope s_check_prime) (by decide +kernel)) (fun _ _ _ _ _ => (pg_name (i := 1) sc_check_prime.nd rfl (Or.inl rfl))) (fun _ _ _ _ _ => (pts_one (pt_cmpR op_lt (pv 1) (pv 0) (nomark _)))) (fun _ _ _ _ _ => (pe_cmpR op_eq (pe_op op_mod (pv 0) (pv 1)) pe_int (nomark _)))) pa_nil))))))) (pss_one (L2N.ps_raise rfl (L2N.takes_of rfl rfl rfl rfl) (L2N.pmk_own PySem.F.excBase_ValueError T.x_BadPrime T.g_BadPrime T.kp_BadPrime (raises_own T.s_BadPrime T.t_BadPrime) (by rfl)))) pss_nil)), ?_⟩
    refine s_when (b := !primeOk x) ?_ (fun c H1 e1 => q2 (by simpa using c) H1 e1) (fun c H1 e1 => q1 (by simpa using c) H1 e1)
    cases hw : whole x with
    | false =>
      have e0 : primeOk x = false := by cases x <;> first | rfl | cases hw
      rw [e0]
      refine et_is (et_or (b := false) (et_not (et_B (ev_is_whole (ea_cons (ev_var rfl) ea_nil) hx))) fun z => ?_) ?_
      · rw [hw] at z
        cases z
      · rw [hw]
        rfl
    | true =>
      obtain ⟨p, rfl⟩ : ∃ p, x = .int p := by cases x <;> first | exact ⟨_, rfl⟩ | cases hw
      apply et_is
      · apply et_or
        · exact et_not (et_B (ev_is_whole (ea_cons (ev_var rfl) ea_nil) hx))
        · intro _
          apply et_or
          · walk_at "ev"
          · intro hb
            simp only [Bool.not_eq_false', Bool.and_eq_true, decide_eq_true_eq] at hb
            walk_at "ev"
            apply el_lcRbt (lo := 2) (hi := 32) (fun i => decide ((2 : Int) + i < p)) (fun i => decide (p % ((2 : Int) + i) = 0)) (by walk_at "ev") (by omega) (by omega) (fun _ => rfl)
            · intro i H1 e hi
              walk_at "ev"
            · intro i H1 e hi hf
              walk_at "ev"
      · show (!true || (!(decide ((2 : Int) ≤ p) && decide (p ≤ 997)) || _)) = !(decide (2 ≤ p) && decide (p ≤ 997) && !_)
        rw [List.any_map, List.any_filter]
        simp only [Bool.not_true, Bool.false_or, Bool.not_and, Bool.not_not]
        rfl
/-! are_rests -/
def sp_are_rests (K : PySem.W.Frag) : Sp := fun vs H Q _ => ∃ (p : Int) (x : V) (b : Bool), vs = [.int p, x] ∧ RestsAre K H p x b ∧ RetV (.bl b) H Q
theorem ev_are_rests {K : PySem.W.Frag} {σ : L2.St} {H : Hp} {E : XK} {ta : TA} {p : Int} {x : V} {b : Bool} (h : EvA ta σ H [.int p, x]) (hx : RestsAre K H p x b) : Ev (tCall (sp_are_rests K) [] E ta) σ H (.bl b) := fun H1 e Q q =>
  h H1 e _ fun H2 e2 => ⟨p, x, b, rfl, hx.up (e.trans e2), fun H3 e3 => q H3 (e2.trans e3)⟩
theorem ok_are_rests (T : Txt K mg) : FnOk P w K mg base CX0 2 T.a_are_rests T.f_are_rests ["prime", "thing"] (sp_are_rests K) := by
  refine T.F_are_rests.ok sc_are_rests (fun vs H Q E h => ?_) (fun cdv A outer s H vs Q E hr h => ?_)
  · obtain ⟨p, x, b, rfl, _⟩ := h
    rfl
  · obtain ⟨p, x, b, rfl, hx, q⟩ := h
    rw [show start ["prime", "thing", "one"] [.int p, x] = [some (.int p), some x, none] from rfl]
    refine ⟨_, (pss_one (ps_ret (pe_and (x_isi K rfl T.n_isinstance (by rfl) (pa_cons (pv 1) (pa_cons (x_ty "list" T.n_list (by rfl) (by decide +kernel)) pa_nil))) (pe_one (x_all K rfl rfl T.n_all (by rfl) (pa_cons (pe_lc (own := [("one", 2)]) (g := (gName 2)) (tt := tYes) rfl sc_are_rests.nd (xi_list K rfl (pv 1)) (blkOk_by (N := ["prime", "thing", "one"]) (sc := defScope s_are_rests) (by decide +kernel)) (fun _ _ _ _ _ => (pg_name (i := 2) sc_are_rests.nd rfl (Or.inl rfl))) (fun _ _ _ _ _ => pts_nil) (fun _ _ _ _ _ => (pe_and (pe_call (ok_is_whole T) (hr.mono (by decide)) (by rfl) T.g_is_whole T.F_is_whole.kp T.b_is_whole .nil pass0 (pa_cons (pv 2) pa_nil)) (pe_one (pe_chain op_le op_lt pe_int (pv 2) (pv 0)))))) pa_nil)))))), ?_⟩
    refine s_ret (v := .bl b) ?_ q
    rcases hx with ⟨hn, rfl⟩ | ⟨a, xs, rfl, ha, hl, ht, rfl⟩
    · exact ev_is (ev_andV (b := false) (ev_tNoL hn (ev_var rfl)) fun z => by cases z) rfl
    refine ev_is (ev_andV (a := true) (isi_any (ev_var rfl) (fun _ e => tyx_sql (ex_l e ha)) (kit_ty (by decide +kernel))) fun _ => ev_allR (bs := xs.map (okRest p)) (er_of_l (el_is (el_lcV (fun y => .bl (okRest p y)) (er_var rfl ha) (by omega) (fun _ => rfl) ?_) ?_))) ?_
    · intro y H1 e hy
      have hty := (ht y hy).up e
      cases hw : whole y with
      | false =>
        rw [okRest_not hw]
        refine ev_is (ev_andV (b := false) (ev_is_whole (ea_cons (ev_var rfl) ea_nil) hty) fun z => ?_) ?_
        · rw [hw] at z
          cases z
        · rw [hw]
          rfl
      | true =>
        obtain ⟨i, rfl⟩ : ∃ i, y = .int i := by cases y <;> first | exact ⟨_, rfl⟩ | cases hw
        apply ev_is
        · apply ev_andV (a := true)
          · exact ev_is_whole (ea_cons (ev_var rfl) ea_nil) hty
          · intro _
            walk_at "ev"
        · rfl
    · unfold bls
      rw [List.map_map]
      rfl
    · rw [List.all_map]
      rfl
/-! check_row -/
def sp_check_row (K : PySem.W.Frag) (C : Addr) : Sp := fun vs H Q E => ∃ (p : Int) (x : V) (b : Bool), vs = [.int p, x] ∧ RestsAre K H p x b ∧ (b = true → RetV .non H Q) ∧ (b = false → ∀ H', Ex H H' → E (.ref C) none H')
theorem q_check_row {K : PySem.W.Frag} {C : Addr} {σ : L2.St} {H : Hp} {E : XK} {ta : TA} {p : Int} {x : V} {b : Bool} {tz : TS} {D : Ends} (h : EvA ta σ H [.int p, x]) (hx : RestsAre K H p x b) (h1 : b = true → ∀ H1, Ex H H1 → tz D σ H1) (h2 : b = false → ∀ H', Ex H H' → E (.ref C) none H') :
    tSeq (tDrop (tCall (sp_check_row K C) [] E ta)) tz D σ H := h H (Ex.refl H) _ fun H1 e1 => ⟨p, x, b, rfl, hx.up e1, fun z H2 e2 => h1 z H2 (e1.trans e2), fun z H2 e2 => h2 z H2 (e1.trans e2)⟩
theorem ok_check_row (T : Txt K mg) : FnOk P w K mg base (L2N.CX P w) 3 T.a_check_row T.f_check_row ["prime", "row"] (sp_check_row K T.a_BadRow) := by
  refine T.F_check_row.okN sc_check_row (fun vs H Q E h => ?_) (fun cdv A outer s H vs Q E hr h => ?_)
  · obtain ⟨p, x, b, rfl, _⟩ := h
    rfl
  · obtain ⟨p, x, b, rfl, hx, q1, q2⟩ := h
    rw [show start ["prime", "row"] [.int p, x] = [some (.int p), some x] from rfl]
    refine ⟨_, (pss_one (ps_if (pt_not (pt_val (pe_call (ok_are_rests T) (hr.mono (by decide)) (by rfl) T.g_are_rests T.F_are_rests.kp T.b_are_rests .nil pass0 (pa_cons (pv 0) (pa_cons (pv 1) pa_nil))))) (pss_one (L2N.ps_raise rfl (L2N.takes_of rfl rfl rfl rfl) (L2N.pmk_own PySem.F.excBase_ValueError T.x_BadRow T.g_BadRow T.kp_BadRow (raises_own T.s_BadRow T.t_BadRow) (by rfl)))) pss_nil)), ?_⟩
    refine s_when (b := !b) ?_ (fun c H1 e1 => q2 (by simpa using c) H1 e1) (fun c H1 e1 => q1 (by simpa using c) H1 e1)
    exact et_not (et_B (ev_are_rests (ea_cons (ev_var rfl) (ea_cons (ev_var rfl) ea_nil)) hx))
/-! inverse -/
def sp_inverse (K : PySem.W.Frag) : Sp := fun vs H Q _ => ∃ (p r : Int), AgsOk K H [.v (.int p), .v (.int r)] vs ∧ (Good p ∧ 1 ≤ r ∧ r < p) ∧ RetV (.int (RR.inverse p r)) H Q
theorem ev_inverse {K : PySem.W.Frag} {σ : L2.St} {H : Hp} {E : XK} {ta : TA} {p r : Int} (h : EvAs K ta σ H [.v (.int p), .v (.int r)]) (hp : Good p ∧ 1 ≤ r ∧ r < p) : Ev (tCall (sp_inverse K) [] E ta) σ H (.int (RR.inverse p r)) := fun H1 e Q q =>
  h H1 e _ fun vs H2 e2 ok => ⟨p, r, by rw [List.append_nil]; exact ok, hp, fun H3 e3 => q H3 (e2.trans e3)⟩
local macro_rules | `(tactic| walk_at "own") => `(tactic| ((with_reducible apply ev_inverse) <;> walk_at "ev"))
theorem ok_inverse (T : Txt K mg) : FnOk P w K mg base CX0 1 T.a_inverse T.f_inverse ["prime", "rest"] (sp_inverse K) := by
  refine T.F_inverse.ok sc_inverse (fun vs H Q E h => ?_) (fun cdv A outer s H vs Q E hr h => ?_)
  · obtain ⟨p, r, h, _⟩ := h
    exact h.len
  · obtain ⟨p, r, ⟨_, _, rfl, rfl, _, _, rfl, rfl, rfl⟩, hp, q⟩ := h
    rw [show start ["prime", "rest", "here", "there", "times"] [(.int p), (.int r)] = [some (.int p), some (.int r), none, none, none] from rfl]
    refine ⟨_, (pss_cons (ps_par (i := 2) (j := 3) (by rfl) sc_inverse.nd rfl rfl (by decide) rfl rfl (pa_cons (pe_tup (pa_cons (pv 0) (pa_cons pe_int pa_nil))) (pa_cons (pe_tup (pa_cons (pv 1) (pa_cons pe_int pa_nil))) pa_nil)) (by rfl))
      (pss_cons (ps_while PassesOwn.never (pt_cmpR op_ne (x_ixT K rfl (pv 3) pe_int (fun _ _ => rfl)) pe_int (nomark _)) (pss_cons (ps_set (i := 4) sc_inverse.nd rfl (.inl rfl) (pe_op op_fdiv (x_ixT K rfl (pv 2) pe_int (fun _ _ => rfl)) (x_ixT K rfl (pv 3) pe_int (fun _ _ => rfl))))
      (pss_one (ps_par (i := 2) (j := 3) (by rfl) sc_inverse.nd rfl rfl (by decide) rfl rfl (pa_cons (pv 3) (pa_cons (pe_tup (pa_cons (pe_op op_sub (x_ixT K rfl (pv 2) pe_int (fun _ _ => rfl)) (pe_op op_mul (pv 4) (x_ixT K rfl (pv 3) pe_int (fun _ _ => rfl)))) (pa_cons (pe_op op_sub (x_ixT K rfl (pv 2) pe_int (fun _ _ => rfl)) (pe_op op_mul (pv 4) (x_ixT K rfl (pv 3) pe_int (fun _ _ => rfl)))) pa_nil))) pa_nil)) (by rfl)))))
      (pss_one (ps_ret (pe_op op_mod (x_ixT K rfl (pv 3) pe_int (fun _ _ => rfl)) (pv 0)))))), ?_⟩
    have g1 := hp.1.two
    have g2 := hp.1.most
    have hpp := hp.1.pos
    refine q_parUU (xs := [.int p, .int 0]) (ys := [.int r, .int 1]) (by walk_at "ev") (by walk_at "ev") fun pa pb H1 e1 hpa hpb => ?_
    refine q_while (fun m σ' H' => ∃ (a b c d : Int) (pa pb : Addr) (t : Option V), σ' = [some (.int p), some (.int r), some (.ref pa), some (.ref pb), t] ∧ Ex H H' ∧ H' pa = some (.tup [.int a, .int b]) ∧ H' pb = some (.tup [.int c, .int d]) ∧ InvI p r a b c d ∧ c ≤ m ∧ invF m a b c d = invF p.toNat p 0 r 1)
      p.toNat ⟨p, 0, r, 1, pa, pb, none, rfl, e1, hpa, hpb, invI_start hp.1 hp.2.1 hp.2.2, by omega, rfl⟩ ?_
    rintro m σ' H' ⟨a, b, c, d, pa, pb, t, rfl, e2, ha, hb, inv, hcm, hF⟩
    refine ⟨!decide (c = 1), ?_, fun hc H2 e3 => ?_, fun hc H2 e3 => ?_⟩
    · walk_at "ev"
    · have hc1 : c ≠ 1 := by simpa using hc
      obtain ⟨m, rfl⟩ : ∃ k, m = k + 1 := ⟨m - 1, by have := inv.pos; omega⟩
      have nx := inv.next hc1
      have i1 := inv.pos
      have i2 := inv.le
      have i3 := inv.most
      have t1 : 0 ≤ a / c := Int.ediv_nonneg (by omega) (by omega)
      have t2 : a / c ≤ a := Int.ediv_le_self _ (by omega)
      have ha3 := e3 _ _ ha
      have hb3 := e3 _ _ hb
      refine ⟨fun σ2 H4 => ∃ (a b c d : Int) (pa pb : Addr) (t : Option V), σ2 = [some (.int p), some (.int r), some (.ref pa), some (.ref pb), t] ∧ Ex H H4 ∧ H4 pa = some (.tup [.int a, .int b]) ∧ H4 pb = some (.tup [.int c, .int d]) ∧ InvI p r a b c d ∧ c ≤ m ∧ invF m a b c d = invF p.toNat p 0 r 1, fun σ2 H4 h4 => ⟨m, Nat.lt_succ_self m, h4⟩, ?_⟩
      refine q_asg (i := 4) (v := .int (a / c)) (by walk_at "ev") fun H4 e4 => ?_
      have ha4 := e4 _ _ ha3
      have hb4 := e4 _ _ hb3
      refine s_parVU (x := .ref pb) (ys := [.int (a - a / c * c), .int (b - a / c * d)]) (by walk_at "ev") (by walk_at "ev") fun pn H5 e5 h5 => ?_
      refine ⟨c, d, a - a / c * c, b - a / c * d, pb, pn, some (.int (a / c)), rfl, ((e2.trans e3).trans e4).trans e5, e5 _ _ hb4, h5, nx.1, by have := nx.2; omega, ?_⟩
      rw [← hF]
      show _ = if c = 1 then d else _
      rw [if_neg hc1]
    · have hc1 : c = 1 := by simpa using hc
      have hb3 := e3 _ _ hb
      have eF : d = invF p.toNat p 0 r 1 := by
        rw [← hF]
        cases m with
        | zero => rfl
        | succ m =>
          show _ = if c = 1 then d else _
          rw [if_pos hc1]
      refine s_ret (v := .int (RR.inverse p r)) ?_ fun H5 e5 => q H5 ((e2.trans e3).trans e5)
      apply ev_is
      walk_at "ev"
      rw [eF]
      rfl
/-! check_rule -/
def sp_check_rule (K : PySem.W.Frag) (C : Addr) : Sp := fun vs H Q E => ∃ (p : Int) (x : V) (b : Bool), vs = [.int p, x] ∧ RestsAre K H p x b ∧ (b = true → RetV .non H Q) ∧ (b = false → ∀ H', Ex H H' → E (.ref C) none H')
theorem q_check_rule {K : PySem.W.Frag} {C : Addr} {σ : L2.St} {H : Hp} {E : XK} {ta : TA} {p : Int} {x : V} {b : Bool} {tz : TS} {D : Ends} (h : EvA ta σ H [.int p, x]) (hx : RestsAre K H p x b) (h1 : b = true → ∀ H1, Ex H H1 → tz D σ H1) (h2 : b = false → ∀ H', Ex H H' → E (.ref C) none H') :
    tSeq (tDrop (tCall (sp_check_rule K C) [] E ta)) tz D σ H := h H (Ex.refl H) _ fun H1 e1 => ⟨p, x, b, rfl, hx.up e1, fun z H2 e2 => h1 z H2 (e1.trans e2), fun z H2 e2 => h2 z H2 (e1.trans e2)⟩
theorem ok_check_rule (T : Txt K mg) : FnOk P w K mg base (L2N.CX P w) 3 T.a_check_rule T.f_check_rule ["prime", "rule"] (sp_check_rule K T.a_BadRule) := by
  refine T.F_check_rule.okN sc_check_rule (fun vs H Q E h => ?_) (fun cdv A outer s H vs Q E hr h => ?_)
  · obtain ⟨p, x, b, rfl, _⟩ := h
    rfl
  · obtain ⟨p, x, b, rfl, hx, q1, q2⟩ := h
    rw [show start ["prime", "rule"] [.int p, x] = [some (.int p), some x] from rfl]
    refine ⟨_, (pss_one (ps_if (pt_not (pt_val (pe_call (ok_are_rests T) (hr.mono (by decide)) (by rfl) T.g_are_rests T.F_are_rests.kp T.b_are_rests .nil pass0 (pa_cons (pv 0) (pa_cons (pv 1) pa_nil))))) (pss_one (L2N.ps_raise rfl (L2N.takes_of rfl rfl rfl rfl) (L2N.pmk_own PySem.F.excBase_ValueError T.x_BadRule T.g_BadRule T.kp_BadRule (raises_own T.s_BadRule T.t_BadRule) (by rfl)))) pss_nil)), ?_⟩
    refine s_when (b := !b) ?_ (fun c H1 e1 => q2 (by simpa using c) H1 e1) (fun c H1 e1 => q1 (by simpa using c) H1 e1)
    exact et_not (et_B (ev_are_rests (ea_cons (ev_var rfl) (ea_cons (ev_var rfl) ea_nil)) hx))
/-! due_at -/
def sp_due_at (K : PySem.W.Frag) : Sp := fun vs H Q _ => ∃ (p : Int) (rule row : List Int) (n : Int), AgsOk K H [.v (.int p), .l (il rule), .l (il row), .v (.int n)] vs ∧ (Good p ∧ Rs p rule ∧ rule.length ≤ n ∧ n ≤ row.length ∧ row.length ≤ 2000) ∧ RetV (.int (due p rule row n.toNat)) H Q
theorem ev_due_at {K : PySem.W.Frag} {σ : L2.St} {H : Hp} {E : XK} {ta : TA} {p : Int} {rule row : List Int} {n : Int} (h : EvAs K ta σ H [.v (.int p), .l (il rule), .l (il row), .v (.int n)]) (hp : Good p ∧ Rs p rule ∧ rule.length ≤ n ∧ n ≤ row.length ∧ row.length ≤ 2000) : Ev (tCall (sp_due_at K) [] E ta) σ H (.int (due p rule row n.toNat)) := fun H1 e Q q =>
  h H1 e _ fun vs H2 e2 ok => ⟨p, rule, row, n, by rw [List.append_nil]; exact ok, hp, fun H3 e3 => q H3 (e2.trans e3)⟩
local macro_rules | `(tactic| walk_at "own") => `(tactic| ((with_reducible apply ev_due_at) <;> walk_at "ev"))
theorem ok_due_at (T : Txt K mg) : FnOk P w K mg base CX0 1 T.a_due_at T.f_due_at ["prime", "rule", "row", "place"] (sp_due_at K) := by
  refine T.F_due_at.ok sc_due_at (fun vs H Q E h => ?_) (fun cdv A outer s H vs Q E hr h => ?_)
  · obtain ⟨p, rule, row, n, h, _⟩ := h
    exact h.len
  · obtain ⟨p, rule, row, n, ⟨_, _, rfl, rfl, _, _, rfl, ⟨a_rule, rfl, h_rule⟩, _, _, rfl, ⟨a_row, rfl, h_row⟩, _, _, rfl, rfl, rfl⟩, hp, q⟩ := h
    rw [show start ["prime", "rule", "row", "place", "k", "rest"] [(.int p), (.ref a_rule), (.ref a_row), (.int n)] = [some (.int p), some (.ref a_rule), some (.ref a_row), some (.int n), none, none] from rfl]
    refine ⟨_, (pss_one (ps_ret (pe_op op_mod (x_sum K rfl rfl T.n_sum (by rfl) (pa_cons (pe_lc (own := [("k", 4), ("rest", 5)]) (g := (gTup K 2 (gCons (gName 4) (gCons (gName 5) gNil)))) (tt := tYes) rfl sc_due_at.nd (xi_enum K rfl T.n_enumerate (by rfl) (pa_cons (pv 1) pa_nil)) (blkOk_by (N := ["prime", "rule", "row", "place", "k", "rest"]) (sc := defScope s_due_at) (by decide +kernel)) (fun _ _ _ _ _ => (xg_tup K rfl 2 rfl (pgs_cons (pg_name (i := 4) sc_due_at.nd rfl (Or.inl rfl)) (pgs_cons (pg_name (i := 5) sc_due_at.nd rfl (Or.inl rfl)) pgs_nil)))) (fun _ _ _ _ _ => pts_nil) (fun _ _ _ _ _ => (pe_op op_mul (pv 5) (x_ixL K rfl (pv 2) (pe_op op_sub (pe_op op_sub (pv 3) pe_int) (pv 4)) (fun _ _ => rfl))))) pa_nil)) (pv 0)))), ?_⟩
    obtain ⟨hp, hr2, h1, h2, h3⟩ := hp
    have g1 := hp.two
    have g2 := hp.most
    refine s_ret (v := .int (due p rule row n.toNat)) ?_ q
    apply ev_is
    walk_at "ev"
    · apply el_lcEi (fun i => g rule i * g row (n.toNat - 1 - i)) (by walk_at "ev") (by omega) (fun _ _ => rfl)
      intro i H1 e hi
      have h_row := ex_l e h_row
      have b1 := hr2.g hp.pos i
      apply ev_is
      walk_at "ev"
      rw [show (n - 1 - (i : Int)).toNat = n.toNat - 1 - i by omega]
    · rw [S_range]
      rfl
/-! turned -/
def sp_turned (K : PySem.W.Frag) : Sp := fun vs H Q _ => ∃ (p : Int) (rule : List Int), AgsOk K H [.v (.int p), .l (il rule)] vs ∧ (Good p ∧ rule.length ≤ 2000) ∧ RetL (il (RR.turned p rule)) H Q
theorem el_turned {K : PySem.W.Frag} {σ : L2.St} {H : Hp} {E : XK} {ta : TA} {p : Int} {rule : List Int} (h : EvAs K ta σ H [.v (.int p), .l (il rule)]) (hp : Good p ∧ rule.length ≤ 2000) : EvL (tCall (sp_turned K) [] E ta) σ H (il (RR.turned p rule)) := fun H1 e Q q =>
  h H1 e _ fun vs H2 e2 ok => ⟨p, rule, by rw [List.append_nil]; exact ok, hp, fun p H3 hn e3 h3 => q p H3 (fresh_back e2 hn) (e2.trans e3) h3⟩
local macro_rules | `(tactic| walk_at "own") => `(tactic| ((with_reducible apply el_turned) <;> walk_at "ev"))
theorem ok_turned (T : Txt K mg) : FnOk P w K mg base CX0 1 T.a_turned T.f_turned ["prime", "rule"] (sp_turned K) := by
  refine T.F_turned.ok sc_turned (fun vs H Q E h => ?_) (fun cdv A outer s H vs Q E hr h => ?_)
  · obtain ⟨p, rule, h, _⟩ := h
    exact h.len
  · obtain ⟨p, rule, ⟨_, _, rfl, rfl, _, _, rfl, ⟨a_rule, rfl, h_rule⟩, rfl⟩, hp, q⟩ := h
    rw [show start ["prime", "rule", "rest"] [(.int p), (.ref a_rule)] = [some (.int p), some (.ref a_rule), none] from rfl]
    refine ⟨_, (pss_one (ps_ret (pe_op op_cat (pe_lst (pa_cons pe_int pa_nil)) (pe_lc (own := [("rest", 2)]) (g := (gName 2)) (tt := tYes) rfl sc_turned.nd (xi_list K rfl (pv 1)) (blkOk_by (N := ["prime", "rule", "rest"]) (sc := defScope s_turned) (by decide +kernel)) (fun _ _ _ _ _ => (pg_name (i := 2) sc_turned.nd rfl (Or.inl rfl))) (fun _ _ _ _ _ => pts_nil) (fun _ _ _ _ _ => (pe_op op_mod (pe_un un_neg (pv 2)) (pv 0))))))), ?_⟩
    obtain ⟨hp, h1⟩ := hp
    have g1 := hp.two
    refine s_retL (xs := il (RR.turned p rule)) ?_ q
    apply el_is
    walk_at "ev"
    · apply el_lcIi (fun r => (-r) % p) (by walk_at "ev") (by omega) (fun _ => rfl)
      intro x H1 e hx
      walk_at "ev"
    · simp
      omega
    · rfl
/-! told_back -/
def sp_told_back (K : PySem.W.Frag) : Sp := fun vs H Q _ => ∃ (p : Int) (rests : List Int), AgsOk K H [.v (.int p), .l (il rests)] vs ∧ (Good p ∧ rests.length ≤ 2000) ∧ RetL (il (toldBack p rests)) H Q
theorem el_told_back {K : PySem.W.Frag} {σ : L2.St} {H : Hp} {E : XK} {ta : TA} {p : Int} {rests : List Int} (h : EvAs K ta σ H [.v (.int p), .l (il rests)]) (hp : Good p ∧ rests.length ≤ 2000) : EvL (tCall (sp_told_back K) [] E ta) σ H (il (toldBack p rests)) := fun H1 e Q q =>
  h H1 e _ fun vs H2 e2 ok => ⟨p, rests, by rw [List.append_nil]; exact ok, hp, fun p H3 hn e3 h3 => q p H3 (fresh_back e2 hn) (e2.trans e3) h3⟩
local macro_rules | `(tactic| walk_at "own") => `(tactic| ((with_reducible apply el_told_back) <;> walk_at "ev"))
theorem ok_told_back (T : Txt K mg) : FnOk P w K mg base CX0 1 T.a_told_back T.f_told_back ["prime", "rests"] (sp_told_back K) := by
  refine T.F_told_back.ok sc_told_back (fun vs H Q E h => ?_) (fun cdv A outer s H vs Q E hr h => ?_)
  · obtain ⟨p, rests, h, _⟩ := h
    exact h.len
  · obtain ⟨p, rests, ⟨_, _, rfl, rfl, _, _, rfl, ⟨a_rests, rfl, h_rests⟩, rfl⟩, hp, q⟩ := h
    rw [show start ["prime", "rests", "rest"] [(.int p), (.ref a_rests)] = [some (.int p), some (.ref a_rests), none] from rfl]
    refine ⟨_, (pss_one (ps_ret (pe_lc (own := [("rest", 2)]) (g := (gName 2)) (tt := tYes) rfl sc_told_back.nd (xi_list K rfl (x_sl K rfl (pv 1) (po_some pe_int) po_none)) (blkOk_by (N := ["prime", "rests", "rest"]) (sc := defScope s_told_back) (by decide +kernel)) (fun _ _ _ _ _ => (pg_name (i := 2) sc_told_back.nd rfl (Or.inl rfl))) (fun _ _ _ _ _ => pts_nil) (fun _ _ _ _ _ => (pe_op op_mod (pe_un un_neg (pv 2)) (pv 0)))))), ?_⟩
    obtain ⟨hp, h1⟩ := hp
    have g1 := hp.two
    refine s_retL (xs := il (toldBack p rests)) ?_ q
    apply el_lcIi (fun r => (-r) % p) (ns := rests.drop 1) ?_ (by simp; omega) (fun _ => rfl)
    · intro x H1 e hx
      walk_at "ev"
    · apply er_is
      walk_at "ev"
      rfl
/-! least -/
def sp_least (K : PySem.W.Frag) (cP cW : Addr) : Sp := fun vs H Q E => ∃ (P W : V) (C : Addr), vs = [P, W] ∧ Ref2 K H cP cW P W C ∧ ∀ H', Ex H H' → E (.ref C) none H'
theorem nv_least {K : PySem.W.Frag} {cP cW C : Addr} {σ : L2.St} {H : Hp} {E : XK} {ta : TA} {P W : V} (h : EvA ta σ H [P, W]) (hx : Ref2 K H cP cW P W C) (h2 : ∀ H', Ex H H' → E (.ref C) none H') : Nv (tCall (sp_least K cP cW) [] E ta) σ H :=
  nv_call h fun H1 e Q => ⟨P, W, C, rfl, hx.up e, fun H2 e2 => h2 H2 (e.trans e2)⟩

theorem nvp_least {K : PySem.W.Frag} {cP cW C : Addr} {σ : L2.St} {H : Hp} {E : XK} {ta : TA} {φs : List Wd} (h : EvPs ta σ H φs) (k : ∀ vs H1, Ex H H1 → AllW H1 φs vs → ∃ P W, vs = [P, W] ∧ Ref2 K H1 cP cW P W C) (h2 : ∀ H', Ex H H' → E (.ref C) none H') : Nv (tCall (sp_least K cP cW) [] E ta) σ H :=
  nv_callP h fun vs H1 e hw Q => by
    obtain ⟨P, W, rfl, hr⟩ := k vs H1 e hw
    exact ⟨P, W, C, rfl, hr, fun H2 e2 => h2 H2 (e.trans e2)⟩
theorem ok_least (T : Txt K mg) : FnOk P w K mg base (L2N.CX P w) 4 T.a_least T.f_least ["prime", "row"] (sp_least K T.a_BadPrime T.a_BadRow) := by
  refine T.F_least.okN sc_least (fun vs H Q E h => ?_) (fun cdv A outer s H vs Q E hr h => ?_)
  · obtain ⟨P, W, C, rfl, _⟩ := h
    rfl
  · obtain ⟨P, W, C, rfl, hx, qx⟩ := h
    rw [show start ["prime", "row", "rule", "shorter", "place", "miss"] [P, W] = [some P, some W, none, none, none, none] from rfl]
    refine ⟨_, (pss_cons (ps_expr (pe_call (ok_check_prime T) (hr.mono (by decide)) (by rfl) T.g_check_prime T.F_check_prime.kp T.b_check_prime .nil (L2N.passes_call (L2N.takes_of rfl rfl rfl rfl) (fun _ _ _ _ h => h)) (pa_cons (pv 0) pa_nil)))
      (pss_cons (ps_expr (pe_call (ok_check_row T) (hr.mono (by decide)) (by rfl) T.g_check_row T.F_check_row.kp T.b_check_row .nil (L2N.passes_call (L2N.takes_of rfl rfl rfl rfl) (fun _ _ _ _ h => h)) (pa_cons (pv 0) (pa_cons (pv 1) pa_nil))))
      pss_never)), ?_⟩
    cases hx with
    | prime h hb => exact q_checkPrime (ea_cons (ev_var rfl) ea_nil) h (fun z => by rw [hb] at z; cases z) (fun _ => qx)
    | row hp h2 =>
      refine q_checkPrime (ea_cons (ev_var rfl) ea_nil) (.no (.int _)) (fun _ H1 e1 => ?_) (fun z => by rw [hp] at z; cases z)
      exact q_check_row (ea_cons (ev_var rfl) (ea_cons (ev_var rfl) ea_nil)) (h2.up e1) (fun z => by cases z) (fun _ H' e' => qx H' (e1.trans e'))
/-! _law_cell_at -/
def sp__law_cell_at (K : PySem.W.Frag) : Sp := fun vs H Q _ => ∃ (ns : List Int) (k : Int), AgsOk K H [.l (il ns), .v (.int k)] vs ∧ (0 ≤ k) ∧ RetV (.int (g ns k.toNat)) H Q
theorem ev__law_cell_at {K : PySem.W.Frag} {σ : L2.St} {H : Hp} {E : XK} {ta : TA} {ns : List Int} {k : Int} (h : EvAs K ta σ H [.l (il ns), .v (.int k)]) (hp : 0 ≤ k) : Ev (tCall (sp__law_cell_at K) [] E ta) σ H (.int (g ns k.toNat)) := fun H1 e Q q =>
  h H1 e _ fun vs H2 e2 ok => ⟨ns, k, by rw [List.append_nil]; exact ok, hp, fun H3 e3 => q H3 (e2.trans e3)⟩
local macro_rules | `(tactic| walk_at "own") => `(tactic| ((with_reducible apply ev__law_cell_at) <;> walk_at "ev"))
theorem ok__law_cell_at (T : Txt K mg) : FnOk P w K mg base CX0 1 T.a__law_cell_at T.f__law_cell_at ["_law_script", "_law_k"] (sp__law_cell_at K) := by
  refine T.F__law_cell_at.ok sc__law_cell_at (fun vs H Q E h => ?_) (fun cdv A outer s H vs Q E hr h => ?_)
  · obtain ⟨ns, k, h, _⟩ := h
    exact h.len
  · obtain ⟨ns, k, ⟨_, _, rfl, ⟨a__law_script, rfl, h__law_script⟩, _, _, rfl, rfl, rfl⟩, hp, q⟩ := h
    rw [show start ["_law_script", "_law_k"] [(.ref a__law_script), (.int k)] = [some (.ref a__law_script), some (.int k)] from rfl]
    refine ⟨_, (pss_cons (ps_if (pt_cmpR op_lt (pv 1) (x_len K rfl T.n_len (by rfl) (pa_cons (pv 0) pa_nil)) (nomark _)) (pss_one (ps_ret (x_ixL K rfl (pv 0) (pv 1) (fun _ _ => rfl)))) pss_nil)
      (pss_one (ps_ret pe_int))), ?_⟩
    refine q_when (b := decide (k < (ns.length : Int))) (by walk_at "ev") (fun c H1 e1 => ?_) (fun c H1 e1 => ?_)
    · have c1 := of_decide_eq_true c
      have h1 := ex_l e1 h__law_script
      exact s_ret (v := .int (g ns k.toNat)) (by walk_at "ev") fun H2 e2 => q H2 (e1.trans e2)
    · have c1 := of_decide_eq_false c
      refine s_ret (v := .int (g ns k.toNat)) ?_ fun H2 e2 => q H2 (e1.trans e2)
      apply ev_is
      walk_at "ev"
      rw [g_out (by omega)]
/-! _law_draw -/
def sp__law_draw (K : PySem.W.Frag) : Sp := fun vs H Q _ => ∃ (c k m : Int), AgsOk K H [.v (.int c), .v (.int k), .v (.int m)] vs ∧ (0 < m) ∧ RetV (.int (draw c k m)) H Q
theorem ev__law_draw {K : PySem.W.Frag} {σ : L2.St} {H : Hp} {E : XK} {ta : TA} {c k m : Int} (h : EvAs K ta σ H [.v (.int c), .v (.int k), .v (.int m)]) (hp : 0 < m) : Ev (tCall (sp__law_draw K) [] E ta) σ H (.int (draw c k m)) := fun H1 e Q q =>
  h H1 e _ fun vs H2 e2 ok => ⟨c, k, m, by rw [List.append_nil]; exact ok, hp, fun H3 e3 => q H3 (e2.trans e3)⟩
local macro_rules | `(tactic| walk_at "own") => `(tactic| ((with_reducible apply ev__law_draw) <;> walk_at "ev"))
theorem ok__law_draw (T : Txt K mg) : FnOk P w K mg base CX0 1 T.a__law_draw T.f__law_draw ["_law_cell", "_law_k", "_law_many"] (sp__law_draw K) := by
  refine T.F__law_draw.ok sc__law_draw (fun vs H Q E h => ?_) (fun cdv A outer s H vs Q E hr h => ?_)
  · obtain ⟨c, k, m, h, _⟩ := h
    exact h.len
  · obtain ⟨c, k, m, ⟨_, _, rfl, rfl, _, _, rfl, rfl, _, _, rfl, rfl, rfl⟩, hp, q⟩ := h
    rw [show start ["_law_cell", "_law_k", "_law_many", "_law_primes"] [(.int c), (.int k), (.int m)] = [some (.int c), some (.int k), some (.int m), none] from rfl]
    refine ⟨_, (pss_cons (ps_set (i := 3) sc__law_draw.nd rfl (.inl rfl) (pe_tup (pa_cons pe_int (pa_cons pe_int (pa_cons pe_int (pa_cons pe_int (pa_cons pe_int (pa_cons pe_int (pa_cons pe_int (pa_cons pe_int (pa_cons pe_int (pa_cons pe_int (pa_cons pe_int (pa_cons pe_int (pa_cons pe_int (pa_cons pe_int (pa_cons pe_int (pa_cons pe_int pa_nil))))))))))))))))))
      (pss_one (ps_ret (pe_op op_mod (pe_op op_mod (pe_op op_add (pe_op op_mul (pv 0) pe_int) (pe_op op_mul (pv 1) pe_int)) (x_ixT K rfl (pv 3) (pe_op op_mod (pv 1) pe_int) (fun _ _ => rfl))) (pv 2))))), ?_⟩
    refine q_asgU (i := 3) (xs := il PR) ?_ fun t H1 nt e1 ht => ?_
    · apply eu_is
      walk_at "ev"
      rfl
    have hk1 : 0 ≤ k % 16 := Int.emod_nonneg _ (by decide)
    have hk2 : k % 16 < 16 := Int.emod_lt_of_pos _ (by decide)
    have hk3 : (PR.length : Int) = 16 := rfl
    have hk4 := PR_pos k
    refine s_ret (v := .int (draw c k m)) ?_ fun H2 e2 => q H2 (e1.trans e2)
    apply ev_is
    walk_at "ev"
    rfl
/-! _law_rests -/
def sp__law_rests (K : PySem.W.Frag) : Sp := fun vs H Q _ => ∃ (ns : List Int) (b p m : Int), AgsOk K H [.l (il ns), .v (.int b), .v (.int p), .v (.int m)] vs ∧ (0 < p ∧ 0 ≤ m ∧ m ≤ 1000) ∧ RetL (il (lawRests ns b p m)) H Q
theorem el__law_rests {K : PySem.W.Frag} {σ : L2.St} {H : Hp} {E : XK} {ta : TA} {ns : List Int} {b p m : Int} (h : EvAs K ta σ H [.l (il ns), .v (.int b), .v (.int p), .v (.int m)]) (hp : 0 < p ∧ 0 ≤ m ∧ m ≤ 1000) : EvL (tCall (sp__law_rests K) [] E ta) σ H (il (lawRests ns b p m)) := fun H1 e Q q =>
  h H1 e _ fun vs H2 e2 ok => ⟨ns, b, p, m, by rw [List.append_nil]; exact ok, hp, fun p H3 hn e3 h3 => q p H3 (fresh_back e2 hn) (e2.trans e3) h3⟩
local macro_rules | `(tactic| walk_at "own") => `(tactic| ((with_reducible apply el__law_rests) <;> walk_at "ev"))
theorem ok__law_rests (T : Txt K mg) : FnOk P w K mg base CX0 2 T.a__law_rests T.f__law_rests ["_law_script", "_law_by", "_law_prime_here", "_law_many"] (sp__law_rests K) := by
  refine T.F__law_rests.ok sc__law_rests (fun vs H Q E h => ?_) (fun cdv A outer s H vs Q E hr h => ?_)
  · obtain ⟨ns, b, p, m, h, _⟩ := h
    exact h.len
  · obtain ⟨ns, b, p, m, ⟨_, _, rfl, ⟨a__law_script, rfl, h__law_script⟩, _, _, rfl, rfl, _, _, rfl, rfl, _, _, rfl, rfl, rfl⟩, hp, q⟩ := h
    rw [show start ["_law_script", "_law_by", "_law_prime_here", "_law_many", "_law_k"] [(.ref a__law_script), (.int b), (.int p), (.int m)] = [some (.ref a__law_script), some (.int b), some (.int p), some (.int m), none] from rfl]
    refine ⟨_, (pss_one (ps_ret (pe_lc (own := [("_law_k", 4)]) (g := (gName 4)) (tt := tYes) rfl sc__law_rests.nd (pi_range1 (by rfl) T.n_range (pa_cons (pv 3) pa_nil)) (blkOk_by (N := ["_law_script", "_law_by", "_law_prime_here", "_law_many", "_law_k"]) (sc := defScope s__law_rests) (by decide +kernel)) (fun _ _ _ _ _ => (pg_name (i := 4) sc__law_rests.nd rfl (Or.inl rfl))) (fun _ _ _ _ _ => pts_nil) (fun _ _ _ _ _ => (pe_call (ok__law_draw T) (hr.mono (by decide)) (by rfl) T.g__law_draw T.F__law_draw.kp T.b__law_draw .nil pass0 (pa_cons (pe_call (ok__law_cell_at T) (hr.mono (by decide)) (by rfl) T.g__law_cell_at T.F__law_cell_at.kp T.b__law_cell_at .nil pass0 (pa_cons (pv 0) (pa_cons (pv 4) pa_nil))) (pa_cons (pe_op op_add (pe_op op_mod (pv 4) pe_int) (pv 1)) (pa_cons (pv 2) pa_nil)))))))), ?_⟩
    refine s_retL (xs := il (lawRests ns b p m)) ?_ q
    apply el_lcNi (n := m) (fun k => draw (g ns k) ((k : Int) % 5 + b) p) (by walk_at "ev") (by omega) (fun _ => rfl)
    intro i H1 e hi
    have h__law_script := ex_l e h__law_script
    apply ev_is
    walk_at "ev"
    all_goals first | omega | rfl
/-! _law_due -/
def sp__law_due (K : PySem.W.Frag) : Sp := fun vs H Q _ => ∃ (p : Int) (rule row : List Int) (n : Int), AgsOk K H [.v (.int p), .l (il rule), .l (il row), .v (.int n)] vs ∧ (Good p ∧ Rs p rule ∧ rule.length ≤ n ∧ n ≤ row.length ∧ row.length ≤ 2000) ∧ RetV (.int (due p rule row n.toNat)) H Q
theorem ev__law_due {K : PySem.W.Frag} {σ : L2.St} {H : Hp} {E : XK} {ta : TA} {p : Int} {rule row : List Int} {n : Int} (h : EvAs K ta σ H [.v (.int p), .l (il rule), .l (il row), .v (.int n)]) (hp : Good p ∧ Rs p rule ∧ rule.length ≤ n ∧ n ≤ row.length ∧ row.length ≤ 2000) : Ev (tCall (sp__law_due K) [] E ta) σ H (.int (due p rule row n.toNat)) := fun H1 e Q q =>
  h H1 e _ fun vs H2 e2 ok => ⟨p, rule, row, n, by rw [List.append_nil]; exact ok, hp, fun H3 e3 => q H3 (e2.trans e3)⟩
local macro_rules | `(tactic| walk_at "own") => `(tactic| ((with_reducible apply ev__law_due) <;> walk_at "ev"))
theorem ok__law_due (T : Txt K mg) : FnOk P w K mg base CX0 1 T.a__law_due T.f__law_due ["_law_prime_here", "_law_rule", "_law_row_here", "_law_place"] (sp__law_due K) := by
  refine T.F__law_due.ok sc__law_due (fun vs H Q E h => ?_) (fun cdv A outer s H vs Q E hr h => ?_)
  · obtain ⟨p, rule, row, n, h, _⟩ := h
    exact h.len
  · obtain ⟨p, rule, row, n, ⟨_, _, rfl, rfl, _, _, rfl, ⟨a__law_rule, rfl, h__law_rule⟩, _, _, rfl, ⟨a__law_row_here, rfl, h__law_row_here⟩, _, _, rfl, rfl, rfl⟩, hp, q⟩ := h
    rw [show start ["_law_prime_here", "_law_rule", "_law_row_here", "_law_place", "_law_k", "_law_rest"] [(.int p), (.ref a__law_rule), (.ref a__law_row_here), (.int n)] = [some (.int p), some (.ref a__law_rule), some (.ref a__law_row_here), some (.int n), none, none] from rfl]
    refine ⟨_, (pss_one (ps_ret (pe_op op_mod (x_sum K rfl rfl T.n_sum (by rfl) (pa_cons (pe_lc (own := [("_law_k", 4), ("_law_rest", 5)]) (g := (gTup K 2 (gCons (gName 4) (gCons (gName 5) gNil)))) (tt := tYes) rfl sc__law_due.nd (xi_enum K rfl T.n_enumerate (by rfl) (pa_cons (pv 1) pa_nil)) (blkOk_by (N := ["_law_prime_here", "_law_rule", "_law_row_here", "_law_place", "_law_k", "_law_rest"]) (sc := defScope s__law_due) (by decide +kernel)) (fun _ _ _ _ _ => (xg_tup K rfl 2 rfl (pgs_cons (pg_name (i := 4) sc__law_due.nd rfl (Or.inl rfl)) (pgs_cons (pg_name (i := 5) sc__law_due.nd rfl (Or.inl rfl)) pgs_nil)))) (fun _ _ _ _ _ => pts_nil) (fun _ _ _ _ _ => (pe_op op_mul (pv 5) (x_ixL K rfl (pv 2) (pe_op op_sub (pe_op op_sub (pv 3) pe_int) (pv 4)) (fun _ _ => rfl))))) pa_nil)) (pv 0)))), ?_⟩
    obtain ⟨hp, hr2, h1, h2, h3⟩ := hp
    have g1 := hp.two
    have g2 := hp.most
    refine s_ret (v := .int (due p rule row n.toNat)) ?_ q
    apply ev_is
    walk_at "ev"
    · apply el_lcEi (fun i => g rule i * g row (n.toNat - 1 - i)) (by walk_at "ev") (by omega) (fun _ _ => rfl)
      intro i H1 e hi
      have h_row := ex_l e h__law_row_here
      have b1 := hr2.g hp.pos i
      apply ev_is
      walk_at "ev"
      rw [show (n - 1 - (i : Int)).toNat = n.toNat - 1 - i by omega]
    · rw [S_range]
      rfl
/-! _law_row -/
def sp__law_row (K : PySem.W.Frag) : Sp := fun vs H Q _ => ∃ (ns : List Int) (p : Int), AgsOk K H [.l (il ns), .v (.int p)] vs ∧ (Good p ∧ ns.length ≤ 63) ∧ RetL (il (lawRow ns p)) H Q
theorem el__law_row {K : PySem.W.Frag} {σ : L2.St} {H : Hp} {E : XK} {ta : TA} {ns : List Int} {p : Int} (h : EvAs K ta σ H [.l (il ns), .v (.int p)]) (hp : Good p ∧ ns.length ≤ 63) : EvL (tCall (sp__law_row K) [] E ta) σ H (il (lawRow ns p)) := fun H1 e Q q =>
  h H1 e _ fun vs H2 e2 ok => ⟨ns, p, by rw [List.append_nil]; exact ok, hp, fun p H3 hn e3 h3 => q p H3 (fresh_back e2 hn) (e2.trans e3) h3⟩
local macro_rules | `(tactic| walk_at "own") => `(tactic| ((with_reducible apply el__law_row) <;> walk_at "ev"))
theorem ok__law_row (T : Txt K mg) : FnOk P w K mg base CX0 3 T.a__law_row T.f__law_row ["_law_script", "_law_prime_here"] (sp__law_row K) := by
  refine T.F__law_row.ok sc__law_row (fun vs H Q E h => ?_) (fun cdv A outer s H vs Q E hr h => ?_)
  · obtain ⟨ns, p, h, _⟩ := h
    exact h.len
  · obtain ⟨ns, p, ⟨_, _, rfl, ⟨a__law_script, rfl, h__law_script⟩, _, _, rfl, rfl, rfl⟩, hp, q⟩ := h
    rw [show start ["_law_script", "_law_prime_here", "_law_kind", "_law_many", "_law_drawn", "_law_rule", "_law_place", "_law_k", "_law_number"] [(.ref a__law_script), (.int p)] = [some (.ref a__law_script), some (.int p), none, none, none, none, none, none, none] from rfl]
    refine ⟨_, (pss_cons (ps_par (i := 2) (j := 3) (by rfl) sc__law_row.nd rfl rfl (by decide) rfl rfl (pa_cons (pe_call (ok__law_draw T) (hr.mono (by decide)) (by rfl) T.g__law_draw T.F__law_draw.kp T.b__law_draw .nil pass0 (pa_cons (pe_call (ok__law_cell_at T) (hr.mono (by decide)) (by rfl) T.g__law_cell_at T.F__law_cell_at.kp T.b__law_cell_at .nil pass0 (pa_cons (pv 0) (pa_cons pe_int pa_nil))) (pa_cons pe_int (pa_cons pe_int pa_nil)))) (pa_cons (x_len K rfl T.n_len (by rfl) (pa_cons (pv 0) pa_nil)) pa_nil)) (by rfl))
      (pss_cons (ps_set (i := 4) sc__law_row.nd rfl (.inl rfl) (pe_call (ok__law_rests T) (hr.mono (by decide)) (by rfl) T.g__law_rests T.F__law_rests.kp T.b__law_rests .nil pass0 (pa_cons (pv 0) (pa_cons pe_int (pa_cons (pv 1) (pa_cons (pv 3) pa_nil))))))
      (pss_cons (ps_if (pt_cmpR op_eq (pv 2) pe_int (nomark _)) (pss_one (ps_ret (pe_lc (own := [("_law_k", 7), ("_law_number", 8)]) (g := (gTup K 2 (gCons (gName 7) (gCons (gName 8) gNil)))) (tt := tYes) rfl sc__law_row.nd (xi_enum K rfl T.n_enumerate (by rfl) (pa_cons (pv 4) pa_nil)) (blkOk_by (N := ["_law_script", "_law_prime_here", "_law_kind", "_law_many", "_law_drawn", "_law_rule", "_law_place", "_law_k", "_law_number"]) (sc := defScope s__law_row) (by decide +kernel)) (fun _ _ _ _ _ => (xg_tup K rfl 2 rfl (pgs_cons (pg_name (i := 7) sc__law_row.nd rfl (Or.inl rfl)) (pgs_cons (pg_name (i := 8) sc__law_row.nd rfl (Or.inl rfl)) pgs_nil)))) (fun _ _ _ _ _ => pts_nil) (fun _ _ _ _ _ => (pe_ifExp (pt_cmpR op_eq (pe_call (ok__law_draw T) (hr.mono (by decide)) (by rfl) T.g__law_draw T.F__law_draw.kp T.b__law_draw .nil pass0 (pa_cons (x_ixL K rfl (pv 0) (pv 7) (fun _ _ => rfl)) (pa_cons pe_int (pa_cons pe_int pa_nil)))) pe_int (nomark _)) (pv 8) pe_int))))) pss_nil)
      (pss_cons (ps_if (pt_cmpR op_lt (pv 2) pe_int (nomark _)) (pss_cons (ps_set (i := 5) sc__law_row.nd rfl (.inl rfl) (pe_call (ok__law_rests T) (hr.mono (by decide)) (by rfl) T.g__law_rests T.F__law_rests.kp T.b__law_rests .nil pass0 (pa_cons (x_sl K rfl (pv 0) (po_some pe_int) po_none) (pa_cons pe_int (pa_cons (pv 1) (pa_cons (pe_op op_add pe_int (pe_call (ok__law_draw T) (hr.mono (by decide)) (by rfl) T.g__law_draw T.F__law_draw.kp T.b__law_draw .nil pass0 (pa_cons (pe_call (ok__law_cell_at T) (hr.mono (by decide)) (by rfl) T.g__law_cell_at T.F__law_cell_at.kp T.b__law_cell_at .nil pass0 (pa_cons (pv 0) (pa_cons pe_int pa_nil))) (pa_cons pe_int (pa_cons pe_int pa_nil))))) pa_nil))))))
      (pss_one (ps_for PassesOwn.never rfl (pi_range2 (by rfl) T.n_range (pa_cons (x_len K rfl T.n_len (by rfl) (pa_cons (pv 5) pa_nil)) (pa_cons (pe_op op_sub (pv 3) (x_ixT K rfl (pe_tup (pa_cons pe_int (pa_cons pe_int (pa_cons pe_int (pa_cons pe_int pa_nil))))) (pv 2) (fun _ _ => rfl))) pa_nil))) (pg_name (i := 6) sc__law_row.nd rfl (.inl rfl)) (pss_one (ps_asg (pe_call (ok__law_due T) (hr.mono (by decide)) (by rfl) T.g__law_due T.F__law_due.kp T.b__law_due .nil pass0 (pa_cons (pv 1) (pa_cons (pv 5) (pa_cons (pv 4) (pa_cons (pv 6) pa_nil))))) (pg_sub (pv 4) (pv 6) set_list)))))) pss_nil)
      (pss_one (ps_ret (pv 4))))))), ?_⟩
    obtain ⟨hp, hlen⟩ := hp
    have g1 := hp.two
    have g2 := hp.most
    have hkd := draw_in (c := g ns 1) (k := 7) (m := 5) (by decide)
    have hrd := draw_in (c := g ns (Int.toNat 2)) (k := 8) (m := 6) (by decide)
    refine q_parVV (x := .int (lawKind ns)) (y := .int (ns.length : Int)) ?_ (by walk_at "ev") fun H1 e1 => ?_
    · apply ev_is
      walk_at "ev"
      rfl
    have h1 := ex_l e1 h__law_script
    refine q_asgL (i := 4) (xs := il (lawRests ns 1 p ns.length)) ?_ fun dr H2 ndr e2 hdr => ?_
    · walk_at "ev"
    have h2 := ex_l e2 h1
    have ndr0 := fresh_back e1 ndr
    have drl := lawRests_len ns 1 p ns.length
    refine q_when (b := decide (lawKind ns = 0)) (by walk_at "ev") (fun c H3 e3 => ?_) (fun c H3 e3 => ?_)
    · have hdr3 := e3 _ _ hdr
      have h3 := ex_l e3 h2
      refine s_retL (xs := il (lawRow ns p)) ?_ fun z H4 nz e4 hz => q z H4 (fresh_back ((e1.trans e2).trans e3) nz) (((e1.trans e2).trans e3).trans e4) hz
      apply el_is
      apply el_lcEi (ns := lawRests ns 1 p ns.length) (fun k => if decide (draw (g ns k) 9 5 = 0) = true then g (lawRests ns 1 p ns.length) k else 0) (by walk_at "ev") (by omega) (fun _ _ => rfl)
      · intro i H4 e hi
        have h4 := ex_l e h3
        rw [drl] at hi
        apply ev_is
        walk_at "ev"
        rfl
      · unfold lawRow
        rw [if_pos c, drl]
        rfl
    refine q_when (b := decide (lawKind ns < 4)) ?_ (fun d H4 e4 => ?_) (fun d H4 e4 => ?_)
    · walk_at "ev"
    · have c0 : lawKind ns ≠ 0 := of_decide_eq_false c
      have d0 : lawKind ns < 4 := of_decide_eq_true d
      have hdr4 := e4 _ _ (e3 _ _ hdr)
      have h4 := ex_l e4 (ex_l e3 h2)
      have hrl : (lawRule ns p).length = (1 + draw (g ns (Int.toNat 2)) 8 6).toNat := lawRests_len ..
      have hrr : Rs p (lawRule ns p) := lawRests_rs hp.pos
      have hdd : Rs p (lawRests ns 1 p ns.length) := lawRests_rs hp.pos
      refine q_asgL (i := 5) (xs := il (lawRule ns p)) ?_ fun ru H5 nru e5 hru => ?_
      · apply el_is
        walk_at "ev"
        all_goals first | exact ⟨hp.pos, by omega, by omega⟩ | rfl
      have hdr5 := e5 _ _ hdr4
      have h5 := ex_l e5 h4
      have E5 := (((e1.trans e2).trans e3).trans e4).trans e5
      have nru0 : H ru = none := fresh_back (((e1.trans e2).trans e3).trans e4) nru
      have ndru : ru ≠ dr := (ne_of_none hdr4 nru).symm
      have off : 0 ≤ g OFF (lawKind ns).toNat ∧ g OFF (lawKind ns).toNat ≤ 2 := by
        have : ∀ i : Nat, i < 4 → 0 ≤ g OFF i ∧ g OFF i ≤ 2 := by decide
        have hk : lawKind ns = draw (g ns 1) 7 5 := rfl
        exact this _ (by omega)
      have kge : 0 ≤ lawKind ns := hkd.1
      refine q_forR2 (j := 6) (lo := ((lawRule ns p).length : Int)) (n := (ns.length : Int) - g OFF (lawKind ns).toNat) ?_ ⟨by omega, by omega, by omega, by omega⟩
        (fun i σ' H' => ∃ x6, σ' = [some (.ref a__law_script), some (.int p), some (.int (lawKind ns)), some (.int (ns.length : Int)), some (.ref dr), some (.ref ru), x6, none, none] ∧ Ex H H' ∧ H' ru = some (.lst (il (lawRule ns p))) ∧ H' dr = some (.lst (il (fillF p (lawRule ns p) (lawRests ns 1 p ns.length) (lawRule ns p).length i))))
        (fun H6 e6 => ⟨none, rfl, E5.trans e6, e6 _ _ hru, e6 _ _ hdr5⟩) ?_ ?_
      · apply ea_is
        refine ea_cons (by walk_at "ev") (ea_cons (ev_sub (by walk_at "ev") (ev_ixUi (ns := OFF) (i := lawKind ns) ?_ (by walk_at "ev") ?_)) ea_nil)
        · apply eu_is
          walk_at "ev"
          rfl
        · show 0 ≤ _ ∧ _ < (4 : Int)
          omega
        · rfl
      · rintro i σ' H' hi ⟨x6, rfl, e6, hru6, hdr6⟩
        have fl := fillF_len p (lawRule ns p) (lawRests ns 1 p ns.length) (lawRule ns p).length i
        refine s_setI (ns := fillF p (lawRule ns p) (lawRests ns 1 p ns.length) (lawRule ns p).length i) (n := due p (lawRule ns p) (fillF p (lawRule ns p) (lawRests ns 1 p ns.length) (lawRule ns p).length i) ((lawRule ns p).length + i)) (i := ((lawRule ns p).length : Int) + (i : Int)) hdr6 ?_ (by walk_at "ev") (by walk_at "ev") (by omega) fun H7 e7 => ?_
        · apply ev_is
          walk_at "ev"
          · exact ⟨hp, hrr, by omega, by omega, by omega⟩
          · rw [show (((lawRule ns p).length : Int) + (i : Int)).toNat = (lawRule ns p).length + i by omega]
        · refine ⟨_, rfl, Ex.mut (e6.trans e7) ndr0, ?_, ?_⟩
          · rw [upd_ne ndru]
            exact e7 _ _ hru6
          · rw [upd_same, show (((lawRule ns p).length : Int) + (i : Int)).toNat = (lawRule ns p).length + i by omega]
            rfl
      · rintro σ' H' ⟨x6, rfl, e6, hru6, hdr6⟩
        refine tRet_ref (p := dr) rfl ?_
        have E : lawRow ns p = fillF p (lawRule ns p) (lawRests ns 1 p ns.length) (lawRule ns p).length ((ns.length : Int) - g OFF (lawKind ns).toNat - ((lawRule ns p).length : Int)).toNat := by
          unfold lawRow
          rw [if_neg (by rw [c]; decide), if_pos d]
        refine q dr H' ndr0 e6 ?_
        rw [E]
        exact hdr6
    · refine tRet_ref (p := dr) rfl ?_
      have E : lawRow ns p = lawRests ns 1 p ns.length := by
        unfold lawRow
        rw [if_neg (by rw [c]; decide), if_neg (by rw [d]; decide)]
      refine q dr H4 ndr0 (((e1.trans e2).trans e3).trans e4) ?_
      rw [E]
      exact e4 _ _ (e3 _ _ hdr)
/-! makes -/
def sp_makes (K : PySem.W.Frag) (cP cR cW : Addr) : Sp := fun vs H Q E => ∃ (P R W : V) (C : Addr), vs = [P, R, W] ∧ Ref3 K H cP cR cW P R W C ∧ ∀ H', Ex H H' → E (.ref C) none H'
theorem nv_makes {K : PySem.W.Frag} {cP cR cW C : Addr} {σ : L2.St} {H : Hp} {E : XK} {ta : TA} {P R W : V} (h : EvA ta σ H [P, R, W]) (hx : Ref3 K H cP cR cW P R W C) (h2 : ∀ H', Ex H H' → E (.ref C) none H') : Nv (tCall (sp_makes K cP cR cW) [] E ta) σ H :=
  nv_call h fun H1 e Q => ⟨P, R, W, C, rfl, hx.up e, fun H2 e2 => h2 H2 (e.trans e2)⟩

theorem nvp_makes {K : PySem.W.Frag} {cP cR cW C : Addr} {σ : L2.St} {H : Hp} {E : XK} {ta : TA} {φs : List Wd} (h : EvPs ta σ H φs) (k : ∀ vs H1, Ex H H1 → AllW H1 φs vs → ∃ P R W, vs = [P, R, W] ∧ Ref3 K H1 cP cR cW P R W C) (h2 : ∀ H', Ex H H' → E (.ref C) none H') : Nv (tCall (sp_makes K cP cR cW) [] E ta) σ H :=
  nv_callP h fun vs H1 e hw Q => by
    obtain ⟨P, R, W, rfl, hr⟩ := k vs H1 e hw
    exact ⟨P, R, W, C, rfl, hr, fun H2 e2 => h2 H2 (e.trans e2)⟩
theorem ok_makes (T : Txt K mg) : FnOk P w K mg base (L2N.CX P w) 4 T.a_makes T.f_makes ["prime", "rule", "row"] (sp_makes K T.a_BadPrime T.a_BadRule T.a_BadRow) := by
  refine T.F_makes.okN sc_makes (fun vs H Q E h => ?_) (fun cdv A outer s H vs Q E hr h => ?_)
  · obtain ⟨P, R, W, C, rfl, _⟩ := h
    rfl
  · obtain ⟨P, R, W, C, rfl, hx, qx⟩ := h
    rw [show start ["prime", "rule", "row"] [P, R, W] = [some P, some R, some W] from rfl]
    refine ⟨_, (pss_cons (ps_expr (pe_call (ok_check_prime T) (hr.mono (by decide)) (by rfl) T.g_check_prime T.F_check_prime.kp T.b_check_prime .nil (L2N.passes_call (L2N.takes_of rfl rfl rfl rfl) (fun _ _ _ _ h => h)) (pa_cons (pv 0) pa_nil)))
      (pss_cons (ps_expr (pe_call (ok_check_rule T) (hr.mono (by decide)) (by rfl) T.g_check_rule T.F_check_rule.kp T.b_check_rule .nil (L2N.passes_call (L2N.takes_of rfl rfl rfl rfl) (fun _ _ _ _ h => h)) (pa_cons (pv 0) (pa_cons (pv 1) pa_nil))))
      (pss_cons (ps_expr (pe_call (ok_check_row T) (hr.mono (by decide)) (by rfl) T.g_check_row T.F_check_row.kp T.b_check_row .nil (L2N.passes_call (L2N.takes_of rfl rfl rfl rfl) (fun _ _ _ _ h => h)) (pa_cons (pv 0) (pa_cons (pv 2) pa_nil))))
      pss_never))), ?_⟩
    cases hx with
    | prime h hb => exact q_checkPrime (ea_cons (ev_var rfl) ea_nil) h (fun z => by rw [hb] at z; cases z) (fun _ => qx)
    | rule hp h =>
      refine q_checkPrime (ea_cons (ev_var rfl) ea_nil) (.no (.int _)) (fun _ H1 e1 => ?_) (fun z => by rw [hp] at z; cases z)
      exact q_check_rule (ea_cons (ev_var rfl) (ea_cons (ev_var rfl) ea_nil)) (h.up e1) (fun z => by cases z) (fun _ H' e' => qx H' (e1.trans e'))
    | row hp h h2 =>
      refine q_checkPrime (ea_cons (ev_var rfl) ea_nil) (.no (.int _)) (fun _ H1 e1 => ?_) (fun z => by rw [hp] at z; cases z)
      refine q_check_rule (ea_cons (ev_var rfl) (ea_cons (ev_var rfl) ea_nil)) (h.up e1) (fun _ H2 e2 => ?_) (fun z => by cases z)
      exact q_check_row (ea_cons (ev_var rfl) (ea_cons (ev_var rfl) ea_nil)) (h2.up (e1.trans e2)) (fun z => by cases z) (fun _ H' e' => qx H' ((e1.trans e2).trans e'))
/-! both -/
def sp_both (K : PySem.W.Frag) (cP cR cW : Addr) : Sp := fun vs H Q E => ∃ (P R W : V) (C : Addr), vs = [P, R, W] ∧ Ref3 K H cP cR cW P R W C ∧ ∀ H', Ex H H' → E (.ref C) none H'
theorem nv_both {K : PySem.W.Frag} {cP cR cW C : Addr} {σ : L2.St} {H : Hp} {E : XK} {ta : TA} {P R W : V} (h : EvA ta σ H [P, R, W]) (hx : Ref3 K H cP cR cW P R W C) (h2 : ∀ H', Ex H H' → E (.ref C) none H') : Nv (tCall (sp_both K cP cR cW) [] E ta) σ H :=
  nv_call h fun H1 e Q => ⟨P, R, W, C, rfl, hx.up e, fun H2 e2 => h2 H2 (e.trans e2)⟩

theorem nvp_both {K : PySem.W.Frag} {cP cR cW C : Addr} {σ : L2.St} {H : Hp} {E : XK} {ta : TA} {φs : List Wd} (h : EvPs ta σ H φs) (k : ∀ vs H1, Ex H H1 → AllW H1 φs vs → ∃ P R W, vs = [P, R, W] ∧ Ref3 K H1 cP cR cW P R W C) (h2 : ∀ H', Ex H H' → E (.ref C) none H') : Nv (tCall (sp_both K cP cR cW) [] E ta) σ H :=
  nv_callP h fun vs H1 e hw Q => by
    obtain ⟨P, R, W, rfl, hr⟩ := k vs H1 e hw
    exact ⟨P, R, W, C, rfl, hr, fun H2 e2 => h2 H2 (e.trans e2)⟩
theorem ok_both (T : Txt K mg) : FnOk P w K mg base (L2N.CX P w) 4 T.a_both T.f_both ["prime", "one", "other"] (sp_both K T.a_BadPrime T.a_BadRule T.a_BadRule) := by
  refine T.F_both.okN sc_both (fun vs H Q E h => ?_) (fun cdv A outer s H vs Q E hr h => ?_)
  · obtain ⟨P, R, W, C, rfl, _⟩ := h
    rfl
  · obtain ⟨P, R, W, C, rfl, hx, qx⟩ := h
    rw [show start ["prime", "one", "other"] [P, R, W] = [some P, some R, some W] from rfl]
    refine ⟨_, (pss_cons (ps_expr (pe_call (ok_check_prime T) (hr.mono (by decide)) (by rfl) T.g_check_prime T.F_check_prime.kp T.b_check_prime .nil (L2N.passes_call (L2N.takes_of rfl rfl rfl rfl) (fun _ _ _ _ h => h)) (pa_cons (pv 0) pa_nil)))
      (pss_cons (ps_expr (pe_call (ok_check_rule T) (hr.mono (by decide)) (by rfl) T.g_check_rule T.F_check_rule.kp T.b_check_rule .nil (L2N.passes_call (L2N.takes_of rfl rfl rfl rfl) (fun _ _ _ _ h => h)) (pa_cons (pv 0) (pa_cons (pv 1) pa_nil))))
      (pss_cons (ps_expr (pe_call (ok_check_rule T) (hr.mono (by decide)) (by rfl) T.g_check_rule T.F_check_rule.kp T.b_check_rule .nil (L2N.passes_call (L2N.takes_of rfl rfl rfl rfl) (fun _ _ _ _ h => h)) (pa_cons (pv 0) (pa_cons (pv 2) pa_nil))))
      pss_never))), ?_⟩
    cases hx with
    | prime h hb => exact q_checkPrime (ea_cons (ev_var rfl) ea_nil) h (fun z => by rw [hb] at z; cases z) (fun _ => qx)
    | rule hp h =>
      refine q_checkPrime (ea_cons (ev_var rfl) ea_nil) (.no (.int _)) (fun _ H1 e1 => ?_) (fun z => by rw [hp] at z; cases z)
      exact q_check_rule (ea_cons (ev_var rfl) (ea_cons (ev_var rfl) ea_nil)) (h.up e1) (fun z => by cases z) (fun _ H' e' => qx H' (e1.trans e'))
    | row hp h h2 =>
      refine q_checkPrime (ea_cons (ev_var rfl) ea_nil) (.no (.int _)) (fun _ H1 e1 => ?_) (fun z => by rw [hp] at z; cases z)
      refine q_check_rule (ea_cons (ev_var rfl) (ea_cons (ev_var rfl) ea_nil)) (h.up e1) (fun _ H2 e2 => ?_) (fun z => by cases z)
      exact q_check_rule (ea_cons (ev_var rfl) (ea_cons (ev_var rfl) ea_nil)) (h2.up (e1.trans e2)) (fun z => by cases z) (fun _ H' e' => qx H' ((e1.trans e2).trans e'))
/-! unlike -/
def sp_unlike (K : PySem.W.Frag) (cP cW : Addr) : Sp := fun vs H Q E => ∃ (P W : V) (C : Addr), vs = [P, W] ∧ Ref2 K H cP cW P W C ∧ ∀ H', Ex H H' → E (.ref C) none H'
theorem nv_unlike {K : PySem.W.Frag} {cP cW C : Addr} {σ : L2.St} {H : Hp} {E : XK} {ta : TA} {P W : V} (h : EvA ta σ H [P, W]) (hx : Ref2 K H cP cW P W C) (h2 : ∀ H', Ex H H' → E (.ref C) none H') : Nv (tCall (sp_unlike K cP cW) [] E ta) σ H :=
  nv_call h fun H1 e Q => ⟨P, W, C, rfl, hx.up e, fun H2 e2 => h2 H2 (e.trans e2)⟩

theorem nvp_unlike {K : PySem.W.Frag} {cP cW C : Addr} {σ : L2.St} {H : Hp} {E : XK} {ta : TA} {φs : List Wd} (h : EvPs ta σ H φs) (k : ∀ vs H1, Ex H H1 → AllW H1 φs vs → ∃ P W, vs = [P, W] ∧ Ref2 K H1 cP cW P W C) (h2 : ∀ H', Ex H H' → E (.ref C) none H') : Nv (tCall (sp_unlike K cP cW) [] E ta) σ H :=
  nv_callP h fun vs H1 e hw Q => by
    obtain ⟨P, W, rfl, hr⟩ := k vs H1 e hw
    exact ⟨P, W, C, rfl, hr, fun H2 e2 => h2 H2 (e.trans e2)⟩
theorem ok_unlike (T : Txt K mg) : FnOk P w K mg base (L2N.CX P w) 4 T.a_unlike T.f_unlike ["prime", "row"] (sp_unlike K T.a_BadPrime T.a_BadRow) := by
  refine T.F_unlike.okN sc_unlike (fun vs H Q E h => ?_) (fun cdv A outer s H vs Q E hr h => ?_)
  · obtain ⟨P, W, C, rfl, _⟩ := h
    rfl
  · obtain ⟨P, W, C, rfl, hx, qx⟩ := h
    rw [show start ["prime", "row", "rule", "shorter", "place", "miss", "rests"] [P, W] = [some P, some W, none, none, none, none, none] from rfl]
    refine ⟨_, (pss_cons (ps_expr (pe_call (ok_check_prime T) (hr.mono (by decide)) (by rfl) T.g_check_prime T.F_check_prime.kp T.b_check_prime .nil (L2N.passes_call (L2N.takes_of rfl rfl rfl rfl) (fun _ _ _ _ h => h)) (pa_cons (pv 0) pa_nil)))
      (pss_cons (ps_expr (pe_call (ok_check_row T) (hr.mono (by decide)) (by rfl) T.g_check_row T.F_check_row.kp T.b_check_row .nil (L2N.passes_call (L2N.takes_of rfl rfl rfl rfl) (fun _ _ _ _ h => h)) (pa_cons (pv 0) (pa_cons (pv 1) pa_nil))))
      pss_never)), ?_⟩
    cases hx with
    | prime h hb => exact q_checkPrime (ea_cons (ev_var rfl) ea_nil) h (fun z => by rw [hb] at z; cases z) (fun _ => qx)
    | row hp h2 =>
      refine q_checkPrime (ea_cons (ev_var rfl) ea_nil) (.no (.int _)) (fun _ H1 e1 => ?_) (fun z => by rw [hp] at z; cases z)
      exact q_check_row (ea_cons (ev_var rfl) (ea_cons (ev_var rfl) ea_nil)) (h2.up e1) (fun z => by cases z) (fun _ H' e' => qx H' (e1.trans e'))
/-! written -/
def sp_written (K : PySem.W.Frag) (cP cW : Addr) : Sp := fun vs H Q E => ∃ (P W : V) (C : Addr), vs = [P, W] ∧ Ref2 K H cP cW P W C ∧ ∀ H', Ex H H' → E (.ref C) none H'
theorem nv_written {K : PySem.W.Frag} {cP cW C : Addr} {σ : L2.St} {H : Hp} {E : XK} {ta : TA} {P W : V} (h : EvA ta σ H [P, W]) (hx : Ref2 K H cP cW P W C) (h2 : ∀ H', Ex H H' → E (.ref C) none H') : Nv (tCall (sp_written K cP cW) [] E ta) σ H :=
  nv_call h fun H1 e Q => ⟨P, W, C, rfl, hx.up e, fun H2 e2 => h2 H2 (e.trans e2)⟩

theorem nvp_written {K : PySem.W.Frag} {cP cW C : Addr} {σ : L2.St} {H : Hp} {E : XK} {ta : TA} {φs : List Wd} (h : EvPs ta σ H φs) (k : ∀ vs H1, Ex H H1 → AllW H1 φs vs → ∃ P W, vs = [P, W] ∧ Ref2 K H1 cP cW P W C) (h2 : ∀ H', Ex H H' → E (.ref C) none H') : Nv (tCall (sp_written K cP cW) [] E ta) σ H :=
  nv_callP h fun vs H1 e hw Q => by
    obtain ⟨P, W, rfl, hr⟩ := k vs H1 e hw
    exact ⟨P, W, C, rfl, hr, fun H2 e2 => h2 H2 (e.trans e2)⟩
theorem ok_written (T : Txt K mg) : FnOk P w K mg base (L2N.CX P w) 4 T.a_written T.f_written ["prime", "row"] (sp_written K T.a_BadPrime T.a_BadRow) := by
  refine T.F_written.okN sc_written (fun vs H Q E h => ?_) (fun cdv A outer s H vs Q E hr h => ?_)
  · obtain ⟨P, W, C, rfl, _⟩ := h
    rfl
  · obtain ⟨P, W, C, rfl, hx, qx⟩ := h
    rw [show start ["prime", "row", "number"] [P, W] = [some P, some W, none] from rfl]
    refine ⟨_, (pss_cons (ps_expr (pe_call (ok_check_prime T) (hr.mono (by decide)) (by rfl) T.g_check_prime T.F_check_prime.kp T.b_check_prime .nil (L2N.passes_call (L2N.takes_of rfl rfl rfl rfl) (fun _ _ _ _ h => h)) (pa_cons (pv 0) pa_nil)))
      (pss_cons (ps_expr (pe_call (ok_check_row T) (hr.mono (by decide)) (by rfl) T.g_check_row T.F_check_row.kp T.b_check_row .nil (L2N.passes_call (L2N.takes_of rfl rfl rfl rfl) (fun _ _ _ _ h => h)) (pa_cons (pv 0) (pa_cons (pv 1) pa_nil))))
      pss_never)), ?_⟩
    cases hx with
    | prime h hb => exact q_checkPrime (ea_cons (ev_var rfl) ea_nil) h (fun z => by rw [hb] at z; cases z) (fun _ => qx)
    | row hp h2 =>
      refine q_checkPrime (ea_cons (ev_var rfl) ea_nil) (.no (.int _)) (fun _ H1 e1 => ?_) (fun z => by rw [hp] at z; cases z)
      exact q_check_row (ea_cons (ev_var rfl) (ea_cons (ev_var rfl) ea_nil)) (h2.up e1) (fun z => by cases z) (fun _ H' e' => qx H' (e1.trans e'))
/-! check_going -/
def sp_check_going (K : PySem.W.Frag) (cP cR cW cF cB : Addr) : Sp := fun vs H Q E => ∃ (P R W M : V), vs = [P, R, W, M] ∧ ((∃ C, GoX K H cP cR cW cF cB P R W M C ∧ ∀ H', Ex H H' → E (.ref C) none H') ∨
  (∃ (p m : Int) (a b : Addr) (ns ms : List Int), P = .int p ∧ R = .ref a ∧ W = .ref b ∧ M = .int m ∧ Goes K H p a b ns ms ∧ ns.length ≤ ms.length ∧ 0 ≤ m ∧ RetV .non H Q))
theorem q_goX {K : PySem.W.Frag} {cP cR cW cF cB C : Addr} {σ : L2.St} {H : Hp} {E : XK} {ta : TA} {P R W M : V} {tz : TS} {D : Ends} (h : EvA ta σ H [P, R, W, M]) (hx : GoX K H cP cR cW cF cB P R W M C) (h2 : ∀ H', Ex H H' → E (.ref C) none H') : tSeq (tDrop (tCall (sp_check_going K cP cR cW cF cB) [] E ta)) tz D σ H :=
  h H (Ex.refl H) _ fun H1 e1 => ⟨P, R, W, M, rfl, .inl ⟨C, hx.up e1, fun H2 e2 => h2 H2 (e1.trans e2)⟩⟩
theorem q_goOk {K : PySem.W.Frag} {cP cR cW cF cB : Addr} {σ : L2.St} {H : Hp} {E : XK} {ta : TA} {p m : Int} {a b : Addr} {ns ms : List Int} {tz : TS} {D : Ends} (h : EvA ta σ H [.int p, .ref a, .ref b, .int m]) (g : Goes K H p a b ns ms) (hl : ns.length ≤ ms.length) (hm : 0 ≤ m) (k : ∀ H1, Ex H H1 → tz D σ H1) : tSeq (tDrop (tCall (sp_check_going K cP cR cW cF cB) [] E ta)) tz D σ H :=
  h H (Ex.refl H) _ fun H1 e1 => ⟨_, _, _, _, rfl, .inr ⟨p, m, a, b, ns, ms, rfl, rfl, rfl, rfl, g.up e1, hl, hm, fun H2 e2 => k H2 (e1.trans e2)⟩⟩
theorem ok_check_going (T : Txt K mg) : FnOk P w K mg base (L2N.CX P w) 4 T.a_check_going T.f_check_going ["prime", "rule", "row", "many"] (sp_check_going K T.a_BadPrime T.a_BadRule T.a_BadRow T.a_TooFew T.a_BadPlace) := by
  refine T.F_check_going.okN sc_check_going (fun vs H Q E h => ?_) (fun cdv A outer s H vs Q E hr h => ?_)
  · obtain ⟨P, R, W, M, rfl, _⟩ := h
    rfl
  · obtain ⟨P, R, W, M, rfl, hq⟩ := h
    rw [show start ["prime", "rule", "row", "many"] [P, R, W, M] = [some P, some R, some W, some M] from rfl]
    refine ⟨_, (pss_cons (ps_expr (pe_call (ok_check_prime T) (hr.mono (by decide)) (by rfl) T.g_check_prime T.F_check_prime.kp T.b_check_prime .nil (L2N.passes_call (L2N.takes_of rfl rfl rfl rfl) (fun _ _ _ _ h => h)) (pa_cons (pv 0) pa_nil)))
      (pss_cons (ps_expr (pe_call (ok_check_rule T) (hr.mono (by decide)) (by rfl) T.g_check_rule T.F_check_rule.kp T.b_check_rule .nil (L2N.passes_call (L2N.takes_of rfl rfl rfl rfl) (fun _ _ _ _ h => h)) (pa_cons (pv 0) (pa_cons (pv 1) pa_nil))))
      (pss_cons (ps_expr (pe_call (ok_check_row T) (hr.mono (by decide)) (by rfl) T.g_check_row T.F_check_row.kp T.b_check_row .nil (L2N.passes_call (L2N.takes_of rfl rfl rfl rfl) (fun _ _ _ _ h => h)) (pa_cons (pv 0) (pa_cons (pv 2) pa_nil))))
      (pss_cons (ps_if (pt_cmpR op_gt (x_len K rfl T.n_len (by rfl) (pa_cons (pv 1) pa_nil)) (x_len K rfl T.n_len (by rfl) (pa_cons (pv 2) pa_nil)) (nomark _)) (pss_one (L2N.ps_raise rfl (L2N.takes_of rfl rfl rfl rfl) (L2N.pmk_own PySem.F.excBase_ValueError T.x_TooFew T.g_TooFew T.kp_TooFew (raises_own T.s_TooFew T.t_TooFew) (by rfl)))) pss_nil)
      (pss_one (ps_if (PW.pt (pw_or (pt_not (pt_val (pe_call (ok_is_whole T) (hr.mono (by decide)) (by rfl) T.g_is_whole T.F_is_whole.kp T.b_is_whole .nil pass0 (pa_cons (pv 3) pa_nil)))) (pw_or1 (pt_cmpR op_lt (pv 3) pe_int (nomark _))))) (pss_one (L2N.ps_raise rfl (L2N.takes_of rfl rfl rfl rfl) (L2N.pmk_own PySem.F.excBase_ValueError T.x_BadPlace T.g_BadPlace T.kp_BadPlace (raises_own T.s_BadPlace T.t_BadPlace) (by rfl)))) pss_nil)))))), ?_⟩
    rcases hq with ⟨C, hx, qx⟩ | ⟨p, m, a, b, ns, ms, rfl, rfl, rfl, rfl, g, hl, hm, q⟩
    · cases hx with
      | three hx =>
        cases hx with
        | prime h hb => exact q_checkPrime (ea_cons (ev_var rfl) ea_nil) h (fun z => by rw [hb] at z; cases z) (fun _ => qx)
        | rule hp h =>
          refine q_checkPrime (ea_cons (ev_var rfl) ea_nil) (.no (.int _)) (fun _ H1 e1 => ?_) (fun z => by rw [hp] at z; cases z)
          exact q_check_rule (ea_cons (ev_var rfl) (ea_cons (ev_var rfl) ea_nil)) (h.up e1) (fun z => by cases z) (fun _ H' e' => qx H' (e1.trans e'))
        | row hp h h2 =>
          refine q_checkPrime (ea_cons (ev_var rfl) ea_nil) (.no (.int _)) (fun _ H1 e1 => ?_) (fun z => by rw [hp] at z; cases z)
          refine q_check_rule (ea_cons (ev_var rfl) (ea_cons (ev_var rfl) ea_nil)) (h.up e1) (fun _ H2 e2 => ?_) (fun z => by cases z)
          exact q_check_row (ea_cons (ev_var rfl) (ea_cons (ev_var rfl) ea_nil)) (h2.up (e1.trans e2)) (fun z => by cases z) (fun _ H' e' => qx H' ((e1.trans e2).trans e'))
      | few g h =>
        refine q_checkPrime (ea_cons (ev_var rfl) ea_nil) (.no (.int _)) (fun _ H1 e1 => ?_) (fun z => by rw [g.hp] at z; cases z)
        refine q_check_rule (ea_cons (ev_var rfl) (ea_cons (ev_var rfl) ea_nil)) (g.rule.up e1) (fun _ H2 e2 => ?_) (fun z => by cases z)
        refine q_check_row (ea_cons (ev_var rfl) (ea_cons (ev_var rfl) ea_nil)) (g.row.up (e1.trans e2)) (fun _ H3 e3 => ?_) (fun z => by cases z)
        have g3 := g.up ((e1.trans e2).trans e3)
        have k1 := g3.h1
        have k2 := g3.h2
        refine q_when (b := true) ?_ (fun _ H4 e4 => qx H4 (((e1.trans e2).trans e3).trans e4)) (fun z => by cases z)
        apply et_is
        walk_at "ev"
        exact decide_eq_true (by omega)
      | place g h hM hb =>
        refine q_checkPrime (ea_cons (ev_var rfl) ea_nil) (.no (.int _)) (fun _ H1 e1 => ?_) (fun z => by rw [g.hp] at z; cases z)
        refine q_check_rule (ea_cons (ev_var rfl) (ea_cons (ev_var rfl) ea_nil)) (g.rule.up e1) (fun _ H2 e2 => ?_) (fun z => by cases z)
        refine q_check_row (ea_cons (ev_var rfl) (ea_cons (ev_var rfl) ea_nil)) (g.row.up (e1.trans e2)) (fun _ H3 e3 => ?_) (fun z => by cases z)
        have g3 := g.up ((e1.trans e2).trans e3)
        have k1 := g3.h1
        have k2 := g3.h2
        refine q_skip (b := false) ?_ rfl fun H4 e4 => ?_
        · apply et_is
          walk_at "ev"
          exact decide_eq_false (by omega)
        have E4 := ((e1.trans e2).trans e3).trans e4
        have hM4 := hM.up E4
        refine s_when (b := true) ?_ (fun _ H5 e5 => qx H5 (E4.trans e5)) (fun z => by cases z)
        cases hw : whole M with
        | false =>
          refine et_is (et_or (b := false) (et_not (et_B (ev_is_whole (ea_cons (ev_var rfl) ea_nil) hM4))) fun z => ?_) ?_
          · rw [hw] at z
            cases z
          · rw [hw]
            rfl
        | true =>
          obtain ⟨m, rfl⟩ : ∃ m, M = .int m := by cases M <;> first | exact ⟨_, rfl⟩ | cases hw
          have hm := of_decide_eq_false hb
          apply et_is
          · apply et_or
            · exact et_not (et_B (ev_is_whole (ea_cons (ev_var rfl) ea_nil) hM4))
            · intro _
              walk_at "ev"
          · rw [hw, decide_eq_true (show m < 0 by omega)]
            rfl
    · skip
      refine q_checkPrime (ea_cons (ev_var rfl) ea_nil) (.no (.int _)) (fun _ H1 e1 => ?_) (fun z => by rw [g.hp] at z; cases z)
      refine q_check_rule (ea_cons (ev_var rfl) (ea_cons (ev_var rfl) ea_nil)) (g.rule.up e1) (fun _ H2 e2 => ?_) (fun z => by cases z)
      refine q_check_row (ea_cons (ev_var rfl) (ea_cons (ev_var rfl) ea_nil)) (g.row.up (e1.trans e2)) (fun _ H3 e3 => ?_) (fun z => by cases z)
      have g3 := g.up ((e1.trans e2).trans e3)
      have k1 := g3.h1
      have k2 := g3.h2
      refine q_skip (b := false) ?_ rfl fun H4 e4 => ?_
      · apply et_is
        walk_at "ev"
        exact decide_eq_false (by omega)
      have E4 := ((e1.trans e2).trans e3).trans e4
      refine s_skip (b := false) ?_ rfl fun H5 e5 => q H5 (E4.trans e5)
      apply et_is
      · apply et_or
        · exact et_not (et_B (ev_is_whole (ea_cons (ev_var rfl) ea_nil) (.no (.int m))))
        · intro _
          walk_at "ev"
      · rw [decide_eq_false (show ¬ m < 0 by omega)]
        rfl
/-! far -/
def sp_far (K : PySem.W.Frag) (cP cR cW cF cB : Addr) : Sp := fun vs H Q E => ∃ (P R W M : V) (C : Addr), vs = [P, R, W, M] ∧ GoX K H cP cR cW cF cB P R W M C ∧ ∀ H', Ex H H' → E (.ref C) none H'
theorem nv_far {K : PySem.W.Frag} {cP cR cW cF cB C : Addr} {σ : L2.St} {H : Hp} {E : XK} {ta : TA} {P R W M : V} (h : EvA ta σ H [P, R, W, M]) (hx : GoX K H cP cR cW cF cB P R W M C) (h2 : ∀ H', Ex H H' → E (.ref C) none H') : Nv (tCall (sp_far K cP cR cW cF cB) [] E ta) σ H :=
  nv_call h fun H1 e Q => ⟨P, R, W, M, C, rfl, hx.up e, fun H2 e2 => h2 H2 (e.trans e2)⟩

theorem nvp_far {K : PySem.W.Frag} {cP cR cW cF cB C : Addr} {σ : L2.St} {H : Hp} {E : XK} {ta : TA} {φs : List Wd} (h : EvPs ta σ H φs) (k : ∀ vs H1, Ex H H1 → AllW H1 φs vs → ∃ P R W M, vs = [P, R, W, M] ∧ GoX K H1 cP cR cW cF cB P R W M C) (h2 : ∀ H', Ex H H' → E (.ref C) none H') : Nv (tCall (sp_far K cP cR cW cF cB) [] E ta) σ H :=
  nv_callP h fun vs H1 e hw Q => by
    obtain ⟨P, R, W, M, rfl, hr⟩ := k vs H1 e hw
    exact ⟨P, R, W, M, C, rfl, hr, fun H2 e2 => h2 H2 (e.trans e2)⟩
theorem ok_far (T : Txt K mg) : FnOk P w K mg base (L2N.CX P w) 5 T.a_far T.f_far ["prime", "rule", "row", "place"] (sp_far K T.a_BadPrime T.a_BadRule T.a_BadRow T.a_TooFew T.a_BadPlace) := by
  refine T.F_far.okN sc_far (fun vs H Q E h => ?_) (fun cdv A outer s H vs Q E hr h => ?_)
  · obtain ⟨P, R, W, M, C, rfl, _⟩ := h
    rfl
  · obtain ⟨P, R, W, M, C, rfl, hx, qx⟩ := h
    rw [show start ["prime", "rule", "row", "place", "first", "found", "square", "left", "k", "rest"] [P, R, W, M] = [some P, some R, some W, some M, none, none, none, none, none, none] from rfl]
    refine ⟨_, (pss_cons (ps_expr (pe_call (ok_check_going T) (hr.mono (by decide)) (by rfl) T.g_check_going T.F_check_going.kp T.b_check_going .nil (L2N.passes_call (L2N.takes_of rfl rfl rfl rfl) (fun _ _ _ _ h => h)) (pa_cons (pv 0) (pa_cons (pv 1) (pa_cons (pv 2) (pa_cons (pv 3) pa_nil))))))
      pss_never), ?_⟩
    exact q_goX (ea_cons (ev_var rfl) (ea_cons (ev_var rfl) (ea_cons (ev_var rfl) (ea_cons (ev_var rfl) ea_nil)))) hx qx
/-! go_on -/
def sp_go_on (K : PySem.W.Frag) (cP cR cW cF cB : Addr) : Sp := fun vs H Q E => ∃ (P R W M : V), vs = [P, R, W, M] ∧ ((∃ C, GoX K H cP cR cW cF cB P R W M C ∧ ∀ H', Ex H H' → E (.ref C) none H') ∨
  (∃ (p m : Int) (a b : Addr) (ns ms : List Int), P = .int p ∧ R = .ref a ∧ W = .ref b ∧ M = .int m ∧ Goes K H p a b ns ms ∧ Good p ∧ ns.length ≤ ms.length ∧ ms.length ≤ 500 ∧ 0 ≤ m ∧ m ≤ 500 ∧ RetL (il (goF p ns ms m.toNat)) H Q))
theorem nv_go_on {K : PySem.W.Frag} {cP cR cW cF cB C : Addr} {σ : L2.St} {H : Hp} {E : XK} {ta : TA} {P R W M : V} (h : EvA ta σ H [P, R, W, M]) (hx : GoX K H cP cR cW cF cB P R W M C) (h2 : ∀ H', Ex H H' → E (.ref C) none H') : Nv (tCall (sp_go_on K cP cR cW cF cB) [] E ta) σ H :=
  nv_call h fun H1 e Q => ⟨P, R, W, M, rfl, .inl ⟨C, hx.up e, fun H2 e2 => h2 H2 (e.trans e2)⟩⟩

theorem nvp_go_on {K : PySem.W.Frag} {cP cR cW cF cB C : Addr} {σ : L2.St} {H : Hp} {E : XK} {ta : TA} {φs : List Wd} (h : EvPs ta σ H φs) (k : ∀ vs H1, Ex H H1 → AllW H1 φs vs → ∃ P R W M, vs = [P, R, W, M] ∧ GoX K H1 cP cR cW cF cB P R W M C) (h2 : ∀ H', Ex H H' → E (.ref C) none H') : Nv (tCall (sp_go_on K cP cR cW cF cB) [] E ta) σ H :=
  nv_callP h fun vs H1 e hw Q => by
    obtain ⟨P, R, W, M, rfl, hr⟩ := k vs H1 e hw
    exact ⟨P, R, W, M, rfl, .inl ⟨C, hr, fun H2 e2 => h2 H2 (e.trans e2)⟩⟩
theorem ok_go_on (T : Txt K mg) : FnOk P w K mg base (L2N.CX P w) 5 T.a_go_on T.f_go_on ["prime", "rule", "row", "many"] (sp_go_on K T.a_BadPrime T.a_BadRule T.a_BadRow T.a_TooFew T.a_BadPlace) := by
  refine T.F_go_on.okN sc_go_on (fun vs H Q E h => ?_) (fun cdv A outer s H vs Q E hr h => ?_)
  · obtain ⟨P, R, W, M, rfl, _⟩ := h
    rfl
  · obtain ⟨P, R, W, M, rfl, hq⟩ := h
    rw [show start ["prime", "rule", "row", "many", "found", "turn"] [P, R, W, M] = [some P, some R, some W, some M, none, none] from rfl]
    refine ⟨_, (pss_cons (ps_expr (pe_call (ok_check_going T) (hr.mono (by decide)) (by rfl) T.g_check_going T.F_check_going.kp T.b_check_going .nil (L2N.passes_call (L2N.takes_of rfl rfl rfl rfl) (fun _ _ _ _ h => h)) (pa_cons (pv 0) (pa_cons (pv 1) (pa_cons (pv 2) (pa_cons (pv 3) pa_nil))))))
      (pss_cons (ps_set (i := 4) sc_go_on.nd rfl (.inl rfl) (x_list K rfl T.n_list (by rfl) (pa_cons (pv 2) pa_nil)))
      (pss_cons (ps_for (passes_of rfl) rfl (pi_range1 (by rfl) T.n_range (pa_cons (pv 3) pa_nil)) (pg_name (i := 5) sc_go_on.nd rfl (.inl rfl)) (pss_one (ps_expr (x_append K rfl (pv 4) (pa_cons (pe_call (ok_due_at T) (hr.mono (by decide)) (by rfl) T.g_due_at T.F_due_at.kp T.b_due_at .nil pass0 (pa_cons (pv 0) (pa_cons (pv 1) (pa_cons (pv 4) (pa_cons (x_len K rfl T.n_len (by rfl) (pa_cons (pv 4) pa_nil)) pa_nil))))) pa_nil)))))
      (pss_one (ps_ret (pv 4)))))), ?_⟩
    rcases hq with ⟨C, hx, qx⟩ | ⟨p, m, a_rule, a_row, rule, row, rfl, rfl, rfl, rfl, g, hp, hl, hl2, hm, hm2, q⟩
    · exact q_goX (ea_cons (ev_var rfl) (ea_cons (ev_var rfl) (ea_cons (ev_var rfl) (ea_cons (ev_var rfl) ea_nil)))) hx qx
    refine q_goOk (ea_cons (ev_var rfl) (ea_cons (ev_var rfl) (ea_cons (ev_var rfl) (ea_cons (ev_var rfl) ea_nil)))) g hl hm fun H1 e1 => ?_
    have g1 := g.up e1
    have hr1 := g.r1
    have h_rule := g.h1
    have h_row1 := g1.h2
    refine q_asgL (i := 4) (xs := il row) (by walk_at "ev") fun f H2 nf e2 hf => ?_
    have nf0 := fresh_back e1 nf
    refine q_forR1 (j := 5) (n := m) (by walk_at "ev") (by omega) (fun i σ' H' => ∃ x5, σ' = [some (.int p), some (.ref a_rule), some (.ref a_row), some (.int m), some (.ref f), x5] ∧ Ex H H' ∧ H' f = some (.lst (il (goF p rule row i))))
      (fun H3 e3 => ⟨none, rfl, (e1.trans e2).trans e3, e3 _ _ hf⟩) ?_ ?_
    · rintro i σ' H3 hi ⟨x5, rfl, e3, hf3⟩
      have h_rule3 := ex_l e3 h_rule
      have gl := goF_len (p := p) (rule := rule) (row := row) i
      refine s_appI (l := f) (ns := goF p rule row i) (n := due p rule (goF p rule row i) (goF p rule row i).length) hf3 (by walk_at "ev") ?_ (by omega) fun H4 e4 => ⟨_, rfl, Ex.mut (e3.trans e4) nf0, upd_same⟩
      apply ev_is
      walk_at "ev"
      all_goals first | exact ⟨hp, hr1, by omega, by omega, by omega⟩ | rw [Int.toNat_natCast]
    · rintro σ' H3 ⟨x5, rfl, e3, hf3⟩
      exact tRet_ref (p := f) rfl (q f H3 nf0 e3 hf3)
/-! backwards -/
def NoBack (rule : List Int) : Prop := 0 < rule.length ∧ g rule (rule.length - 1) = 0
def sp_backwards (K : PySem.W.Frag) (cP cR cN : Addr) : Sp := fun vs H Q E => ∃ (P R : V), vs = [P, R] ∧ ((∃ C, Ref2 K H cP cR P R C ∧ ∀ H', Ex H H' → E (.ref C) none H') ∨
  (∃ (p : Int) (a : Addr) (rule : List Int), P = .int p ∧ R = .ref a ∧ SqL K H a (il rule) ∧ (Good p ∧ Rs p rule ∧ rule.length ≤ 200) ∧ primeOk (.int p) = true ∧ (NoBack rule → ∀ H', Ex H H' → E (.ref cN) none H') ∧ (¬ NoBack rule → RetL (il (backF p rule)) H Q)))
theorem nv_backwards {K : PySem.W.Frag} {cP cR cN C : Addr} {σ : L2.St} {H : Hp} {E : XK} {ta : TA} {P R : V} (h : EvA ta σ H [P, R]) (hx : Ref2 K H cP cR P R C) (h2 : ∀ H', Ex H H' → E (.ref C) none H') : Nv (tCall (sp_backwards K cP cR cN) [] E ta) σ H :=
  nv_call h fun H1 e Q => ⟨P, R, rfl, .inl ⟨C, hx.up e, fun H2 e2 => h2 H2 (e.trans e2)⟩⟩

theorem nvp_backwards {K : PySem.W.Frag} {cP cR cN C : Addr} {σ : L2.St} {H : Hp} {E : XK} {ta : TA} {φs : List Wd} (h : EvPs ta σ H φs) (k : ∀ vs H1, Ex H H1 → AllW H1 φs vs → ∃ P W, vs = [P, W] ∧ Ref2 K H1 cP cR P W C) (h2 : ∀ H', Ex H H' → E (.ref C) none H') : Nv (tCall (sp_backwards K cP cR cN) [] E ta) σ H :=
  nv_callP h fun vs H1 e hw Q => by
    obtain ⟨P, W, rfl, hr⟩ := k vs H1 e hw
    exact ⟨P, W, rfl, .inl ⟨C, hr, fun H2 e2 => h2 H2 (e.trans e2)⟩⟩
theorem ok_backwards (T : Txt K mg) : FnOk P w K mg base (L2N.CX P w) 4 T.a_backwards T.f_backwards ["prime", "rule"] (sp_backwards K T.a_BadPrime T.a_BadRule T.a_NoWay) := by
  refine T.F_backwards.okN sc_backwards (fun vs H Q E h => ?_) (fun cdv A outer s H vs Q E hr h => ?_)
  · obtain ⟨P, R, rfl, _⟩ := h
    rfl
  · obtain ⟨P, R, rfl, hq⟩ := h
    rw [show start ["prime", "rule", "back", "by", "rest"] [P, R] = [some P, some R, none, none, none] from rfl]
    refine ⟨_, (pss_cons (ps_expr (pe_call (ok_check_prime T) (hr.mono (by decide)) (by rfl) T.g_check_prime T.F_check_prime.kp T.b_check_prime .nil (L2N.passes_call (L2N.takes_of rfl rfl rfl rfl) (fun _ _ _ _ h => h)) (pa_cons (pv 0) pa_nil)))
      (pss_cons (ps_expr (pe_call (ok_check_rule T) (hr.mono (by decide)) (by rfl) T.g_check_rule T.F_check_rule.kp T.b_check_rule .nil (L2N.passes_call (L2N.takes_of rfl rfl rfl rfl) (fun _ _ _ _ h => h)) (pa_cons (pv 0) (pa_cons (pv 1) pa_nil))))
      (pss_cons (ps_if (pt_cmpR op_eq (x_len K rfl T.n_len (by rfl) (pa_cons (pv 1) pa_nil)) pe_int (nomark _)) (pss_one (ps_ret (pe_lst pa_nil))) pss_nil)
      (pss_cons (ps_if (pt_cmpR op_eq (x_ixL K rfl (pv 1) (pe_un un_neg pe_int) (fun _ _ => rfl)) pe_int (nomark _)) (pss_one (L2N.ps_raise rfl (L2N.takes_of rfl rfl rfl rfl) (L2N.pmk_own PySem.F.excBase_ValueError T.x_NoWay T.g_NoWay T.kp_NoWay (raises_own T.s_NoWay T.t_NoWay) (by rfl)))) pss_nil)
      (pss_cons (ps_set (i := 2) sc_backwards.nd rfl (.inl rfl) (x_rev K rfl (pe_call (ok_turned T) (hr.mono (by decide)) (by rfl) T.g_turned T.F_turned.kp T.b_turned .nil pass0 (pa_cons (pv 0) (pa_cons (pv 1) pa_nil)))))
      (pss_cons (ps_set (i := 3) sc_backwards.nd rfl (.inr rfl) (pe_call (ok_inverse T) (hr.mono (by decide)) (by rfl) T.g_inverse T.F_inverse.kp T.b_inverse .nil pass0 (pa_cons (pv 0) (pa_cons (x_ixL K rfl (pv 2) pe_int (fun _ _ => rfl)) pa_nil))))
      (pss_one (ps_ret (pe_call (ok_told_back T) (hr.mono (by decide)) (by rfl) T.g_told_back T.F_told_back.kp T.b_told_back .nil pass0 (pa_cons (pv 0) (pa_cons (pe_lc (own := [("rest", 4)]) (g := (gName 4)) (tt := tYes) rfl sc_backwards.nd (xi_list K rfl (pv 2)) (blkOk_by (N := ["prime", "rule", "back", "by", "rest"]) (sc := defScope s_backwards) (by decide +kernel)) (fun _ _ _ _ _ => (pg_name (i := 4) sc_backwards.nd rfl (Or.inl rfl))) (fun _ _ _ _ _ => pts_nil) (fun _ _ _ _ _ => (pe_op op_mod (pe_op op_mul (pv 4) (pv 3)) (pv 0)))) pa_nil))))))))))), ?_⟩
    rcases hq with ⟨C, hx, qx⟩ | ⟨p, a_rule, rule, rfl, rfl, h_rule, ⟨hp, hrs, hl⟩, hpo, qx, q⟩
    · skip
      cases hx with
      | prime h hb => exact q_checkPrime (ea_cons (ev_var rfl) ea_nil) h (fun z => by rw [hb] at z; cases z) (fun _ => qx)
      | row hp h2 =>
        refine q_checkPrime (ea_cons (ev_var rfl) ea_nil) (.no (.int _)) (fun _ H1 e1 => ?_) (fun z => by rw [hp] at z; cases z)
        exact q_check_rule (ea_cons (ev_var rfl) (ea_cons (ev_var rfl) ea_nil)) (h2.up e1) (fun z => by cases z) (fun _ H' e' => qx H' (e1.trans e'))

    have g1 := hp.two
    have g2 := hp.most
    refine q_checkPrime (ea_cons (ev_var rfl) ea_nil) (.no (.int _)) (fun _ H1 e1 => ?_) (fun z => by rw [hpo] at z; cases z)
    refine q_check_rule (ea_cons (ev_var rfl) (ea_cons (ev_var rfl) ea_nil)) (rests_il (ex_l e1 h_rule) (by omega) hrs) (fun _ H2 e2 => ?_) (fun z => by cases z)
    have h_rule := ex_l (e1.trans e2) h_rule
    refine q_when (b := decide ((rule.length : Int) = 0)) (by walk_at "ev") (fun c H3 e3 => ?_) (fun c H3 e3 => ?_)
    · have c1 := of_decide_eq_true c
      have rn : rule = [] := List.eq_nil_of_length_eq_zero (by omega)
      have E := (e1.trans e2).trans e3
      refine s_retL (xs := il (backF p rule)) ?_ fun z G nz eG hz => q (fun nb => by have := nb.1; omega) z G (fresh_back E nz) (E.trans eG) hz
      apply el_is
      walk_at "ev"
      rw [rn]
      rfl
    have c1 := of_decide_eq_false c
    have h0 : 0 < rule.length := by omega
    have h_rule := ex_l e3 h_rule
    refine q_when (b := decide (g rule (rule.length - 1) = 0)) (by walk_at "ev") (fun d H4 e4 => ?_) (fun d H4 e4 => ?_)
    · have d1 := of_decide_eq_true d
      exact qx ⟨h0, d1⟩ H4 (((e1.trans e2).trans e3).trans e4)
    have d1 := of_decide_eq_false d
    have h_rule := ex_l e4 h_rule
    have t1 := turned_len p rule
    refine q_asgL (i := 2) (xs := il (RR.turned p rule).reverse) ?_ fun b H5 nb e5 hb => ?_
    · walk_at "ev"
      all_goals exact ⟨hp, by omega⟩
    have bf := back_first hp.one hrs h0 d1
    have rl : (RR.turned p rule).reverse.length = rule.length + 1 := by rw [List.length_reverse, t1]
    refine q_asg (i := 3) (v := .int (RR.inverse p (g (RR.turned p rule).reverse 0))) ?_ fun H6 e6 => ?_
    · apply ev_is
      walk_at "ev"
      all_goals first | exact ⟨hp, bf.1, bf.2⟩ | rfl
    have hb6 := e6 _ _ hb
    have E := ((((e1.trans e2).trans e3).trans e4).trans e5).trans e6
    refine s_retL (xs := il (backF p rule)) ?_ fun z G nz eG hz => q (fun nb => d1 nb.2) z G (fresh_back E nz) (E.trans eG) hz
    apply el_is
    walk_at "ev"
    · apply el_lcIi (fun r => r * RR.inverse p (g (RR.turned p rule).reverse 0) % p) (by walk_at "ev") (by omega) (fun _ => rfl)
      intro x H7 e hx
      have b1 := reverse_rs (turned_rs hp.one rule) x hx
      walk_at "ev"
    · exact ⟨hp, by rw [List.length_map, rl]; omega⟩
    · rfl
/-! _law_more -/
def sp__law_more (K : PySem.W.Frag) (C : Addr) : Sp := fun vs H Q E => ∃ (d : Int) (x : V), vs = [.int d, x] ∧ (Thing K H x ∧ primeOk x = false) ∧ ∀ H', Ex H H' → E (.ref C) none H'

theorem nv_more {K : PySem.W.Frag} {C : Addr} {σ : L2.St} {H : Hp} {E : XK} {ta : TA} {d : Int} {x : V} (h : EvA ta σ H [.int d, x]) (hT : Thing K H x) (hb : primeOk x = false) (h2 : ∀ H', Ex H H' → E (.ref C) none H') : Nv (tCall (sp__law_more K C) [] E ta) σ H :=
  nv_call h fun H1 e Q => ⟨d, x, rfl, ⟨hT.up e, hb⟩, fun H2 e2 => h2 H2 (e.trans e2)⟩
theorem ok__law_more (T : Txt K mg) : FnOk P w K mg base (L2N.CX P w) 6 T.a__law_more T.f__law_more ["_law_door", "_law_prime_here"] (sp__law_more K T.a_BadPrime) := by
  refine T.F__law_more.okN sc__law_more (fun vs H Q E h => ?_) (fun cdv A outer s H vs Q E hr h => ?_)
  · obtain ⟨d, x, rfl, _⟩ := h
    rfl
  · obtain ⟨d, x, rfl, hx, qx⟩ := h
    rw [show start ["_law_door", "_law_prime_here"] [.int d, x] = [some (.int d), some x] from rfl]
    refine ⟨_, (pss_one (ps_ret (pe_ifExp (pt_cmpR op_eq (pv 0) pe_int (nomark _)) (pe_call (ok_far T) (hr.mono (by decide)) (by rfl) T.g_far T.F_far.kp T.b_far .nil (L2N.passes_call (L2N.takes_of rfl rfl rfl rfl) (fun _ _ _ _ h => h)) (pa_cons (pv 1) (pa_cons pe_non (pa_cons pe_non (pa_cons pe_non pa_nil))))) (pe_call (ok_both T) (hr.mono (by decide)) (by rfl) T.g_both T.F_both.kp T.b_both .nil (L2N.passes_call (L2N.takes_of rfl rfl rfl rfl) (fun _ _ _ _ h => h)) (pa_cons (pv 1) (pa_cons pe_non (pa_cons pe_non pa_nil))))))), ?_⟩
    obtain ⟨hT, hb⟩ := hx
    refine s_retNv (nv_if (b := decide (d = 2)) (by walk_at "ev") (fun _ => ?_) (fun _ => ?_))
    · exact nvp_far (eps_cons mono_is (ep_v (ev_var rfl)) (eps_cons mono_is (ep_v ev_c) (eps_cons mono_is (ep_v ev_c) (eps_cons mono_is (ep_v ev_c) eps_nil)))) (fun vs H1 e hw => by obtain ⟨_, _, rfl, rfl, _, _, rfl, rfl, _, _, rfl, rfl, _, _, rfl, rfl, rfl⟩ := hw; exact ⟨_, _, _, _, rfl, .three (.prime (hT.up (e)) hb)⟩) (fun H' e' => qx H' (e'))
    · exact nvp_both (eps_cons mono_is (ep_v (ev_var rfl)) (eps_cons mono_is (ep_v ev_c) (eps_cons mono_is (ep_v ev_c) eps_nil))) (fun vs H1 e hw => by obtain ⟨_, _, rfl, rfl, _, _, rfl, rfl, _, _, rfl, rfl, rfl⟩ := hw; exact ⟨_, _, _, rfl, .prime (hT.up (e)) hb⟩) (fun H' e' => qx H' (e'))
/-! _law_with_prime -/
def sp__law_with_prime (K : PySem.W.Frag) (C : Addr) : Sp := fun vs H Q E => ∃ (d : Int) (x : V), vs = [.int d, x] ∧ (Thing K H x ∧ primeOk x = false) ∧ ∀ H', Ex H H' → E (.ref C) none H'
theorem ok__law_with_prime (T : Txt K mg) : FnOk P w K mg base (L2N.CX P w) 7 T.a__law_with_prime T.f__law_with_prime ["_law_door", "_law_prime_here"] (sp__law_with_prime K T.a_BadPrime) := by
  refine T.F__law_with_prime.okN sc__law_with_prime (fun vs H Q E h => ?_) (fun cdv A outer s H vs Q E hr h => ?_)
  · obtain ⟨d, x, rfl, _⟩ := h
    rfl
  · obtain ⟨d, x, rfl, hx, qx⟩ := h
    rw [show start ["_law_door", "_law_prime_here"] [.int d, x] = [some (.int d), some x] from rfl]
    refine ⟨_, (pss_cons (ps_if (pt_cmpR op_lt (pv 0) pe_int (nomark _)) (pss_one (ps_ret (pe_ifExp (pt_cmpR op_eq (pv 0) pe_int (nomark _)) (pe_call (ok_makes T) (hr.mono (by decide)) (by rfl) T.g_makes T.F_makes.kp T.b_makes .nil (L2N.passes_call (L2N.takes_of rfl rfl rfl rfl) (fun _ _ _ _ h => h)) (pa_cons (pv 1) (pa_cons pe_int (pa_cons pe_int pa_nil)))) (pe_ifExp (pt_cmpR op_eq (pv 0) pe_int (nomark _)) (pe_call (ok_go_on T) (hr.mono (by decide)) (by rfl) T.g_go_on T.F_go_on.kp T.b_go_on .nil (L2N.passes_call (L2N.takes_of rfl rfl rfl rfl) (fun _ _ _ _ h => h)) (pa_cons (pv 1) (pa_cons pe_int (pa_cons pe_int (pa_cons pe_int pa_nil))))) (pe_call (ok__law_more T) (hr.mono (by decide)) (by rfl) T.g__law_more T.F__law_more.kp T.b__law_more .nil (L2N.passes_call (L2N.takes_of rfl rfl rfl rfl) (fun _ _ _ _ h => h)) (pa_cons (pv 0) (pa_cons (pv 1) pa_nil))))))) pss_nil)
      (pss_cons (ps_if (pt_cmpR op_lt (pv 0) pe_int (nomark _)) (pss_one (ps_ret (pe_ifExp (pt_cmpR op_eq (pv 0) pe_int (nomark _)) (pe_call (ok_backwards T) (hr.mono (by decide)) (by rfl) T.g_backwards T.F_backwards.kp T.b_backwards .nil (L2N.passes_call (L2N.takes_of rfl rfl rfl rfl) (fun _ _ _ _ h => h)) (pa_cons (pv 1) (pa_cons (pe_lst (pa_cons pe_int pa_nil)) pa_nil))) (pe_call (ok_least T) (hr.mono (by decide)) (by rfl) T.g_least T.F_least.kp T.b_least .nil (L2N.passes_call (L2N.takes_of rfl rfl rfl rfl) (fun _ _ _ _ h => h)) (pa_cons (pv 1) (pa_cons pe_int pa_nil)))))) pss_nil)
      (pss_one (ps_ret (pe_ifExp (pt_cmpR op_eq (pv 0) pe_int (nomark _)) (pe_call (ok_unlike T) (hr.mono (by decide)) (by rfl) T.g_unlike T.F_unlike.kp T.b_unlike .nil (L2N.passes_call (L2N.takes_of rfl rfl rfl rfl) (fun _ _ _ _ h => h)) (pa_cons (pv 1) (pa_cons pe_non pa_nil))) (pe_call (ok_written T) (hr.mono (by decide)) (by rfl) T.g_written T.F_written.kp T.b_written .nil (L2N.passes_call (L2N.takes_of rfl rfl rfl rfl) (fun _ _ _ _ h => h)) (pa_cons (pv 1) (pa_cons pe_non pa_nil)))))))), ?_⟩
    obtain ⟨hT, hb⟩ := hx
    refine q_when (b := decide (d < 4)) (by walk_at "ev") (fun _ H2 e2 => ?_) (fun _ H2 e2 => ?_)
    · have hT := hT.up e2
      refine s_retNv (nv_if (b := decide (d = 0)) (by walk_at "ev") (fun _ => ?_) (fun _ => nv_if (b := decide (d = 1)) (by walk_at "ev") (fun _ => ?_) (fun _ => ?_)))
      · exact nvp_makes (eps_cons mono_is (ep_v (ev_var rfl)) (eps_cons mono_is (ep_v ev_c) (eps_cons mono_is (ep_v ev_c) eps_nil))) (fun vs H1 e hw => by obtain ⟨_, _, rfl, rfl, _, _, rfl, rfl, _, _, rfl, rfl, rfl⟩ := hw; exact ⟨_, _, _, rfl, .prime (hT.up (e)) hb⟩) (fun H' e' => qx H' (e2.trans e'))
      · exact nvp_go_on (eps_cons mono_is (ep_v (ev_var rfl)) (eps_cons mono_is (ep_v ev_c) (eps_cons mono_is (ep_v ev_c) (eps_cons mono_is (ep_v ev_c) eps_nil)))) (fun vs H1 e hw => by obtain ⟨_, _, rfl, rfl, _, _, rfl, rfl, _, _, rfl, rfl, _, _, rfl, rfl, rfl⟩ := hw; exact ⟨_, _, _, _, rfl, .three (.prime (hT.up (e)) hb)⟩) (fun H' e' => qx H' (e2.trans e'))
      · exact nv_more (ea_cons (ev_var rfl) (ea_cons (ev_var rfl) ea_nil)) hT hb (fun H' e' => qx H' (e2.trans e'))
    have hT := hT.up e2
    refine q_when (b := decide (d < 6)) (by walk_at "ev") (fun _ H3 e3 => ?_) (fun _ H3 e3 => ?_)
    · have hT := hT.up e3
      refine s_retNv (nv_if (b := decide (d = 4)) (by walk_at "ev") (fun _ => ?_) (fun _ => ?_))
      · exact nvp_backwards (eps_cons mono_is (ep_v (ev_var rfl)) (eps_cons mono_m (ep_m (em_of_l (el_lstI (ns := [0]) (ea_consI ev_c ea_nilI) (by decide)))) eps_nil)) (fun vs H1 e hw => by obtain ⟨_, _, rfl, rfl, _, _, rfl, ⟨_, rfl, hq1⟩, rfl⟩ := hw; exact ⟨_, _, rfl, .prime (hT.up (e)) hb⟩) (fun H' e' => qx H' ((e2.trans e3).trans e'))
      · exact nvp_least (eps_cons mono_is (ep_v (ev_var rfl)) (eps_cons mono_is (ep_v ev_c) eps_nil)) (fun vs H1 e hw => by obtain ⟨_, _, rfl, rfl, _, _, rfl, rfl, rfl⟩ := hw; exact ⟨_, _, rfl, .prime (hT.up (e)) hb⟩) (fun H' e' => qx H' ((e2.trans e3).trans e'))
    have hT := hT.up e3
    refine s_retNv (nv_if (b := decide (d = 6)) (by walk_at "ev") (fun _ => ?_) (fun _ => ?_))
    · exact nvp_unlike (eps_cons mono_is (ep_v (ev_var rfl)) (eps_cons mono_is (ep_v ev_c) eps_nil)) (fun vs H1 e hw => by obtain ⟨_, _, rfl, rfl, _, _, rfl, rfl, rfl⟩ := hw; exact ⟨_, _, rfl, .prime (hT.up (e)) hb⟩) (fun H' e' => qx H' ((e2.trans e3).trans e'))
    · exact nvp_written (eps_cons mono_is (ep_v (ev_var rfl)) (eps_cons mono_is (ep_v ev_c) eps_nil)) (fun vs H1 e hw => by obtain ⟨_, _, rfl, rfl, _, _, rfl, rfl, rfl⟩ := hw; exact ⟨_, _, rfl, .prime (hT.up (e)) hb⟩) (fun H' e' => qx H' ((e2.trans e3).trans e'))
/-! _law_with_rule -/
def sp__law_with_rule (K : PySem.W.Frag) (C : Addr) : Sp := fun vs H Q E => ∃ (d : Int) (x : V), vs = [.int d, x] ∧ (RestsAre K H 5 x false) ∧ ∀ H', Ex H H' → E (.ref C) none H'
theorem ok__law_with_rule (T : Txt K mg) : FnOk P w K mg base (L2N.CX P w) 6 T.a__law_with_rule T.f__law_with_rule ["_law_door", "_law_rule"] (sp__law_with_rule K T.a_BadRule) := by
  refine T.F__law_with_rule.okN sc__law_with_rule (fun vs H Q E h => ?_) (fun cdv A outer s H vs Q E hr h => ?_)
  · obtain ⟨d, x, rfl, _⟩ := h
    rfl
  · obtain ⟨d, x, rfl, hx, qx⟩ := h
    rw [show start ["_law_door", "_law_rule"] [.int d, x] = [some (.int d), some x] from rfl]
    refine ⟨_, (pss_cons (ps_if (pt_cmpR op_lt (pv 0) pe_int (nomark _)) (pss_one (ps_ret (pe_ifExp (pt_cmpR op_eq (pv 0) pe_int (nomark _)) (pe_call (ok_makes T) (hr.mono (by decide)) (by rfl) T.g_makes T.F_makes.kp T.b_makes .nil (L2N.passes_call (L2N.takes_of rfl rfl rfl rfl) (fun _ _ _ _ h => h)) (pa_cons pe_int (pa_cons (pv 1) (pa_cons pe_int pa_nil)))) (pe_ifExp (pt_cmpR op_eq (pv 0) pe_int (nomark _)) (pe_call (ok_go_on T) (hr.mono (by decide)) (by rfl) T.g_go_on T.F_go_on.kp T.b_go_on .nil (L2N.passes_call (L2N.takes_of rfl rfl rfl rfl) (fun _ _ _ _ h => h)) (pa_cons pe_int (pa_cons (pv 1) (pa_cons pe_int (pa_cons pe_non pa_nil))))) (pe_call (ok_far T) (hr.mono (by decide)) (by rfl) T.g_far T.F_far.kp T.b_far .nil (L2N.passes_call (L2N.takes_of rfl rfl rfl rfl) (fun _ _ _ _ h => h)) (pa_cons pe_int (pa_cons (pv 1) (pa_cons pe_non (pa_cons pe_non pa_nil))))))))) pss_nil)
      (pss_cons (ps_if (pt_cmpR op_eq (pv 0) pe_int (nomark _)) (pss_one (ps_ret (pe_call (ok_backwards T) (hr.mono (by decide)) (by rfl) T.g_backwards T.F_backwards.kp T.b_backwards .nil (L2N.passes_call (L2N.takes_of rfl rfl rfl rfl) (fun _ _ _ _ h => h)) (pa_cons pe_int (pa_cons (pv 1) pa_nil))))) pss_nil)
      (pss_one (ps_ret (pe_ifExp (pt_cmpR op_eq (pv 0) pe_int (nomark _)) (pe_call (ok_both T) (hr.mono (by decide)) (by rfl) T.g_both T.F_both.kp T.b_both .nil (L2N.passes_call (L2N.takes_of rfl rfl rfl rfl) (fun _ _ _ _ h => h)) (pa_cons pe_int (pa_cons (pv 1) (pa_cons (pe_lst (pa_cons pe_int pa_nil)) pa_nil)))) (pe_call (ok_both T) (hr.mono (by decide)) (by rfl) T.g_both T.F_both.kp T.b_both .nil (L2N.passes_call (L2N.takes_of rfl rfl rfl rfl) (fun _ _ _ _ h => h)) (pa_cons pe_int (pa_cons (pe_lst (pa_cons pe_int pa_nil)) (pa_cons (pv 1) pa_nil))))))))), ?_⟩
    refine q_when (b := decide (d < 3)) (by walk_at "ev") (fun _ H2 e2 => ?_) (fun _ H2 e2 => ?_)
    · have hx := hx.up e2
      refine s_retNv (nv_if (b := decide (d = 0)) (by walk_at "ev") (fun _ => ?_) (fun _ => nv_if (b := decide (d = 1)) (by walk_at "ev") (fun _ => ?_) (fun _ => ?_)))
      · exact nvp_makes (eps_cons mono_is (ep_v ev_c) (eps_cons mono_is (ep_v (ev_var rfl)) (eps_cons mono_is (ep_v ev_c) eps_nil))) (fun vs H1 e hw => by obtain ⟨_, _, rfl, rfl, _, _, rfl, rfl, _, _, rfl, rfl, rfl⟩ := hw; exact ⟨_, _, _, rfl, .rule (show primeOk (.int 5) = true by decide +kernel) (hx.up e)⟩) (fun H' e' => qx H' (e2.trans e'))
      · exact nvp_go_on (eps_cons mono_is (ep_v ev_c) (eps_cons mono_is (ep_v (ev_var rfl)) (eps_cons mono_is (ep_v ev_c) (eps_cons mono_is (ep_v ev_c) eps_nil)))) (fun vs H1 e hw => by obtain ⟨_, _, rfl, rfl, _, _, rfl, rfl, _, _, rfl, rfl, _, _, rfl, rfl, rfl⟩ := hw; exact ⟨_, _, _, _, rfl, .three (.rule (show primeOk (.int 5) = true by decide +kernel) (hx.up e))⟩) (fun H' e' => qx H' (e2.trans e'))
      · exact nvp_far (eps_cons mono_is (ep_v ev_c) (eps_cons mono_is (ep_v (ev_var rfl)) (eps_cons mono_is (ep_v ev_c) (eps_cons mono_is (ep_v ev_c) eps_nil)))) (fun vs H1 e hw => by obtain ⟨_, _, rfl, rfl, _, _, rfl, rfl, _, _, rfl, rfl, _, _, rfl, rfl, rfl⟩ := hw; exact ⟨_, _, _, _, rfl, .three (.rule (show primeOk (.int 5) = true by decide +kernel) (hx.up e))⟩) (fun H' e' => qx H' (e2.trans e'))
    have hx := hx.up e2
    refine q_when (b := decide (d = 3)) (by walk_at "ev") (fun _ H3 e3 => ?_) (fun _ H3 e3 => ?_)
    · have hx := hx.up e3
      refine s_retNv ?_
      exact nvp_backwards (eps_cons mono_is (ep_v ev_c) (eps_cons mono_is (ep_v (ev_var rfl)) eps_nil)) (fun vs H1 e hw => by obtain ⟨_, _, rfl, rfl, _, _, rfl, rfl, rfl⟩ := hw; exact ⟨_, _, rfl, .row (show primeOk (.int 5) = true by decide +kernel) (hx.up e)⟩) (fun H' e' => qx H' ((e2.trans e3).trans e'))
    have hx := hx.up e3
    refine s_retNv (nv_if (b := decide (d = 4)) (by walk_at "ev") (fun _ => ?_) (fun _ => ?_))
    · exact nvp_both (eps_cons mono_is (ep_v ev_c) (eps_cons mono_is (ep_v (ev_var rfl)) (eps_cons mono_m (ep_m (em_of_l (el_lstI (ns := [1]) (ea_consI ev_c ea_nilI) (by decide)))) eps_nil))) (fun vs H1 e hw => by obtain ⟨_, _, rfl, rfl, _, _, rfl, rfl, _, _, rfl, ⟨_, rfl, hq2⟩, rfl⟩ := hw; exact ⟨_, _, _, rfl, .rule (show primeOk (.int 5) = true by decide +kernel) (hx.up e)⟩) (fun H' e' => qx H' ((e2.trans e3).trans e'))
    · exact nvp_both (eps_cons mono_is (ep_v ev_c) (eps_cons mono_m (ep_m (em_of_l (el_lstI (ns := [1]) (ea_consI ev_c ea_nilI) (by decide)))) (eps_cons mono_is (ep_v (ev_var rfl)) eps_nil))) (fun vs H1 e hw => by obtain ⟨_, _, rfl, rfl, _, _, rfl, ⟨_, rfl, hq1⟩, _, _, rfl, rfl, rfl⟩ := hw; exact ⟨_, _, _, rfl, .row (show primeOk (.int 5) = true by decide +kernel) (rests_il (sq_of hq1) (by decide) (rs_iff.mp (show rs 5 [1] = true by decide))) (hx.up e)⟩) (fun H' e' => qx H' ((e2.trans e3).trans e'))
/-! _law_with_row -/
def sp__law_with_row (K : PySem.W.Frag) (C : Addr) : Sp := fun vs H Q E => ∃ (d : Int) (x : V), vs = [.int d, x] ∧ (RestsAre K H 5 x false) ∧ ∀ H', Ex H H' → E (.ref C) none H'
theorem ok__law_with_row (T : Txt K mg) : FnOk P w K mg base (L2N.CX P w) 6 T.a__law_with_row T.f__law_with_row ["_law_door", "_law_row_here"] (sp__law_with_row K T.a_BadRow) := by
  refine T.F__law_with_row.okN sc__law_with_row (fun vs H Q E h => ?_) (fun cdv A outer s H vs Q E hr h => ?_)
  · obtain ⟨d, x, rfl, _⟩ := h
    rfl
  · obtain ⟨d, x, rfl, hx, qx⟩ := h
    rw [show start ["_law_door", "_law_row_here"] [.int d, x] = [some (.int d), some x] from rfl]
    refine ⟨_, (pss_cons (ps_if (pt_cmpR op_lt (pv 0) pe_int (nomark _)) (pss_one (ps_ret (pe_ifExp (pt_cmpR op_eq (pv 0) pe_int (nomark _)) (pe_call (ok_makes T) (hr.mono (by decide)) (by rfl) T.g_makes T.F_makes.kp T.b_makes .nil (L2N.passes_call (L2N.takes_of rfl rfl rfl rfl) (fun _ _ _ _ h => h)) (pa_cons pe_int (pa_cons (pe_lst (pa_cons pe_int pa_nil)) (pa_cons (pv 1) pa_nil)))) (pe_ifExp (pt_cmpR op_eq (pv 0) pe_int (nomark _)) (pe_call (ok_go_on T) (hr.mono (by decide)) (by rfl) T.g_go_on T.F_go_on.kp T.b_go_on .nil (L2N.passes_call (L2N.takes_of rfl rfl rfl rfl) (fun _ _ _ _ h => h)) (pa_cons pe_int (pa_cons (pe_lst (pa_cons pe_int (pa_cons pe_int pa_nil))) (pa_cons (pv 1) (pa_cons (pe_un un_neg pe_int) pa_nil))))) (pe_call (ok_far T) (hr.mono (by decide)) (by rfl) T.g_far T.F_far.kp T.b_far .nil (L2N.passes_call (L2N.takes_of rfl rfl rfl rfl) (fun _ _ _ _ h => h)) (pa_cons pe_int (pa_cons (pe_lst (pa_cons pe_int pa_nil)) (pa_cons (pv 1) (pa_cons pe_non pa_nil))))))))) pss_nil)
      (pss_one (ps_ret (pe_ifExp (pt_cmpR op_eq (pv 0) pe_int (nomark _)) (pe_call (ok_least T) (hr.mono (by decide)) (by rfl) T.g_least T.F_least.kp T.b_least .nil (L2N.passes_call (L2N.takes_of rfl rfl rfl rfl) (fun _ _ _ _ h => h)) (pa_cons pe_int (pa_cons (pv 1) pa_nil))) (pe_ifExp (pt_cmpR op_eq (pv 0) pe_int (nomark _)) (pe_call (ok_unlike T) (hr.mono (by decide)) (by rfl) T.g_unlike T.F_unlike.kp T.b_unlike .nil (L2N.passes_call (L2N.takes_of rfl rfl rfl rfl) (fun _ _ _ _ h => h)) (pa_cons pe_int (pa_cons (pv 1) pa_nil))) (pe_call (ok_written T) (hr.mono (by decide)) (by rfl) T.g_written T.F_written.kp T.b_written .nil (L2N.passes_call (L2N.takes_of rfl rfl rfl rfl) (fun _ _ _ _ h => h)) (pa_cons pe_int (pa_cons (pv 1) pa_nil)))))))), ?_⟩
    refine q_when (b := decide (d < 3)) (by walk_at "ev") (fun _ H2 e2 => ?_) (fun _ H2 e2 => ?_)
    · have hx := hx.up e2
      refine s_retNv (nv_if (b := decide (d = 0)) (by walk_at "ev") (fun _ => ?_) (fun _ => nv_if (b := decide (d = 1)) (by walk_at "ev") (fun _ => ?_) (fun _ => ?_)))
      · exact nvp_makes (eps_cons mono_is (ep_v ev_c) (eps_cons mono_m (ep_m (em_of_l (el_lstI (ns := [1]) (ea_consI ev_c ea_nilI) (by decide)))) (eps_cons mono_is (ep_v (ev_var rfl)) eps_nil))) (fun vs H1 e hw => by obtain ⟨_, _, rfl, rfl, _, _, rfl, ⟨_, rfl, hq1⟩, _, _, rfl, rfl, rfl⟩ := hw; exact ⟨_, _, _, rfl, .row (show primeOk (.int 5) = true by decide +kernel) (rests_il (sq_of hq1) (by decide) (rs_iff.mp (show rs 5 [1] = true by decide))) (hx.up e)⟩) (fun H' e' => qx H' (e2.trans e'))
      · exact nvp_go_on (eps_cons mono_is (ep_v ev_c) (eps_cons mono_m (ep_m (em_of_l (el_lstI (ns := [1, 2]) (ea_consI ev_c (ea_consI ev_c ea_nilI)) (by decide)))) (eps_cons mono_is (ep_v (ev_var rfl)) (eps_cons mono_is (ep_v (ev_neg ev_c)) eps_nil)))) (fun vs H1 e hw => by obtain ⟨_, _, rfl, rfl, _, _, rfl, ⟨_, rfl, hq1⟩, _, _, rfl, rfl, _, _, rfl, rfl, rfl⟩ := hw; exact ⟨_, _, _, _, rfl, .three (.row (show primeOk (.int 5) = true by decide +kernel) (rests_il (sq_of hq1) (by decide) (rs_iff.mp (show rs 5 [1, 2] = true by decide))) (hx.up e))⟩) (fun H' e' => qx H' (e2.trans e'))
      · exact nvp_far (eps_cons mono_is (ep_v ev_c) (eps_cons mono_m (ep_m (em_of_l (el_lstI (ns := [1]) (ea_consI ev_c ea_nilI) (by decide)))) (eps_cons mono_is (ep_v (ev_var rfl)) (eps_cons mono_is (ep_v ev_c) eps_nil)))) (fun vs H1 e hw => by obtain ⟨_, _, rfl, rfl, _, _, rfl, ⟨_, rfl, hq1⟩, _, _, rfl, rfl, _, _, rfl, rfl, rfl⟩ := hw; exact ⟨_, _, _, _, rfl, .three (.row (show primeOk (.int 5) = true by decide +kernel) (rests_il (sq_of hq1) (by decide) (rs_iff.mp (show rs 5 [1] = true by decide))) (hx.up e))⟩) (fun H' e' => qx H' (e2.trans e'))
    have hx := hx.up e2
    refine s_retNv (nv_if (b := decide (d = 3)) (by walk_at "ev") (fun _ => ?_) (fun _ => nv_if (b := decide (d = 4)) (by walk_at "ev") (fun _ => ?_) (fun _ => ?_)))
    · exact nvp_least (eps_cons mono_is (ep_v ev_c) (eps_cons mono_is (ep_v (ev_var rfl)) eps_nil)) (fun vs H1 e hw => by obtain ⟨_, _, rfl, rfl, _, _, rfl, rfl, rfl⟩ := hw; exact ⟨_, _, rfl, .row (show primeOk (.int 5) = true by decide +kernel) (hx.up e)⟩) (fun H' e' => qx H' (e2.trans e'))
    · exact nvp_unlike (eps_cons mono_is (ep_v ev_c) (eps_cons mono_is (ep_v (ev_var rfl)) eps_nil)) (fun vs H1 e hw => by obtain ⟨_, _, rfl, rfl, _, _, rfl, rfl, rfl⟩ := hw; exact ⟨_, _, rfl, .row (show primeOk (.int 5) = true by decide +kernel) (hx.up e)⟩) (fun H' e' => qx H' (e2.trans e'))
    · exact nvp_written (eps_cons mono_is (ep_v ev_c) (eps_cons mono_is (ep_v (ev_var rfl)) eps_nil)) (fun vs H1 e hw => by obtain ⟨_, _, rfl, rfl, _, _, rfl, rfl, rfl⟩ := hw; exact ⟨_, _, rfl, .row (show primeOk (.int 5) = true by decide +kernel) (hx.up e)⟩) (fun H' e' => qx H' (e2.trans e'))
/-! _law_with_few -/
def sp__law_with_few (K : PySem.W.Frag) (C : Addr) : Sp := fun vs H Q E => ∃ (d : Int) (x : V), vs = [.int d, x] ∧ (∃ (b : Addr) (ms : List Int), x = .ref b ∧ SqL K H b (il ms) ∧ Rs 5 ms ∧ ms.length < 3) ∧ ∀ H', Ex H H' → E (.ref C) none H'
theorem ok__law_with_few (T : Txt K mg) : FnOk P w K mg base (L2N.CX P w) 6 T.a__law_with_few T.f__law_with_few ["_law_door", "_law_row_here"] (sp__law_with_few K T.a_TooFew) := by
  refine T.F__law_with_few.okN sc__law_with_few (fun vs H Q E h => ?_) (fun cdv A outer s H vs Q E hr h => ?_)
  · obtain ⟨d, x, rfl, _⟩ := h
    rfl
  · obtain ⟨d, x, rfl, hx, qx⟩ := h
    rw [show start ["_law_door", "_law_row_here"] [.int d, x] = [some (.int d), some x] from rfl]
    refine ⟨_, (pss_one (ps_ret (pe_ifExp (pt_cmpR op_eq (pv 0) pe_int (nomark _)) (pe_call (ok_go_on T) (hr.mono (by decide)) (by rfl) T.g_go_on T.F_go_on.kp T.b_go_on .nil (L2N.passes_call (L2N.takes_of rfl rfl rfl rfl) (fun _ _ _ _ h => h)) (pa_cons pe_int (pa_cons (pe_lst (pa_cons pe_int (pa_cons pe_int (pa_cons pe_int pa_nil)))) (pa_cons (pv 1) (pa_cons pe_non pa_nil))))) (pe_call (ok_far T) (hr.mono (by decide)) (by rfl) T.g_far T.F_far.kp T.b_far .nil (L2N.passes_call (L2N.takes_of rfl rfl rfl rfl) (fun _ _ _ _ h => h)) (pa_cons pe_int (pa_cons (pe_lst (pa_cons pe_int (pa_cons pe_int (pa_cons pe_int pa_nil)))) (pa_cons (pv 1) (pa_cons (pe_un un_neg pe_int) pa_nil)))))))), ?_⟩
    obtain ⟨b, ms, rfl, h2, r2, l2⟩ := hx
    refine s_retNv (nv_if (b := decide (d = 0)) (by walk_at "ev") (fun _ => ?_) (fun _ => ?_))
    · exact nvp_go_on (eps_cons mono_is (ep_v ev_c) (eps_cons mono_m (ep_m (em_of_l (el_lstI (ns := [1, 2, 3]) (ea_consI ev_c (ea_consI ev_c (ea_consI ev_c ea_nilI))) (by decide)))) (eps_cons mono_is (ep_v (ev_var rfl)) (eps_cons mono_is (ep_v ev_c) eps_nil)))) (fun vs H1 e hw => by obtain ⟨_, _, rfl, rfl, _, _, rfl, ⟨_, rfl, hq1⟩, _, _, rfl, rfl, _, _, rfl, rfl, rfl⟩ := hw; exact ⟨_, _, _, _, rfl, .few ⟨(show primeOk (.int 5) = true by decide +kernel), sq_of hq1, rs_iff.mp (show rs 5 [1, 2, 3] = true by decide), by decide, ex_l e h2, r2, by omega⟩ l2⟩) (fun H' e' => qx H' (e'))
    · exact nvp_far (eps_cons mono_is (ep_v ev_c) (eps_cons mono_m (ep_m (em_of_l (el_lstI (ns := [1, 2, 3]) (ea_consI ev_c (ea_consI ev_c (ea_consI ev_c ea_nilI))) (by decide)))) (eps_cons mono_is (ep_v (ev_var rfl)) (eps_cons mono_is (ep_v (ev_neg ev_c)) eps_nil)))) (fun vs H1 e hw => by obtain ⟨_, _, rfl, rfl, _, _, rfl, ⟨_, rfl, hq1⟩, _, _, rfl, rfl, _, _, rfl, rfl, rfl⟩ := hw; exact ⟨_, _, _, _, rfl, .few ⟨(show primeOk (.int 5) = true by decide +kernel), sq_of hq1, rs_iff.mp (show rs 5 [1, 2, 3] = true by decide), by decide, ex_l e h2, r2, by omega⟩ l2⟩) (fun H' e' => qx H' (e'))
/-! _law_with_place -/
def sp__law_with_place (K : PySem.W.Frag) (C : Addr) : Sp := fun vs H Q E => ∃ (d : Int) (x : V), vs = [.int d, x] ∧ (Thing K H x ∧ placeOk x = false) ∧ ∀ H', Ex H H' → E (.ref C) none H'
theorem ok__law_with_place (T : Txt K mg) : FnOk P w K mg base (L2N.CX P w) 6 T.a__law_with_place T.f__law_with_place ["_law_door", "_law_place"] (sp__law_with_place K T.a_BadPlace) := by
  refine T.F__law_with_place.okN sc__law_with_place (fun vs H Q E h => ?_) (fun cdv A outer s H vs Q E hr h => ?_)
  · obtain ⟨d, x, rfl, _⟩ := h
    rfl
  · obtain ⟨d, x, rfl, hx, qx⟩ := h
    rw [show start ["_law_door", "_law_place"] [.int d, x] = [some (.int d), some x] from rfl]
    refine ⟨_, (pss_one (ps_ret (pe_ifExp (pt_cmpR op_eq (pv 0) pe_int (nomark _)) (pe_call (ok_go_on T) (hr.mono (by decide)) (by rfl) T.g_go_on T.F_go_on.kp T.b_go_on .nil (L2N.passes_call (L2N.takes_of rfl rfl rfl rfl) (fun _ _ _ _ h => h)) (pa_cons pe_int (pa_cons (pe_lst (pa_cons pe_int pa_nil)) (pa_cons (pe_lst (pa_cons pe_int pa_nil)) (pa_cons (pv 1) pa_nil))))) (pe_call (ok_far T) (hr.mono (by decide)) (by rfl) T.g_far T.F_far.kp T.b_far .nil (L2N.passes_call (L2N.takes_of rfl rfl rfl rfl) (fun _ _ _ _ h => h)) (pa_cons pe_int (pa_cons (pe_lst (pa_cons pe_int pa_nil)) (pa_cons (pe_lst (pa_cons pe_int pa_nil)) (pa_cons (pv 1) pa_nil)))))))), ?_⟩
    obtain ⟨hT, hb⟩ := hx
    refine s_retNv (nv_if (b := decide (d = 0)) (by walk_at "ev") (fun _ => ?_) (fun _ => ?_))
    · exact nvp_go_on (eps_cons mono_is (ep_v ev_c) (eps_cons mono_m (ep_m (em_of_l (el_lstI (ns := [1]) (ea_consI ev_c ea_nilI) (by decide)))) (eps_cons mono_m (ep_m (em_of_l (el_lstI (ns := [1]) (ea_consI ev_c ea_nilI) (by decide)))) (eps_cons mono_is (ep_v (ev_var rfl)) eps_nil)))) (fun vs H1 e hw => by obtain ⟨_, _, rfl, rfl, _, _, rfl, ⟨_, rfl, hq1⟩, _, _, rfl, ⟨_, rfl, hq2⟩, _, _, rfl, rfl, rfl⟩ := hw; exact ⟨_, _, _, _, rfl, .place ⟨(show primeOk (.int 5) = true by decide +kernel), sq_of hq1, rs_iff.mp (show rs 5 [1] = true by decide), by decide, sq_of hq2, rs_iff.mp (show rs 5 [1] = true by decide), by decide⟩ (by decide) (hT.up e) hb⟩) (fun H' e' => qx H' (e'))
    · exact nvp_far (eps_cons mono_is (ep_v ev_c) (eps_cons mono_m (ep_m (em_of_l (el_lstI (ns := [1]) (ea_consI ev_c ea_nilI) (by decide)))) (eps_cons mono_m (ep_m (em_of_l (el_lstI (ns := [1]) (ea_consI ev_c ea_nilI) (by decide)))) (eps_cons mono_is (ep_v (ev_var rfl)) eps_nil)))) (fun vs H1 e hw => by obtain ⟨_, _, rfl, rfl, _, _, rfl, ⟨_, rfl, hq1⟩, _, _, rfl, ⟨_, rfl, hq2⟩, _, _, rfl, rfl, rfl⟩ := hw; exact ⟨_, _, _, _, rfl, .place ⟨(show primeOk (.int 5) = true by decide +kernel), sq_of hq1, rs_iff.mp (show rs 5 [1] = true by decide), by decide, sq_of hq2, rs_iff.mp (show rs 5 [1] = true by decide), by decide⟩ (by decide) (hT.up e) hb⟩) (fun H' e' => qx H' (e'))
/-! _law_kinds -/
def sp__law_kinds (K : PySem.W.Frag) (c1 c2 c3 c4 c5 c6 c7 : Addr) : Addr × Obj → Sp := fun p vs H Q _ => ∃ (D : Addr) (b1 b2 b3 b4 b5 b6 b7 b8 : Bool), vs = [.ref p.1] ∧ Zc (.ref D) none p.2 ∧ (∃ us, p.2.data = .fields us) ∧ Kinds K c1 c2 c3 c4 c5 c6 c7 D b1 b2 b3 b4 b5 b6 b7 b8 ∧ RetL (bls [b1, b2, b3, b4, b5, b6, b7, b8]) H Q
/-- the same, the object untold -/
def spK__law_kinds (K : PySem.W.Frag) (c1 c2 c3 c4 c5 c6 c7 : Addr) (a : Addr) (cls : Value) (d : Option Addr) : Sp := fun vs H Q _ => ∃ (D : Addr) (b1 b2 b3 b4 b5 b6 b7 b8 : Bool), vs = [.ref a] ∧ cls = .ref D ∧ d = none ∧ Kinds K c1 c2 c3 c4 c5 c6 c7 D b1 b2 b3 b4 b5 b6 b7 b8 ∧ RetL (bls [b1, b2, b3, b4, b5, b6, b7, b8]) H Q
theorem kinds_of {K : PySem.W.Frag} {c1 c2 c3 c4 c5 c6 c7 a : Addr} {oe : Obj} {cls : Value} {d : Option Addr} (hz : L2N.Zn cls d oe) (hf : ∃ vs, oe.data = .fields vs) : ∀ vs H Q E, spK__law_kinds K c1 c2 c3 c4 c5 c6 c7 a cls d vs H Q E → sp__law_kinds K c1 c2 c3 c4 c5 c6 c7 (a, oe) vs H Q E := by
  rintro vs H Q E ⟨D, b1, b2, b3, b4, b5, b6, b7, b8, rfl, rfl, rfl, k, q⟩
  exact ⟨D, b1, b2, b3, b4, b5, b6, b7, b8, rfl, hz.zc, hf, k, q⟩
theorem ok__law_kinds (T : Txt K mg) : L2H.FnHP P w K mg base CX0 3 T.a__law_kinds T.f__law_kinds ["_law_error"] (sp__law_kinds K T.a_BadPrime T.a_BadRule T.a_BadRow T.a_TooFew T.a_BadPlace T.a_NoWay T.a_BadText) := by
  obtain ⟨oc, od, kV, doc, pm, an, cdv, ct, osl, hfd, lk, hcd⟩ := T.F__law_kinds.ex
  rw [hfd] at lk ⊢
  refine L2H.fn_ofHP lk hcd sc__law_kinds (fun p vs H Q E h => ?_) (fun A outer s H vs Q E p hot hr h => ?_)
  · obtain ⟨D, b1, b2, b3, b4, b5, b6, b7, b8, rfl, _⟩ := h
    rfl
  · obtain ⟨D, b1, b2, b3, b4, b5, b6, b7, b8, rfl, hz, hf, k, q⟩ := h
    refine ⟨_, (pss_cons (ps_set (i := 1) sc__law_kinds.nd rfl (.inl rfl) (pe_lst (pa_cons (L2H.x_isP K rfl (p := p) (D := D) List.mem_cons_self k.xc hz hf T.n_isinstance (by rfl) (pa_cons (pv 0) (pa_cons (pe_glob (v := .ref T.a_BadPrime) (by rfl) T.g_BadPrime rfl) pa_nil))) (pa_cons (L2H.x_isP K rfl (p := p) (D := D) List.mem_cons_self k.xc hz hf T.n_isinstance (by rfl) (pa_cons (pv 0) (pa_cons (pe_glob (v := .ref T.a_BadRule) (by rfl) T.g_BadRule rfl) pa_nil))) (pa_cons (L2H.x_isP K rfl (p := p) (D := D) List.mem_cons_self k.xc hz hf T.n_isinstance (by rfl) (pa_cons (pv 0) (pa_cons (pe_glob (v := .ref T.a_BadRow) (by rfl) T.g_BadRow rfl) pa_nil))) pa_nil)))))
      (pss_cons (ps_set (i := 1) sc__law_kinds.nd rfl (.inl rfl) (pe_op op_cat (pv 1) (pe_lst (pa_cons (L2H.x_isP K rfl (p := p) (D := D) List.mem_cons_self k.xc hz hf T.n_isinstance (by rfl) (pa_cons (pv 0) (pa_cons (pe_glob (v := .ref T.a_TooFew) (by rfl) T.g_TooFew rfl) pa_nil))) (pa_cons (L2H.x_isP K rfl (p := p) (D := D) List.mem_cons_self k.xc hz hf T.n_isinstance (by rfl) (pa_cons (pv 0) (pa_cons (pe_glob (v := .ref T.a_BadPlace) (by rfl) T.g_BadPlace rfl) pa_nil))) (pa_cons (L2H.x_isP K rfl (p := p) (D := D) List.mem_cons_self k.xc hz hf T.n_isinstance (by rfl) (pa_cons (pv 0) (pa_cons (pe_glob (v := .ref T.a_NoWay) (by rfl) T.g_NoWay rfl) pa_nil))) pa_nil))))))
      (pss_one (ps_ret (pe_op op_cat (pv 1) (pe_lst (pa_cons (L2H.x_isP K rfl (p := p) (D := D) List.mem_cons_self k.xc hz hf T.n_isinstance (by rfl) (pa_cons (pv 0) (pa_cons (pe_glob (v := .ref T.a_BadText) (by rfl) T.g_BadText rfl) pa_nil))) (pa_cons (L2H.x_isP K rfl (p := p) (D := D) List.mem_cons_self k.xc hz hf T.n_isinstance (by rfl) (pa_cons (pv 0) (pa_cons (x_ty "ValueError" T.n_ValueError (by rfl) (by decide +kernel)) pa_nil))) pa_nil)))))))), ?_⟩
    rw [show start ["_law_error", "_law_found"] [.ref p.1] = [some (.ref p.1), none] from rfl]
    have own : ∀ {C : Addr}, ∀ u, RelV (.ref C) u → u = .ref C := fun _ r => r
    have own2 : ∀ u, RelV (.ty "ValueError") u → u = .type "ValueError" := fun _ r => r
    refine q_asgL (i := 1) (xs := [.bl b1, .bl b2, .bl b3]) ?_ fun l1 H2 n1 e2 h1 => ?_
    · exact el_lst (ea_cons (ev_isP (ev_var rfl) ev_c own k.h1) (ea_cons (ev_isP (ev_var rfl) ev_c own k.h2) (ea_cons (ev_isP (ev_var rfl) ev_c own k.h3) ea_nil))) (by simp)
    refine q_asgL (i := 1) (xs := [.bl b1, .bl b2, .bl b3] ++ [.bl b4, .bl b5, .bl b6]) ?_ fun l2 H3 n2 e3 h2 => ?_
    · refine el_cat (xs := [.bl b1, .bl b2, .bl b3]) (ys := [.bl b4, .bl b5, .bl b6]) (em_v (ev_var (by rfl)) h1) (em_of_l ?_) (by simp)
      refine el_lst ?_ (by simp)
      exact ea_cons (ev_isP (ev_var rfl) ev_c own k.h4) (ea_cons (ev_isP (ev_var rfl) ev_c own k.h5) (ea_cons (ev_isP (ev_var rfl) ev_c own k.h6) ea_nil))
    refine s_retL (xs := ([.bl b1, .bl b2, .bl b3] ++ [.bl b4, .bl b5, .bl b6]) ++ [.bl b7, .bl b8]) ?_ fun z G nz eG hz => q z G (fresh_back (e2.trans e3) nz) ((e2.trans e3).trans eG) hz
    apply el_cat
    · exact em_v (ev_var rfl) h2
    · apply em_of_l
      refine el_lst ?_ (by simp)
      exact ea_cons (ev_isP (ev_var rfl) ev_c own k.h7) (ea_cons (ev_isP (ev_var rfl) ev_c own2 k.h8) ea_nil)
    · simp
/-! _law_told -/
def Asks (P : Program) (w : World) (K : PySem.W.Frag) (mg : Str → Option Value) (base : Heap) (f : Addr) (one other : V) (C : Addr) (H : Hp) : Prop := ∃ sp : Sp, HeldN P w K mg base 9 f sp ∧ ∀ H1, Ex H H1 → ∀ (Q' : VK) (E' : XK), (∀ H', Ex H1 H' → E' (.ref C) none H') → sp [one, other] H1 Q' E'
def sp__law_told (K : PySem.W.Frag) (P : Program) (w : World) (mg : Str → Option Value) (base : Heap) (c1 c2 c3 c4 c5 c6 c7 cE : Addr) : Sp := fun vs H Q _ => ∃ (f : Addr) (one other : V) (C : Addr) (b1 b2 b3 b4 b5 b6 b7 b8 : Bool), vs = [.ref f, one, other] ∧ Asks P w K mg base f one other C H ∧
  PySem.W.exmOne K (.ref C) (.ref cE) = some true ∧ Kinds K c1 c2 c3 c4 c5 c6 c7 C b1 b2 b3 b4 b5 b6 b7 b8 ∧ RetL (bls [b1, b2, b3, b4, b5, b6, b7, b8]) H Q

theorem Asks.up {P : Program} {w : World} {K : PySem.W.Frag} {mg : Str → Option Value} {base : Heap} {f : Addr} {one other : V} {C : Addr} {H H' : Hp} (h : Asks P w K mg base f one other C H) (e : Ex H H') : Asks P w K mg base f one other C H' := by
  obtain ⟨sp, h1, h2⟩ := h
  exact ⟨sp, h1, fun H1 e1 => h2 H1 (e.trans e1)⟩
theorem el_told {P : Program} {w : World} {K : PySem.W.Frag} {mg : Str → Option Value} {base : Heap} {c1 c2 c3 c4 c5 c6 c7 cE f C : Addr} {one other : V} {b1 b2 b3 b4 b5 b6 b7 b8 : Bool} {σ : L2.St} {H : Hp} {E : XK} {ta : TA} (h : EvA ta σ H [.ref f, one, other]) (ha : Asks P w K mg base f one other C H)
    (hx : PySem.W.exmOne K (.ref C) (.ref cE) = some true) (k : Kinds K c1 c2 c3 c4 c5 c6 c7 C b1 b2 b3 b4 b5 b6 b7 b8) : EvL (tCall (sp__law_told K P w mg base c1 c2 c3 c4 c5 c6 c7 cE) [] E ta) σ H (bls [b1, b2, b3, b4, b5, b6, b7, b8]) := fun H1 e Q q =>
  h H1 e _ fun H2 e2 => ⟨f, one, other, C, b1, b2, b3, b4, b5, b6, b7, b8, rfl, ha.up (e.trans e2), hx, k, fun p H3 np e3 hp => q p H3 (fresh_back e2 np) (e2.trans e3) hp⟩
theorem ok__law_told (T : Txt K mg) : FnOk P w K mg base CX0 10 T.a__law_told T.f__law_told ["_law_ask", "_law_one", "_law_other"] (sp__law_told K P w mg base T.a_BadPrime T.a_BadRule T.a_BadRow T.a_TooFew T.a_BadPlace T.a_NoWay T.a_BadText T.a_RuleError) := by
  refine T.F__law_told.ok sc__law_told (fun vs H Q E h => ?_) (fun cdv A outer s H vs Q E hr h => ?_)
  · obtain ⟨f, one, other, C, b1, b2, b3, b4, b5, b6, b7, b8, rfl, _⟩ := h
    rfl
  · obtain ⟨f, one, other, C, b1, b2, b3, b4, b5, b6, b7, b8, rfl, ⟨sp, hh, hsp⟩, hx, k, q⟩ := h
    rw [show start ["_law_ask", "_law_one", "_law_other", "_law_error"] [.ref f, one, other] = [some (.ref f), some one, some other, none] from rfl]
    refine ⟨_, (pss_cons (L2N.ps_try_as (i := 3) (Wout := fun _ _ _ _ => False) rfl rfl sc__law_told.nd rfl rfl ⟨rfl, by decide, .inl T.g_RuleError⟩ takesN0 (fun W pn xe tk _ => (pss_one (ps_expr (pe_callAS (i := 0) (R := HeldN P w K mg base 9) (fun _ _ h => h) (hr.mono (by decide)) rfl (.inl rfl) (fun σ => L2N.passAt tk σ) (pa_cons (pv 1) (pa_cons (pv 2) pa_nil)))))) (fun a oe cls d pn hz hf => (pss_one (ps_ret (L2H.pe_callK hz hf (spK := spK__law_kinds K T.a_BadPrime T.a_BadRule T.a_BadRow T.a_TooFew T.a_BadPlace T.a_NoWay T.a_BadText a cls d) (ok__law_kinds T) (kinds_of hz hf) (L2H.roomH_of (hr.mono (by decide))) (by rfl) T.g__law_kinds T.F__law_kinds.kp T.b__law_kinds (pa_cons (pv 3) pa_nil))))))
      (pss_one (ps_ret (pe_lst pa_nil)))), ?_⟩
    refine ⟨f, sp, rfl, hh, ?_⟩
    refine (ea_cons (ev_var rfl) (ea_cons (ev_var rfl) ea_nil)) H (Ex.refl H) _ fun H1 e1 => ?_
    refine hsp H1 e1 _ _ fun H2 e2 => ⟨true, hx, fun _ x nx => ?_, fun z => by cases z⟩
    show tCons (tVar 3) tNil [some (.ref f), some one, some other, some (.ref x)] H2 (fun vs H3 => spK__law_kinds K T.a_BadPrime T.a_BadRule T.a_BadRow T.a_TooFew T.a_BadPlace T.a_NoWay T.a_BadText x (.ref C) none vs H3 Q E0)
    refine (show EvA (tCons (tVar 3) tNil) [some (.ref f), some one, some other, some (.ref x)] H2 [.ref x] from ea_cons (ev_var rfl) ea_nil) H2 (Ex.refl H2) _ fun H3 e3 => ?_
    exact ⟨C, b1, b2, b3, b4, b5, b6, b7, b8, rfl, rfl, rfl, k, fun z G nz eG hz => q z G (fresh_back ((e1.trans e2).trans e3) nz) (((e1.trans e2).trans e3).trans eG) hz⟩
/-! _law_all -/
def sp__law_all (K : PySem.W.Frag) (P : Program) (w : World) (mg : Str → Option Value) (base : Heap) (c1 c2 c3 c4 c5 c6 c7 cE : Addr) : Sp := fun vs H Q _ => ∃ (f ad at_ au : Addr) (ds : List Int) (xs : List V) (C : Addr) (b1 b2 b3 b4 b5 b6 b7 b8 : Bool), vs = [.ref f, .ref ad, .ref at_, .ref au] ∧
  SqL K H ad (il ds) ∧ SqL K H at_ xs ∧ SqL K H au (bls [b1, b2, b3, b4, b5, b6, b7, b8]) ∧ xs.length ≤ 1000 ∧ PySem.W.exmOne K (.ref C) (.ref cE) = some true ∧ Kinds K c1 c2 c3 c4 c5 c6 c7 C b1 b2 b3 b4 b5 b6 b7 b8 ∧
  (∀ d ∈ ds, ∀ x ∈ xs, Asks P w K mg base f (.int d) x C H) ∧ RetV (.bl true) H Q
theorem ev_all {P : Program} {w : World} {K : PySem.W.Frag} {mg : Str → Option Value} {base : Heap} {c1 c2 c3 c4 c5 c6 c7 cE f C : Addr} {ds : List Int} {φ : Wd} {b1 b2 b3 b4 b5 b6 b7 b8 : Bool} {σ : L2.St} {H : Hp} {E : XK} {ta : TA}
    (h : EvPs ta σ H [wIs (.ref f), wL K (il ds), wThings K φ, wL K (bls [b1, b2, b3, b4, b5, b6, b7, b8])]) (hx : PySem.W.exmOne K (.ref C) (.ref cE) = some true) (k : Kinds K c1 c2 c3 c4 c5 c6 c7 C b1 b2 b3 b4 b5 b6 b7 b8)
    (ha : ∀ H1, Ex H H1 → ∀ d ∈ ds, ∀ x, φ x H1 → Asks P w K mg base f (.int d) x C H1) : Ev (tCall (sp__law_all K P w mg base c1 c2 c3 c4 c5 c6 c7 cE) [] E ta) σ H (.bl true) := fun H1 e Q q =>
  h H1 e _ fun vs H2 e2 hv => by
    obtain ⟨_, _, rfl, rfl, _, _, rfl, ⟨ad, rfl, hd⟩, _, _, rfl, ⟨at_, xs, rfl, ht, hl, hp⟩, _, _, rfl, ⟨au, rfl, hu⟩, rfl⟩ := hv
    exact ⟨f, ad, at_, au, ds, xs, C, b1, b2, b3, b4, b5, b6, b7, b8, rfl, hd, ht, hu, hl, hx, k, fun d hd x hx => ha H2 (e.trans e2) d hd x (hp x hx), fun H3 e3 => q H3 (e2.trans e3)⟩
theorem ok__law_all (T : Txt K mg) : FnOk P w K mg base CX0 11 T.a__law_all T.f__law_all ["_law_ask", "_law_doors", "_law_things", "_law_due_here"] (sp__law_all K P w mg base T.a_BadPrime T.a_BadRule T.a_BadRow T.a_TooFew T.a_BadPlace T.a_NoWay T.a_BadText T.a_RuleError) := by
  refine T.F__law_all.ok sc__law_all (fun vs H Q E h => ?_) (fun cdv A outer s H vs Q E hr h => ?_)
  · obtain ⟨f, ad, at_, au, ds, xs, C, b1, b2, b3, b4, b5, b6, b7, b8, rfl, _⟩ := h
    rfl
  · obtain ⟨f, ad, at_, au, ds, xs, C, b1, b2, b3, b4, b5, b6, b7, b8, rfl, hd, ht, hu, hl, hxm, k, hk, q⟩ := h
    rw [show start ["_law_ask", "_law_doors", "_law_things", "_law_due_here", "_law_door", "_law_thing"] [.ref f, .ref ad, .ref at_, .ref au] = [some (.ref f), some (.ref ad), some (.ref at_), some (.ref au), none, none] from rfl]
    refine ⟨_, (pss_cons (ps_for PassesOwn.never rfl (xi_list K rfl (pv 1)) (pg_name (i := 4) sc__law_all.nd rfl (.inr rfl)) (pss_one (ps_if (pt_not (pt_val (x_all K rfl rfl T.n_all (by rfl) (pa_cons (pe_lc (own := [("_law_thing", 5)]) (g := (gName 5)) (tt := tYes) rfl sc__law_all.nd (xi_list K rfl (pv 2)) (blkOk_by (N := ["_law_ask", "_law_doors", "_law_things", "_law_due_here", "_law_door", "_law_thing"]) (sc := defScope s__law_all) (by decide +kernel)) (fun _ _ _ _ _ => (pg_name (i := 5) sc__law_all.nd rfl (Or.inl rfl))) (fun _ _ _ _ _ => pts_nil) (fun _ _ _ _ _ => (x_eqD K rfl hr.units (pe_call (ok__law_told (P := P) (w := w) (base := base) T) (hr.mono (by decide)) (by rfl) T.g__law_told T.F__law_told.kp T.b__law_told .nil pass0 (pa_cons (pv 0) (pa_cons (pv 4) (pa_cons (pv 5) pa_nil)))) (pv 3)))) pa_nil)))) (pss_one (ps_ret pe_bl)) pss_nil)))
      (pss_one (ps_ret pe_bl))), ?_⟩
    refine q_forL (a := ad) (xs := il ds) (ev_var rfl) hd (fun i σ' H' => ∃ x4, σ' = [some (.ref f), some (.ref ad), some (.ref at_), some (.ref au), x4, none] ∧ Ex H H') (fun H1 e1 => ⟨none, rfl, e1⟩) (fun i σ' H' _ ⟨x4, _, e⟩ => ex_l e hd) ?_ ?_
    · rintro i x σ' H1 hx ⟨x4, rfl, e1⟩
      obtain ⟨d, hdm, rfl⟩ : ∃ d, d ∈ ds ∧ x = .int d := by
        have := List.mem_of_getElem? hx
        obtain ⟨d, h1, h2⟩ := List.mem_map.mp this
        exact ⟨d, h1, h2.symm⟩
      refine s_skip (b := false) ?_ rfl fun H2 e2 => ⟨some (.int d), rfl, e1.trans e2⟩
      refine et_is (et_not (et_B (ev_allR (bs := xs.map fun _ => true) (er_of_l (el_is (el_lcV (xs := xs) (fun _ => .bl true) (er_var rfl (ex_l e1 ht)) (by omega) (fun _ => rfl) ?_) ?_))))) ?_
      · intro x H3 e3 hx
        refine ev_is (ev_eqBs (ms := [b1, b2, b3, b4, b5, b6, b7, b8]) (ns := [b1, b2, b3, b4, b5, b6, b7, b8]) (er_of_l (el_told (ea_cons (ev_var rfl) (ea_cons (ev_var rfl) (ea_cons (ev_var rfl) ea_nil))) ((hk d hdm x hx).up (e1.trans e3)) hxm k)) (er_var rfl (ex_l (e1.trans e3) hu))) ?_
        rw [decide_eq_true rfl]
      · unfold bls
        rw [List.map_map]
        rfl
      · rw [List.all_map]
        simp
    · rintro σ' H1 ⟨x4, rfl, e1⟩
      exact s_ret (v := .bl true) ev_c fun H2 e2 => q H2 (e1.trans e2)
/-! law -/
theorem kinds_BadPrime (T : Txt K mg) : Kinds K T.a_BadPrime T.a_BadRule T.a_BadRow T.a_TooFew T.a_BadPlace T.a_NoWay T.a_BadText T.a_BadPrime true false false false false false false true := ⟨T.xc_BadPrime, T.isa_BadPrime_BadPrime, T.isa_BadPrime_BadRule, T.isa_BadPrime_BadRow, T.isa_BadPrime_TooFew, T.isa_BadPrime_BadPlace, T.isa_BadPrime_NoWay, T.isa_BadPrime_BadText, T.isa_BadPrime_ValueError⟩
theorem kinds_BadRule (T : Txt K mg) : Kinds K T.a_BadPrime T.a_BadRule T.a_BadRow T.a_TooFew T.a_BadPlace T.a_NoWay T.a_BadText T.a_BadRule false true false false false false false true := ⟨T.xc_BadRule, T.isa_BadRule_BadPrime, T.isa_BadRule_BadRule, T.isa_BadRule_BadRow, T.isa_BadRule_TooFew, T.isa_BadRule_BadPlace, T.isa_BadRule_NoWay, T.isa_BadRule_BadText, T.isa_BadRule_ValueError⟩
theorem kinds_BadRow (T : Txt K mg) : Kinds K T.a_BadPrime T.a_BadRule T.a_BadRow T.a_TooFew T.a_BadPlace T.a_NoWay T.a_BadText T.a_BadRow false false true false false false false true := ⟨T.xc_BadRow, T.isa_BadRow_BadPrime, T.isa_BadRow_BadRule, T.isa_BadRow_BadRow, T.isa_BadRow_TooFew, T.isa_BadRow_BadPlace, T.isa_BadRow_NoWay, T.isa_BadRow_BadText, T.isa_BadRow_ValueError⟩
theorem kinds_TooFew (T : Txt K mg) : Kinds K T.a_BadPrime T.a_BadRule T.a_BadRow T.a_TooFew T.a_BadPlace T.a_NoWay T.a_BadText T.a_TooFew false false false true false false false true := ⟨T.xc_TooFew, T.isa_TooFew_BadPrime, T.isa_TooFew_BadRule, T.isa_TooFew_BadRow, T.isa_TooFew_TooFew, T.isa_TooFew_BadPlace, T.isa_TooFew_NoWay, T.isa_TooFew_BadText, T.isa_TooFew_ValueError⟩
theorem kinds_BadPlace (T : Txt K mg) : Kinds K T.a_BadPrime T.a_BadRule T.a_BadRow T.a_TooFew T.a_BadPlace T.a_NoWay T.a_BadText T.a_BadPlace false false false false true false false true := ⟨T.xc_BadPlace, T.isa_BadPlace_BadPrime, T.isa_BadPlace_BadRule, T.isa_BadPlace_BadRow, T.isa_BadPlace_TooFew, T.isa_BadPlace_BadPlace, T.isa_BadPlace_NoWay, T.isa_BadPlace_BadText, T.isa_BadPlace_ValueError⟩
theorem kinds_NoWay (T : Txt K mg) : Kinds K T.a_BadPrime T.a_BadRule T.a_BadRow T.a_TooFew T.a_BadPlace T.a_NoWay T.a_BadText T.a_NoWay false false false false false true false true := ⟨T.xc_NoWay, T.isa_NoWay_BadPrime, T.isa_NoWay_BadRule, T.isa_NoWay_BadRow, T.isa_NoWay_TooFew, T.isa_NoWay_BadPlace, T.isa_NoWay_NoWay, T.isa_NoWay_BadText, T.isa_NoWay_ValueError⟩
theorem held__law_with_prime (T : Txt K mg) : HeldN P w K mg base 9 T.a__law_with_prime (sp__law_with_prime K T.a_BadPrime) := ⟨_, _, (ok__law_with_prime T).mono (by decide), T.F__law_with_prime.kp, T.b__law_with_prime⟩
theorem held__law_with_rule (T : Txt K mg) : HeldN P w K mg base 9 T.a__law_with_rule (sp__law_with_rule K T.a_BadRule) := ⟨_, _, (ok__law_with_rule T).mono (by decide), T.F__law_with_rule.kp, T.b__law_with_rule⟩
theorem held__law_with_row (T : Txt K mg) : HeldN P w K mg base 9 T.a__law_with_row (sp__law_with_row K T.a_BadRow) := ⟨_, _, (ok__law_with_row T).mono (by decide), T.F__law_with_row.kp, T.b__law_with_row⟩
theorem held__law_with_few (T : Txt K mg) : HeldN P w K mg base 9 T.a__law_with_few (sp__law_with_few K T.a_TooFew) := ⟨_, _, (ok__law_with_few T).mono (by decide), T.F__law_with_few.kp, T.b__law_with_few⟩
theorem held__law_with_place (T : Txt K mg) : HeldN P w K mg base 9 T.a__law_with_place (sp__law_with_place K T.a_BadPlace) := ⟨_, _, (ok__law_with_place T).mono (by decide), T.F__law_with_place.kp, T.b__law_with_place⟩
theorem held_backwards (T : Txt K mg) : HeldN P w K mg base 9 T.a_backwards (sp_backwards K T.a_BadPrime T.a_BadRule T.a_NoWay) := ⟨_, _, (ok_backwards T).mono (by decide), T.F_backwards.kp, T.b_backwards⟩

theorem el_goOk {K : PySem.W.Frag} {cP cR cW cF cB : Addr} {σ : L2.St} {H : Hp} {E : XK} {ta : TA} {p m : Int} {ns ms : List Int} (h : EvPs ta σ H [wIs (.int p), wL K (il ns), wL K (il ms), wIs (.int m)]) (hp : Good p ∧ primeOk (.int p) = true) (h1 : Rs p ns ∧ Rs p ms) (hl : ns.length ≤ ms.length ∧ ms.length ≤ 500) (hm : 0 ≤ m ∧ m ≤ 500) : EvL (tCall (sp_go_on K cP cR cW cF cB) [] E ta) σ H (il (goF p ns ms m.toNat)) := fun H1 e Q q =>
  h H1 e _ fun vs H2 e2 hv => by
    obtain ⟨_, _, rfl, rfl, _, _, rfl, ⟨a, rfl, ha⟩, _, _, rfl, ⟨b, rfl, hb⟩, _, _, rfl, rfl, rfl⟩ := hv
    exact ⟨_, _, _, _, rfl, .inr ⟨p, m, a, b, ns, ms, rfl, rfl, rfl, rfl, ⟨hp.2, ha, h1.1, by omega, hb, h1.2, by omega⟩, hp.1, hl.1, hl.2, hm.1, hm.2, fun z H3 nz e3 hz => q z H3 (fresh_back e2 nz) (e2.trans e3) hz⟩⟩
theorem el_backOk {K : PySem.W.Frag} {cP cR cN : Addr} {σ : L2.St} {H : Hp} {E : XK} {ta : TA} {p : Int} {ns : List Int} (h : EvPs ta σ H [wIs (.int p), wL K (il ns)]) (hp : Good p ∧ primeOk (.int p) = true) (h1 : Rs p ns ∧ ns.length ≤ 200) (hn : ¬ NoBack ns) : EvL (tCall (sp_backwards K cP cR cN) [] E ta) σ H (il (backF p ns)) := fun H1 e Q q =>
  h H1 e _ fun vs H2 e2 hv => by
    obtain ⟨_, _, rfl, rfl, _, _, rfl, ⟨a, rfl, ha⟩, rfl⟩ := hv
    exact ⟨_, _, rfl, .inr ⟨p, a, ns, rfl, rfl, ha, ⟨hp.1, h1.1, h1.2⟩, hp.2, fun z => absurd z hn, fun _ z H3 nz e3 hz => q z H3 (fresh_back e2 nz) (e2.trans e3) hz⟩⟩
def sp_law (K : PySem.W.Frag) : Sp := fun vs H Q _ => ∃ (a : Addr) (ns : List Int), vs = [.ref a] ∧ SqL K H a (il ns) ∧ ns.length ≤ 63 ∧ ∀ H', Q (.bl true) H'
theorem law_start {K : PySem.W.Frag} {H : Hp} {a : Addr} {ns : List Int} {E : XK} (hl : ns.length ≤ 63) (hS : SqL K H a (ns.map V.int)) : sp_law K [.ref a] H (fun v _ => v = .bl true) E := ⟨a, ns, rfl, hS, hl, fun _ => rfl⟩
theorem ok_law (T : Txt K mg) : FnOk P w K mg base CX0 12 T.a_law T.f_law ["_law_script"] (sp_law K) := by
  refine T.F_law.ok sc_law (fun vs H Q E h => ?_) (fun cdv A outer s H vs Q E hr h => ?_)
  · obtain ⟨a, ns, rfl, _⟩ := h
    rfl
  · obtain ⟨a, ns, rfl, hS, hlen, q⟩ := h
    rw [show start ["_law_script", "_law_far_one", "_law_due_here", "_law_k", "_law_primes", "_law_row_here", "_law_kept", "_law_many", "_law_bad", "_law_at", "_law_rule"] [.ref a] = [some (.ref a), none, none, none, none, none, none, none, none, none, none] from rfl]
    refine ⟨_, (pss_cons (ps_set (i := 1) sc_law.nd rfl (.inl rfl) (pe_op op_mod (pe_call (ok__law_cell_at T) (hr.mono (by decide)) (by rfl) T.g__law_cell_at T.F__law_cell_at.kp T.b__law_cell_at .nil pass0 (pa_cons (pv 0) (pa_cons pe_int pa_nil))) (pe_op op_pow pe_int pe_int)))
      (pss_cons (ps_set (i := 2) sc_law.nd rfl (.inl rfl) (pe_lst pa_nil))
      (pss_cons (ps_for PassesOwn.never rfl (pi_range1 (by rfl) T.n_range (pa_cons pe_int pa_nil)) (pg_name (i := 3) sc_law.nd rfl (.inl rfl)) (pss_one (ps_expr (x_append K rfl (pv 2) (pa_cons (pe_lst (pa_cons (pe_cmpR op_eq (pv 3) pe_int (nomark _)) (pa_cons (pe_cmpR op_eq (pv 3) pe_int (nomark _)) (pa_cons (pe_cmpR op_eq (pv 3) pe_int (nomark _)) (pa_cons (pe_cmpR op_eq (pv 3) pe_int (nomark _)) (pa_cons (pe_cmpR op_eq (pv 3) pe_int (nomark _)) (pa_cons (pe_cmpR op_eq (pv 3) pe_int (nomark _)) (pa_cons pe_bl (pa_cons pe_bl pa_nil))))))))) pa_nil)))))
      (pss_cons (ps_set (i := 4) sc_law.nd rfl (.inl rfl) (pe_lst (pa_cons pe_non (pa_cons pe_str (pa_cons pe_int (pa_cons pe_int (pa_cons (pe_un un_neg pe_int) (pa_cons pe_int (pa_cons pe_int (pa_cons pe_int (pa_cons pe_int (pa_cons pe_int (pa_cons pe_int (pa_cons pe_int (pa_cons (pe_op op_add pe_int (pv 1)) (pa_cons pe_bl (pa_cons (pe_lst (pa_cons pe_int pa_nil)) (pa_cons (pe_op op_sub (pe_un un_neg pe_int) (pv 1)) pa_nil))))))))))))))))))
      (pss_cons (ps_expr (x_append K rfl (pv 4) (pa_cons (pe_op op_mul (pe_op op_add pe_int (pe_op op_mod (pv 1) pe_int)) (pe_op op_add pe_int (pe_op op_mod (pe_op op_fdiv (pv 1) pe_int) pe_int))) pa_nil)))
      (pss_cons (ps_if (pt_not (pt_val (pe_call (ok__law_all (P := P) (w := w) (base := base) T) (hr.mono (by decide)) (by rfl) T.g__law_all T.F__law_all.kp T.b__law_all .nil pass0 (pa_cons (pe_glob (v := .ref T.a__law_with_prime) (by rfl) T.g__law_with_prime rfl) (pa_cons (pe_listRg rfl (by rfl) T.n_list (prg_1 (by rfl) T.n_range pe_int)) (pa_cons (pv 4) (pa_cons (x_ixL K rfl (pv 2) pe_int (fun _ _ => rfl)) pa_nil))))))) (pss_one (ps_ret pe_bl)) pss_nil)
      (pss_cons (ps_set (i := 5) sc_law.nd rfl (.inl rfl) (pe_call (ok__law_row T) (hr.mono (by decide)) (by rfl) T.g__law_row T.F__law_row.kp T.b__law_row .nil pass0 (pa_cons (pv 0) (pa_cons pe_int pa_nil))))
      (pss_cons (ps_par (i := 6) (j := 7) (by rfl) sc_law.nd rfl rfl (by decide) rfl rfl (pa_cons (x_list K rfl T.n_list (by rfl) (pa_cons (pv 5) pa_nil)) (pa_cons (x_len K rfl T.n_len (by rfl) (pa_cons (pv 5) pa_nil)) pa_nil)) (by rfl))
      (pss_cons (ps_set (i := 8) sc_law.nd rfl (.inl rfl) (pe_lst (pa_cons pe_non (pa_cons (pe_tup pa_nil) (pa_cons (pe_tup (pa_cons pe_int pa_nil)) (pa_cons pe_str (pa_cons pe_dnewK (pa_cons pe_int (pa_cons (pe_lst (pa_cons pe_non pa_nil)) (pa_cons (pe_lst (pa_cons pe_str pa_nil)) (pa_cons (pe_lst (pa_cons pe_bl pa_nil)) (pa_cons (pe_lst (pa_cons pe_int pa_nil)) (pa_cons (pe_lst (pa_cons (pe_op op_add pe_int (pv 1)) pa_nil)) (pa_cons (pe_lst (pa_cons (pe_un un_neg pe_int) pa_nil)) (pa_cons (pe_lst (pa_cons (pe_op op_sub (pe_un un_neg pe_int) (pv 1)) pa_nil)) (pa_cons (pe_lst (pa_cons (pe_lst (pa_cons pe_int pa_nil)) pa_nil)) (pa_cons (pe_lst (pa_cons pe_int (pa_cons pe_int pa_nil))) pa_nil)))))))))))))))))
      (pss_cons (ps_for PassesOwn.never rfl (pi_range3 (by rfl) T.n_range (pa_cons pe_int (pa_cons (pv 7) (pa_cons (pe_op op_add pe_int (pe_op op_fdiv (pv 7) pe_int)) pa_nil)))) (pg_name (i := 9) sc_law.nd rfl (.inl rfl)) (pss_one (ps_expr (x_append K rfl (pv 8) (pa_cons (pe_op op_cat (pe_op op_cat (x_sl K rfl (pv 5) po_none (po_some (pv 9))) (pe_lst (pa_cons (x_ixT K rfl (pe_tup (pa_cons pe_non (pa_cons pe_str (pa_cons pe_bl (pa_cons (pe_op op_add pe_int (pv 1)) (pa_cons (pe_un un_neg pe_int) pa_nil)))))) (pe_op op_mod (pv 9) pe_int) (fun _ _ => rfl)) pa_nil))) (x_sl K rfl (pv 5) (po_some (pe_op op_add (pv 9) pe_int)) po_none)) pa_nil)))))
      (pss_cons (ps_if (pt_not (pt_val (pe_call (ok__law_all (P := P) (w := w) (base := base) T) (hr.mono (by decide)) (by rfl) T.g__law_all T.F__law_all.kp T.b__law_all .nil pass0 (pa_cons (pe_glob (v := .ref T.a__law_with_rule) (by rfl) T.g__law_with_rule rfl) (pa_cons (pe_listRg rfl (by rfl) T.n_list (prg_1 (by rfl) T.n_range pe_int)) (pa_cons (pv 8) (pa_cons (x_ixL K rfl (pv 2) pe_int (fun _ _ => rfl)) pa_nil))))))) (pss_one (ps_ret pe_bl)) pss_nil)
      (pss_cons (ps_if (pt_not (pt_val (pe_call (ok__law_all (P := P) (w := w) (base := base) T) (hr.mono (by decide)) (by rfl) T.g__law_all T.F__law_all.kp T.b__law_all .nil pass0 (pa_cons (pe_glob (v := .ref T.a__law_with_row) (by rfl) T.g__law_with_row rfl) (pa_cons (pe_listRg rfl (by rfl) T.n_list (prg_1 (by rfl) T.n_range pe_int)) (pa_cons (pv 8) (pa_cons (x_ixL K rfl (pv 2) pe_int (fun _ _ => rfl)) pa_nil))))))) (pss_one (ps_ret pe_bl)) pss_nil)
      (pss_cons (ps_if (pt_not (pt_val (pe_call (ok__law_all (P := P) (w := w) (base := base) T) (hr.mono (by decide)) (by rfl) T.g__law_all T.F__law_all.kp T.b__law_all .nil pass0 (pa_cons (pe_glob (v := .ref T.a__law_with_few) (by rfl) T.g__law_with_few rfl) (pa_cons (pe_lst (pa_cons pe_int (pa_cons pe_int pa_nil))) (pa_cons (pe_lst (pa_cons (pe_lst pa_nil) (pa_cons (pe_lst (pa_cons pe_int pa_nil)) (pa_cons (pe_lst (pa_cons pe_int (pa_cons pe_int pa_nil))) pa_nil)))) (pa_cons (x_ixL K rfl (pv 2) pe_int (fun _ _ => rfl)) pa_nil))))))) (pss_one (ps_ret pe_bl)) pss_nil)
      (pss_cons (ps_if (pt_not (pt_val (pe_call (ok__law_all (P := P) (w := w) (base := base) T) (hr.mono (by decide)) (by rfl) T.g__law_all T.F__law_all.kp T.b__law_all .nil pass0 (pa_cons (pe_glob (v := .ref T.a__law_with_place) (by rfl) T.g__law_with_place rfl) (pa_cons (pe_lst (pa_cons pe_int (pa_cons pe_int pa_nil))) (pa_cons (pe_lst (pa_cons pe_non (pa_cons pe_str (pa_cons (pe_un un_neg pe_int) (pa_cons (pe_op op_sub (pe_un un_neg pe_int) (pv 1)) (pa_cons pe_bl (pa_cons (pe_lst (pa_cons pe_int pa_nil)) pa_nil))))))) (pa_cons (x_ixL K rfl (pv 2) pe_int (fun _ _ => rfl)) pa_nil))))))) (pss_one (ps_ret pe_bl)) pss_nil)
      (pss_cons (ps_for PassesOwn.never rfl (xi_tup K rfl (pe_tup (pa_cons (pe_lst (pa_cons pe_int pa_nil)) (pa_cons (pe_lst (pa_cons pe_int (pa_cons pe_int pa_nil))) (pa_cons (pe_lst (pa_cons pe_int (pa_cons pe_int pa_nil))) (pa_cons (pe_lst (pa_cons pe_int (pa_cons pe_int (pa_cons pe_int pa_nil)))) pa_nil)))))) (pg_name (i := 10) sc_law.nd rfl (.inl rfl)) (pss_one (ps_if (x_neDt K rfl hr.units (pe_call (ok__law_told (P := P) (w := w) (base := base) T) (hr.mono (by decide)) (by rfl) T.g__law_told T.F__law_told.kp T.b__law_told .nil pass0 (pa_cons (pe_glob (v := .ref T.a_backwards) (by rfl) T.g_backwards rfl) (pa_cons pe_int (pa_cons (pv 10) pa_nil)))) (x_ixL K rfl (pv 2) pe_int (fun _ _ => rfl))) (pss_one (ps_ret pe_bl)) pss_nil)))
      (pss_one (ps_ret (pe_and (x_eqD K rfl hr.units (pv 5) (pv 6)) (pe_and (x_eqD K rfl hr.units (pe_call (ok_go_on T) (hr.mono (by decide)) (by rfl) T.g_go_on T.F_go_on.kp T.b_go_on .nil passN (pa_cons pe_int (pa_cons (pe_lst (pa_cons pe_int pa_nil)) (pa_cons (pe_lst (pa_cons pe_int pa_nil)) (pa_cons pe_int pa_nil))))) (pe_lst (pa_cons pe_int (pa_cons pe_int pa_nil)))) (pe_one (x_eqD K rfl hr.units (pe_call (ok_backwards T) (hr.mono (by decide)) (by rfl) T.g_backwards T.F_backwards.kp T.b_backwards .nil passN (pa_cons pe_int (pa_cons (pe_lst (pa_cons pe_int pa_nil)) pa_nil))) (pe_lst (pa_cons pe_int pa_nil))))))))))))))))))))))), ?_⟩
    obtain ⟨F, hF⟩ : ∃ F, g ns 0 % 1000000 = F := ⟨_, rfl⟩
    have hF1 : 0 ≤ F := by omega
    refine q_asg (i := 1) (v := .int F) ?_ fun H1 e1 => ?_
    · apply ev_is
      · apply ev_mod (j := 1000000)
        · walk_at "ev"
        · apply ev_is
          · apply ev_pow (i := 10) (j := 6) (by walk_at "ev") (by walk_at "ev") (by decide)
          · rfl
        · decide
      · rw [← hF]
        rfl
    have hS1 := ex_l e1 hS
    refine q_asgBag (k := 2) (φs := []) (fun _ h => by cases h) eps_nil (by simp) fun d vs G0 nd0 e2 bg => ?_
    refine q_forR1 (j := 3) (n := 6) (by walk_at "ev") (by omega) (fun i σ' H' => ∃ x3 G xs, σ' = [some (.ref a), some (.int F), some (.ref d), x3, none, none, none, none, none, none, none] ∧ Ex G0 G ∧ Bag ((List.range i).map fun k => wL K (bls (dueB k))) G d H' xs) (fun H3 e3 => ⟨none, G0, vs, rfl, Ex.refl _, bg.mono e3⟩) ?_ ?_
    · rintro i σ' H3 hi ⟨x3, G, xs, rfl, eG, b⟩
      refine s_appBagL (φ := wL K (bls (dueB i))) ?_ b (by simp; omega) (ev_var rfl) (ys := bls (dueB i)) ?_ (fun p H1 hp => ⟨p, rfl, sq_of hp⟩) fun G' H' zs eG' b' => ⟨_, G', zs, rfl, eG.trans eG', by rw [List.range_succ, List.map_append]; exact b'⟩
      · intro φ hφ
        obtain ⟨k, _, rfl⟩ := List.mem_map.mp hφ
        exact mono_l
      · exact el_is (el_lst (ea_cons (ev_eq (ev_var rfl) ev_c (Sc.int _ _)) (ea_cons (ev_eq (ev_var rfl) ev_c (Sc.int _ _)) (ea_cons (ev_eq (ev_var rfl) ev_c (Sc.int _ _)) (ea_cons (ev_eq (ev_var rfl) ev_c (Sc.int _ _)) (ea_cons (ev_eq (ev_var rfl) ev_c (Sc.int _ _)) (ea_cons (ev_eq (ev_var rfl) ev_c (Sc.int _ _)) (ea_cons ev_c (ea_cons ev_c ea_nil)))))))) (by simp)) rfl
    rintro σ' H3 ⟨x3, G, xs, rfl, eG, b⟩
    have hDu : Dues K H3 d := dues_of b
    have hS3 : SqL K H3 a (il ns) := ex_l (e2.trans (eG.trans b.up)) hS1
    refine q_asgBag (k := 4) (φs := List.replicate 16 (wNoPrime K)) (fun ψ h => by rw [rep_mem h]; exact mono_np) (show EvPs _ _ _ [wNoPrime K, wNoPrime K, wNoPrime K, wNoPrime K, wNoPrime K, wNoPrime K, wNoPrime K, wNoPrime K, wNoPrime K, wNoPrime K, wNoPrime K, wNoPrime K, wNoPrime K, wNoPrime K, wNoPrime K, wNoPrime K] from (eps_cons mono_np (ep_npV (ev_c) (fun _ => .non) (rfl)) (eps_cons mono_np (ep_npV (ev_c) (fun _ => .str _) (rfl)) (eps_cons mono_np (ep_npV (ev_c) (fun _ => .int _) (by decide +kernel)) (eps_cons mono_np (ep_npV (ev_c) (fun _ => .int _) (by decide +kernel)) (eps_cons mono_np (ep_npV (ev_neg ev_c) (fun _ => .int _) (small_no (by decide))) (eps_cons mono_np (ep_npV (ev_c) (fun _ => .int _) (by decide +kernel)) (eps_cons mono_np (ep_npV (ev_c) (fun _ => .int _) (by decide +kernel)) (eps_cons mono_np (ep_npV (ev_c) (fun _ => .int _) (by decide +kernel)) (eps_cons mono_np (ep_npV (ev_c) (fun _ => .int _) (by decide +kernel)) (eps_cons mono_np (ep_npV (ev_c) (fun _ => .int _) (by decide +kernel)) (eps_cons mono_np (ep_npV (ev_c) (fun _ => .int _) (by decide +kernel)) (eps_cons mono_np (ep_npV (ev_c) (fun _ => .int _) (by decide +kernel)) (eps_cons mono_np (ep_npV (ev_add ev_c (ev_var rfl)) (fun _ => .int _) (big_no (by omega))) (eps_cons mono_np (ep_npV (ev_c) (fun _ => .bl _) (rfl)) (eps_cons mono_np (ep_npL (el_one ev_c)) (eps_cons mono_np (ep_npV (ev_sub (ev_neg ev_c) (ev_var rfl)) (fun _ => .int _) (small_no (by omega))) eps_nil))))))))))))))))) (by simp) fun l vs G1 nl e4 b1 => ?_
    refine q_appBagV (φ := wNoPrime K) (v := .int ((2 + F % 29) * (2 + F / 29 % 29))) (fun ψ h => by rw [rep_mem h]; exact mono_np) b1 (by simp) (ev_var rfl) (ev_mul (ev_add ev_c (ev_mod (ev_var rfl) ev_c (by decide))) (ev_add ev_c (ev_mod (ev_div (ev_var rfl) ev_c (by decide)) ev_c (by decide))) (by omega)) (fun H1 => ⟨.no (.int _), prod_no (by omega) (by omega)⟩) fun G2 H5 zs eG2 b2 => ?_
    have E5 : Ex H3 H5 := (e4.trans eG2).trans b2.up
    have hDu := hDu.up E5
    have hS5 := ex_l E5 hS3
    have b2 : Bag (List.replicate 17 (wNoPrime K)) G2 l H5 zs := b2
    refine q_skip (b := false) (et_is (et_not (et_B (ev_all (φ := wNoPrime K) (C := T.a_BadPrime) (eps_cons mono_is (ep_v ev_c) (eps_cons mono_l (ep_l (er_of_l (el_listRg ev_c (by decide)))) (eps_cons (mono_things mono_np) (ep_bag (φs := List.replicate 17 (wNoPrime K)) rfl (fun ψ h => by rw [rep_mem h]; exact mono_np) b2 (by simp) (fun ψ h y H w => by rw [rep_mem h] at w; exact w)) (eps_cons mono_l (ep_l (er_due (k := 0) rfl hDu (by decide))) eps_nil)))) T.exm_BadPrime_RuleError (kinds_BadPrime T) ?_))) rfl) rfl fun H6 e6 => ?_
    · intro H1 e1 dd _ x hx
      exact ⟨_, held__law_with_prime T, fun H2 e2 Q' E' k => ⟨dd, x, rfl, ⟨hx.1.up e2, hx.2⟩, k⟩⟩

    have hS6 := ex_l e6 hS5
    have hDu := hDu.up e6
    have good5 : Good 5 := good_of (n := 5) (by decide +kernel)
    have Rr : Rs 5 (lawRow ns 5) := lawRow_rs (by decide)
    have Rl := lawRow_len ns 5
    obtain ⟨R, hR⟩ : ∃ R, lawRow ns 5 = R := ⟨_, rfl⟩
    rw [hR] at Rr Rl
    refine q_asgL (i := 5) (xs := il R) ?_ fun ra H7 nra e7 hra => ?_
    · apply el_is
      walk_at "ev"
      all_goals first | exact ⟨good5, by omega⟩ | rw [hR]
    have hDu := hDu.up e7
    refine q_parLV (xs := il R) (y := .int (R.length : Int)) (by walk_at "ev") (by walk_at "ev") fun ka H8 nka e8 hka => ?_
    have hra8 := e8 _ _ hra
    have hDu := hDu.up e8
    refine q_asgBag (k := 8) (φs := List.replicate 15 (wBad K)) (fun ψ h => by rw [rep_mem h]; exact mono_bad) (show EvPs _ _ _ [wBad K, wBad K, wBad K, wBad K, wBad K, wBad K, wBad K, wBad K, wBad K, wBad K, wBad K, wBad K, wBad K, wBad K, wBad K] from (eps_cons mono_bad (ep_badV (ev_c) (fun _ => .non)) (eps_cons mono_bad (ep_badT (φs := []) (fun _ h => by cases h) eps_nil (by simp)) (eps_cons mono_bad (ep_badT (φs := [wIs (.int 1)]) (fun _ h => by rw [List.mem_singleton.mp h]; exact mono_is) (eps_cons mono_is (ep_v ev_c) eps_nil) (by simp)) (eps_cons mono_bad (ep_badV (ev_c) (fun _ => .str _)) (eps_cons mono_bad ep_badD (eps_cons mono_bad (ep_badV (ev_c) (fun _ => .int _)) (eps_cons mono_bad (ep_bad1 (ev_c) (fun _ => .non) (rfl)) (eps_cons mono_bad (ep_bad1 (ev_c) (fun _ => .str _) (rfl)) (eps_cons mono_bad (ep_bad1 (ev_c) (fun _ => .bl _) (rfl)) (eps_cons mono_bad (ep_bad1 (ev_c) (fun _ => .int _) (okR_big (by decide))) (eps_cons mono_bad (ep_bad1 (ev_add ev_c (ev_var rfl)) (fun _ => .int _) (okR_big (by omega))) (eps_cons mono_bad (ep_bad1 (ev_neg ev_c) (fun _ => .int _) (okR_neg (by decide))) (eps_cons mono_bad (ep_bad1 (ev_sub (ev_neg ev_c) (ev_var rfl)) (fun _ => .int _) (okR_neg (by omega))) (eps_cons mono_bad (ep_badLL (el_one ev_c)) (eps_cons mono_bad (ep_bad (el_lst (ea_cons ev_c (ea_cons ev_c ea_nil)) (by simp)) (by simp) (fun y hy H => by simp only [List.mem_cons, List.mem_nil_iff, or_false] at hy; rcases hy with rfl | rfl <;> exact .int _) rfl) eps_nil)))))))))))))))) (by simp) fun bd vs G3 nbd e9 b3 => ?_
    have hra9 := e9 _ _ hra8
    have hka9 := e9 _ _ hka
    have hDu := hDu.up e9
    have cR : (0 : Int) ≤ R.length := by omega
    refine q_forR3 (k := 9) (n := (R.length : Int)) (c := 1 + (R.length : Int) / 6) (m := stepsN R.length) (ea_cons ev_c (ea_cons (ev_var rfl) (ea_cons (ev_add ev_c (ev_div (ev_var rfl) ev_c (by decide))) ea_nil))) (rgc_steps (by omega)) (fun i σ' H' => ∃ x9 G xs, σ' = [some (.ref a), some (.int F), some (.ref d), x3, some (.ref l), some (.ref ra), some (.ref ka), some (.int (R.length : Int)), some (.ref bd), x9, none] ∧ Ex G3 G ∧ Bag (List.replicate (15 + i) (wBad K)) G bd H' xs) (fun H3 e3 => ⟨none, G3, vs, rfl, Ex.refl _, b3.mono e3⟩) ?_ ?_
    · rintro i σ' H10 hi ⟨x9, G, xs, rfl, eG, b⟩
      have hat := steps_at (m := R.length) (by omega) hi
      have hc0 : 0 ≤ (i : Int) * (1 + (R.length : Int) / 6) := Int.mul_nonneg (by omega) (by omega)
      have hil : i < 63 := by have := steps_le (m := R.length) (by omega); omega
      obtain ⟨AT, hAT⟩ : ∃ z, (i : Int) * (1 + (R.length : Int) / 6) = z := ⟨_, rfl⟩
      rw [hAT] at hat hc0
      have hra10 := (eG.trans b.up) _ _ hra9
      obtain ⟨v, hv1, hv2, hv3⟩ := spot_at (K := K) (F := F) (i := AT % 5) hF1 (by omega)
      rw [hAT]
      refine s_appBagL (φ := wBad K) (fun ψ h => by rw [rep_mem h]; exact mono_bad) b (by rw [List.length_replicate]; omega) (ev_var rfl) (ys := il (R.take AT.toNat) ++ [v] ++ il (R.drop (AT.toNat + 1))) ?_ (fun p H1 hp => ?_) fun G' H' zs eG' b' => ⟨_, G', zs, rfl, eG.trans eG', by rw [show List.replicate (15 + (i + 1)) (wBad K) = List.replicate (15 + i) (wBad K) ++ [wBad K] from List.replicate_succ' ..]; exact b'⟩
      · refine el_cat (em_of_l (el_cat (em_of_l (el_slTo (er_var rfl (sq_of hra10)) (eo_some (ev_var rfl)) hc0)) (em_of_l (el_lst (ea_cons (ev_ixU (eu_tup (ea_cons ev_c (ea_cons ev_c (ea_cons ev_c (ea_cons (ev_add ev_c (ev_var rfl)) (ea_cons (ev_neg ev_c) ea_nil))))) (by simp)) (ev_mod (ev_var rfl) ev_c (by decide)) hv1) ea_nil) (by simp))) ?_)) (em_of_l (el_is (el_slFrom (er_var rfl (sq_of hra10)) (eo_some (ev_add (ev_var rfl) ev_c)) (by omega)) ?_)) ?_
        · simp; omega
        · rw [show (AT + 1).toNat = AT.toNat + 1 by omega]
        · simp; omega
      · refine bad_list (sq_of hp) ?_ ?_ (bent_bad hv2)
        · simp; omega
        · intro y hy
          rcases List.mem_append.mp hy with hy | hy
          · rcases List.mem_append.mp hy with hy | hy
            · obtain ⟨n, _, rfl⟩ := List.mem_map.mp hy
              exact .no (.int n)
            · rw [List.mem_singleton.mp hy]
              exact .no (hv3 _)
          · obtain ⟨n, _, rfl⟩ := List.mem_map.mp hy
            exact .no (.int n)
    rintro σ' H10 ⟨x9, G, xs, rfl, eG, b⟩
    have hstl := steps_le (m := R.length) (by omega)
    have E10 := eG.trans b.up
    have hra10 := E10 _ _ hra9
    have hka10 := E10 _ _ hka9
    have hDu : Dues K H10 d := hDu.up E10
    refine q_skip (b := false) (et_is (et_not (et_B (ev_all (φ := wBad K) (C := T.a_BadRule) (eps_cons mono_is (ep_v ev_c) (eps_cons mono_l (ep_l (er_of_l (el_listRg ev_c (by decide)))) (eps_cons (mono_things mono_bad) (ep_bag (φs := List.replicate (15 + stepsN R.length) (wBad K)) rfl (fun ψ h => by rw [rep_mem h]; exact mono_bad) b (by rw [List.length_replicate]; omega) (fun ψ h y H w => by rw [rep_mem h] at w; exact w)) (eps_cons mono_l (ep_l (er_due (k := 1) rfl hDu (by decide))) eps_nil)))) T.exm_BadRule_RuleError (kinds_BadRule T) ?_))) rfl) rfl fun H11 e11 => ?_
    · intro H1 e1 dd _ x hx
      exact ⟨_, held__law_with_rule T, fun H2 e2 Q' E' k => ⟨dd, x, rfl, RestsAre.up hx e2, k⟩⟩

    have hra11 := e11 _ _ hra10
    have hka11 := e11 _ _ hka10
    have hDu := hDu.up e11
    have b := b.mono e11
    refine q_skip (b := false) (et_is (et_not (et_B (ev_all (φ := wBad K) (C := T.a_BadRow) (eps_cons mono_is (ep_v ev_c) (eps_cons mono_l (ep_l (er_of_l (el_listRg ev_c (by decide)))) (eps_cons (mono_things mono_bad) (ep_bag (φs := List.replicate (15 + stepsN R.length) (wBad K)) rfl (fun ψ h => by rw [rep_mem h]; exact mono_bad) b (by rw [List.length_replicate]; omega) (fun ψ h y H w => by rw [rep_mem h] at w; exact w)) (eps_cons mono_l (ep_l (er_due (k := 2) rfl hDu (by decide))) eps_nil)))) T.exm_BadRow_RuleError (kinds_BadRow T) ?_))) rfl) rfl fun H12 e12 => ?_
    · intro H1 e1 dd _ x hx
      exact ⟨_, held__law_with_row T, fun H2 e2 Q' E' k => ⟨dd, x, rfl, RestsAre.up hx e2, k⟩⟩

    have hra12 := e12 _ _ hra11
    have hka12 := e12 _ _ hka11
    have hDu := hDu.up e12
    refine q_skip (b := false) (et_is (et_not (et_B (ev_all (φ := wFew K) (C := T.a_TooFew) (eps_cons mono_is (ep_v ev_c) (eps_cons mono_l (ep_l (er_of_l (el_lstI (ns := [0, 1]) (ea_consI ev_c (ea_consI ev_c ea_nilI)) (by decide)))) (eps_cons (mono_things mono_few) (ep_things (φs := List.replicate 3 (wFew K)) (fun ψ h => by rw [rep_mem h]; exact mono_few) (show EvPs _ _ _ [wFew K, wFew K, wFew K] from (eps_cons mono_few (ep_few (ms := []) el_nilI rfl (by decide)) (eps_cons mono_few (ep_few (ms := [1]) (el_one ev_c) (by decide) (by decide)) (eps_cons mono_few (ep_few (ms := [1, 2]) (el_lstI (ea_consI ev_c (ea_consI ev_c ea_nilI)) (by decide)) (by decide) (by decide)) eps_nil)))) (by simp) (fun ψ h y H w => by rw [rep_mem h] at w; exact w)) (eps_cons mono_l (ep_l (er_due (k := 3) rfl hDu (by decide))) eps_nil)))) T.exm_TooFew_RuleError (kinds_TooFew T) ?_))) rfl) rfl fun H13 e13 => ?_
    · intro H1 e1 dd _ x hx
      exact ⟨_, held__law_with_few T, fun H2 e2 Q' E' k => ⟨dd, x, rfl, mono_few _ _ _ e2 hx, k⟩⟩

    have hra13 := e13 _ _ hra12
    have hka13 := e13 _ _ hka12
    have hDu := hDu.up e13
    refine q_skip (b := false) (et_is (et_not (et_B (ev_all (φ := wNoPlace K) (C := T.a_BadPlace) (eps_cons mono_is (ep_v ev_c) (eps_cons mono_l (ep_l (er_of_l (el_lstI (ns := [0, 1]) (ea_consI ev_c (ea_consI ev_c ea_nilI)) (by decide)))) (eps_cons (mono_things mono_npl) (ep_things (φs := List.replicate 6 (wNoPlace K)) (fun ψ h => by rw [rep_mem h]; exact mono_npl) (show EvPs _ _ _ [wNoPlace K, wNoPlace K, wNoPlace K, wNoPlace K, wNoPlace K, wNoPlace K] from (eps_cons mono_npl (ep_nplV (ev_c) (fun _ => .non) (rfl)) (eps_cons mono_npl (ep_nplV (ev_c) (fun _ => .str _) (rfl)) (eps_cons mono_npl (ep_nplV (ev_neg ev_c) (fun _ => .int _) (by decide)) (eps_cons mono_npl (ep_nplV (ev_sub (ev_neg ev_c) (ev_var rfl)) (fun _ => .int _) (decide_eq_false (by omega))) (eps_cons mono_npl (ep_nplV (ev_c) (fun _ => .bl _) (rfl)) (eps_cons mono_npl (ep_nplL (el_one ev_c)) eps_nil))))))) (by simp) (fun ψ h y H w => by rw [rep_mem h] at w; exact w)) (eps_cons mono_l (ep_l (er_due (k := 4) rfl hDu (by decide))) eps_nil)))) T.exm_BadPlace_RuleError (kinds_BadPlace T) ?_))) rfl) rfl fun H14 e14 => ?_
    · intro H1 e1 dd _ x hx
      exact ⟨_, held__law_with_place T, fun H2 e2 Q' E' k => ⟨dd, x, rfl, ⟨hx.1.up e2, hx.2⟩, k⟩⟩

    have hra14 := e14 _ _ hra13
    have hka14 := e14 _ _ hka13
    have hDu := hDu.up e14
    refine q_forAs (gs := [.m (il [0]), .m (il [1, 0]), .m (il [0, 0]), .m (il [4, 3, 0])]) ?_ (by simp)
      (fun H15 i σ' H' => ∃ x10, σ' = [some (.ref a), some (.int F), some (.ref d), x3, some (.ref l), some (.ref ra), some (.ref ka), some (.int (R.length : Int)), some (.ref bd), x9, x10] ∧ Ex H14 H' ∧ Ex H15 H') (fun H15 e15 => ⟨none, rfl, e15, Ex.refl _⟩) (fun H15 i σ' H' ⟨_, _, _, e⟩ => e) ?_ ?_
    · walk_at "ev"
    · rintro H15 i gg y σ' H16 e15 hg ok ⟨x10, rfl, e16, e16'⟩
      obtain ⟨rl, rfl, r1, r2, r3⟩ : ∃ rl, gg = .m (il rl) ∧ rs 5 rl = true ∧ rl.length ≤ 200 ∧ NoBack rl := by
        have hm := List.mem_of_getElem? hg
        simp only [List.mem_cons, List.mem_nil_iff, or_false] at hm
        rcases hm with rfl | rfl | rfl | rfl <;> exact ⟨_, rfl, by decide, by decide, by decide, by decide⟩
      obtain ⟨sa, rfl, hsa⟩ := ok
      have hsa16 := e16' _ _ hsa
      refine s_skip (b := false) ?_ rfl fun H17 e17 => ⟨_, rfl, e16.trans e17, e16'.trans e17⟩
      refine et_is (et_test (ev_neBs (ms := dueB 5) (ns := dueB 5) (er_of_l (el_told (C := T.a_NoWay) (ea_cons ev_c (ea_cons ev_c (ea_cons (ev_var rfl) ea_nil))) ?_ T.exm_NoWay_RuleError (kinds_NoWay T))) (er_due (k := 5) rfl (hDu.up e16) (by decide)))) ?_
      · exact ⟨_, held_backwards T, fun H2 e2 Q' E' k => ⟨_, _, rfl, .inr ⟨5, sa, rl, rfl, rfl, ex_l e2 (sq_of hsa16), ⟨good5, rs_iff.mp r1, r2⟩, by decide +kernel, fun _ => k, fun z => absurd r3 z⟩⟩⟩
      · rw [decide_eq_true rfl]
        rfl
    rintro H15 σ' H16 e15 ⟨x10, rfl, e16, e16'⟩
    have hra16 := e16 _ _ hra14
    have hka16 := e16 _ _ hka14
    have g997 : Good 997 := good_of (n := 997) (by decide +kernel)
    have g2 : Good 2 := good_of (n := 2) (by decide +kernel)
    refine s_ret (v := .bl true) ?_ fun H20 e20 => q H20
    refine ev_is (ev_andV (ev_eqL (er_var rfl (sq_of hra16)) (er_var rfl (sq_of hka16))) fun _ => ev_andV (ev_eqL (er_of_l (el_goOk (p := 997) (ns := [996]) (ms := [996]) (m := 1) (eps_cons mono_is (ep_v ev_c) (eps_cons mono_l (ep_l (er_of_l (el_one ev_c))) (eps_cons mono_l (ep_l (er_of_l (el_one ev_c))) (eps_cons mono_is (ep_v ev_c) eps_nil)))) ⟨g997, by decide +kernel⟩ ⟨rs_iff.mp (by decide), rs_iff.mp (by decide)⟩ ⟨by decide, by decide⟩ ⟨by decide, by decide⟩)) (er_of_l (el_lstI (ns := [996, 1]) (ea_consI ev_c (ea_consI ev_c ea_nilI)) (by decide)))) fun _ =>
      ev_eqL (er_of_l (el_backOk (p := 2) (ns := [1]) (eps_cons mono_is (ep_v ev_c) (eps_cons mono_l (ep_l (er_of_l (el_one ev_c))) eps_nil)) ⟨g2, by decide +kernel⟩ ⟨rs_iff.mp (by decide), by decide⟩ (fun nb => by have h : g [1] ([1].length - 1) = 0 := nb.2; revert h; decide))) (er_of_l (el_one (n := 1) ev_c))) ?_
    rw [decide_eq_true (rfl : R = R)]
    decide +kernel
end
def txt_mk {K : PySem.W.Frag} {h : Heap} {mg : Str → Option Value} (X : K.In h) (G : h.Ns mainGlobals mg)
    {x_is_whole : Addr} {od_is_whole an_is_whole : Option Addr} {sl_is_whole : Array (Option Value)} {oc_is_whole kV_is_whole dc_is_whole pm_is_whole cd_is_whole ct_is_whole : Value}
    {x_check_prime : Addr} {od_check_prime an_check_prime : Option Addr} {sl_check_prime : Array (Option Value)} {oc_check_prime kV_check_prime dc_check_prime pm_check_prime cd_check_prime ct_check_prime : Value}
    {x_are_rests : Addr} {od_are_rests an_are_rests : Option Addr} {sl_are_rests : Array (Option Value)} {oc_are_rests kV_are_rests dc_are_rests pm_are_rests cd_are_rests ct_are_rests : Value}
    {x_check_row : Addr} {od_check_row an_check_row : Option Addr} {sl_check_row : Array (Option Value)} {oc_check_row kV_check_row dc_check_row pm_check_row cd_check_row ct_check_row : Value}
    {x_inverse : Addr} {od_inverse an_inverse : Option Addr} {sl_inverse : Array (Option Value)} {oc_inverse kV_inverse dc_inverse pm_inverse cd_inverse ct_inverse : Value}
    {x_check_rule : Addr} {od_check_rule an_check_rule : Option Addr} {sl_check_rule : Array (Option Value)} {oc_check_rule kV_check_rule dc_check_rule pm_check_rule cd_check_rule ct_check_rule : Value}
    {x_due_at : Addr} {od_due_at an_due_at : Option Addr} {sl_due_at : Array (Option Value)} {oc_due_at kV_due_at dc_due_at pm_due_at cd_due_at ct_due_at : Value}
    {x_turned : Addr} {od_turned an_turned : Option Addr} {sl_turned : Array (Option Value)} {oc_turned kV_turned dc_turned pm_turned cd_turned ct_turned : Value}
    {x_told_back : Addr} {od_told_back an_told_back : Option Addr} {sl_told_back : Array (Option Value)} {oc_told_back kV_told_back dc_told_back pm_told_back cd_told_back ct_told_back : Value}
    {x_least : Addr} {od_least an_least : Option Addr} {sl_least : Array (Option Value)} {oc_least kV_least dc_least pm_least cd_least ct_least : Value}
    {x__law_cell_at : Addr} {od__law_cell_at an__law_cell_at : Option Addr} {sl__law_cell_at : Array (Option Value)} {oc__law_cell_at kV__law_cell_at dc__law_cell_at pm__law_cell_at cd__law_cell_at ct__law_cell_at : Value}
    {x__law_draw : Addr} {od__law_draw an__law_draw : Option Addr} {sl__law_draw : Array (Option Value)} {oc__law_draw kV__law_draw dc__law_draw pm__law_draw cd__law_draw ct__law_draw : Value}
    {x__law_rests : Addr} {od__law_rests an__law_rests : Option Addr} {sl__law_rests : Array (Option Value)} {oc__law_rests kV__law_rests dc__law_rests pm__law_rests cd__law_rests ct__law_rests : Value}
    {x__law_due : Addr} {od__law_due an__law_due : Option Addr} {sl__law_due : Array (Option Value)} {oc__law_due kV__law_due dc__law_due pm__law_due cd__law_due ct__law_due : Value}
    {x__law_row : Addr} {od__law_row an__law_row : Option Addr} {sl__law_row : Array (Option Value)} {oc__law_row kV__law_row dc__law_row pm__law_row cd__law_row ct__law_row : Value}
    {x_makes : Addr} {od_makes an_makes : Option Addr} {sl_makes : Array (Option Value)} {oc_makes kV_makes dc_makes pm_makes cd_makes ct_makes : Value}
    {x_both : Addr} {od_both an_both : Option Addr} {sl_both : Array (Option Value)} {oc_both kV_both dc_both pm_both cd_both ct_both : Value}
    {x_unlike : Addr} {od_unlike an_unlike : Option Addr} {sl_unlike : Array (Option Value)} {oc_unlike kV_unlike dc_unlike pm_unlike cd_unlike ct_unlike : Value}
    {x_written : Addr} {od_written an_written : Option Addr} {sl_written : Array (Option Value)} {oc_written kV_written dc_written pm_written cd_written ct_written : Value}
    {x_check_going : Addr} {od_check_going an_check_going : Option Addr} {sl_check_going : Array (Option Value)} {oc_check_going kV_check_going dc_check_going pm_check_going cd_check_going ct_check_going : Value}
    {x_far : Addr} {od_far an_far : Option Addr} {sl_far : Array (Option Value)} {oc_far kV_far dc_far pm_far cd_far ct_far : Value}
    {x_go_on : Addr} {od_go_on an_go_on : Option Addr} {sl_go_on : Array (Option Value)} {oc_go_on kV_go_on dc_go_on pm_go_on cd_go_on ct_go_on : Value}
    {x_backwards : Addr} {od_backwards an_backwards : Option Addr} {sl_backwards : Array (Option Value)} {oc_backwards kV_backwards dc_backwards pm_backwards cd_backwards ct_backwards : Value}
    {x__law_more : Addr} {od__law_more an__law_more : Option Addr} {sl__law_more : Array (Option Value)} {oc__law_more kV__law_more dc__law_more pm__law_more cd__law_more ct__law_more : Value}
    {x__law_with_prime : Addr} {od__law_with_prime an__law_with_prime : Option Addr} {sl__law_with_prime : Array (Option Value)} {oc__law_with_prime kV__law_with_prime dc__law_with_prime pm__law_with_prime cd__law_with_prime ct__law_with_prime : Value}
    {x__law_with_rule : Addr} {od__law_with_rule an__law_with_rule : Option Addr} {sl__law_with_rule : Array (Option Value)} {oc__law_with_rule kV__law_with_rule dc__law_with_rule pm__law_with_rule cd__law_with_rule ct__law_with_rule : Value}
    {x__law_with_row : Addr} {od__law_with_row an__law_with_row : Option Addr} {sl__law_with_row : Array (Option Value)} {oc__law_with_row kV__law_with_row dc__law_with_row pm__law_with_row cd__law_with_row ct__law_with_row : Value}
    {x__law_with_few : Addr} {od__law_with_few an__law_with_few : Option Addr} {sl__law_with_few : Array (Option Value)} {oc__law_with_few kV__law_with_few dc__law_with_few pm__law_with_few cd__law_with_few ct__law_with_few : Value}
    {x__law_with_place : Addr} {od__law_with_place an__law_with_place : Option Addr} {sl__law_with_place : Array (Option Value)} {oc__law_with_place kV__law_with_place dc__law_with_place pm__law_with_place cd__law_with_place ct__law_with_place : Value}
    {x__law_kinds : Addr} {od__law_kinds an__law_kinds : Option Addr} {sl__law_kinds : Array (Option Value)} {oc__law_kinds kV__law_kinds dc__law_kinds pm__law_kinds cd__law_kinds ct__law_kinds : Value}
    {x__law_told : Addr} {od__law_told an__law_told : Option Addr} {sl__law_told : Array (Option Value)} {oc__law_told kV__law_told dc__law_told pm__law_told cd__law_told ct__law_told : Value}
    {x__law_all : Addr} {od__law_all an__law_all : Option Addr} {sl__law_all : Array (Option Value)} {oc__law_all kV__law_all dc__law_all pm__law_all cd__law_all ct__law_all : Value}
    {x_law : Addr} {od_law an_law : Option Addr} {sl_law : Array (Option Value)} {oc_law kV_law dc_law pm_law cd_law ct_law : Value}
    {x_RuleError : Addr}
    {x_BadPrime : Addr}
    {x_BadRow : Addr}
    {x_BadRule : Addr}
    {x_BadPlace : Addr}
    {x_TooFew : Addr}
    {x_NoWay : Addr}
    {x_BadText : Addr}
    {u_GREATEST : Tok}
    (ac_RuleError : PySem.W.nsIn K mainGlobals "RuleError" = some (some (.ref x_RuleError)))
    (ac_BadPrime : PySem.W.nsIn K mainGlobals "BadPrime" = some (some (.ref x_BadPrime)))
    (xk_BadPrime : PySem.W.excIn K x_BadPrime [.type "ValueError", .type "Exception", .type "BaseException", .type "object"] "ValueError.__new__" = true)
    (kc_BadPrime : PySem.W.keepIn K (.ref x_BadPrime) = true)
    (q1_BadPrime : PySem.W.findIn K (.ref x_BadPrime) "__getattribute__" = some (some (.builtin "BaseException.__getattribute__")))
    (q2_BadPrime : PySem.W.findIn K (.ref x_BadPrime) "__getattr__" = some none)
    (q3_BadPrime : PySem.W.findIn K (.ref x_BadPrime) "__class__" = some (some (.builtin "object.__class__")))
    (q4_BadPrime : PySem.W.mroIn K x_BadPrime (.type "object") = some true)
    (ac_BadRow : PySem.W.nsIn K mainGlobals "BadRow" = some (some (.ref x_BadRow)))
    (xk_BadRow : PySem.W.excIn K x_BadRow [.type "ValueError", .type "Exception", .type "BaseException", .type "object"] "ValueError.__new__" = true)
    (kc_BadRow : PySem.W.keepIn K (.ref x_BadRow) = true)
    (q1_BadRow : PySem.W.findIn K (.ref x_BadRow) "__getattribute__" = some (some (.builtin "BaseException.__getattribute__")))
    (q2_BadRow : PySem.W.findIn K (.ref x_BadRow) "__getattr__" = some none)
    (q3_BadRow : PySem.W.findIn K (.ref x_BadRow) "__class__" = some (some (.builtin "object.__class__")))
    (q4_BadRow : PySem.W.mroIn K x_BadRow (.type "object") = some true)
    (ac_BadRule : PySem.W.nsIn K mainGlobals "BadRule" = some (some (.ref x_BadRule)))
    (xk_BadRule : PySem.W.excIn K x_BadRule [.type "ValueError", .type "Exception", .type "BaseException", .type "object"] "ValueError.__new__" = true)
    (kc_BadRule : PySem.W.keepIn K (.ref x_BadRule) = true)
    (q1_BadRule : PySem.W.findIn K (.ref x_BadRule) "__getattribute__" = some (some (.builtin "BaseException.__getattribute__")))
    (q2_BadRule : PySem.W.findIn K (.ref x_BadRule) "__getattr__" = some none)
    (q3_BadRule : PySem.W.findIn K (.ref x_BadRule) "__class__" = some (some (.builtin "object.__class__")))
    (q4_BadRule : PySem.W.mroIn K x_BadRule (.type "object") = some true)
    (ac_BadPlace : PySem.W.nsIn K mainGlobals "BadPlace" = some (some (.ref x_BadPlace)))
    (xk_BadPlace : PySem.W.excIn K x_BadPlace [.type "ValueError", .type "Exception", .type "BaseException", .type "object"] "ValueError.__new__" = true)
    (kc_BadPlace : PySem.W.keepIn K (.ref x_BadPlace) = true)
    (q1_BadPlace : PySem.W.findIn K (.ref x_BadPlace) "__getattribute__" = some (some (.builtin "BaseException.__getattribute__")))
    (q2_BadPlace : PySem.W.findIn K (.ref x_BadPlace) "__getattr__" = some none)
    (q3_BadPlace : PySem.W.findIn K (.ref x_BadPlace) "__class__" = some (some (.builtin "object.__class__")))
    (q4_BadPlace : PySem.W.mroIn K x_BadPlace (.type "object") = some true)
    (ac_TooFew : PySem.W.nsIn K mainGlobals "TooFew" = some (some (.ref x_TooFew)))
    (xk_TooFew : PySem.W.excIn K x_TooFew [.type "ValueError", .type "Exception", .type "BaseException", .type "object"] "ValueError.__new__" = true)
    (kc_TooFew : PySem.W.keepIn K (.ref x_TooFew) = true)
    (q1_TooFew : PySem.W.findIn K (.ref x_TooFew) "__getattribute__" = some (some (.builtin "BaseException.__getattribute__")))
    (q2_TooFew : PySem.W.findIn K (.ref x_TooFew) "__getattr__" = some none)
    (q3_TooFew : PySem.W.findIn K (.ref x_TooFew) "__class__" = some (some (.builtin "object.__class__")))
    (q4_TooFew : PySem.W.mroIn K x_TooFew (.type "object") = some true)
    (ac_NoWay : PySem.W.nsIn K mainGlobals "NoWay" = some (some (.ref x_NoWay)))
    (xk_NoWay : PySem.W.excIn K x_NoWay [.type "ValueError", .type "Exception", .type "BaseException", .type "object"] "ValueError.__new__" = true)
    (kc_NoWay : PySem.W.keepIn K (.ref x_NoWay) = true)
    (q1_NoWay : PySem.W.findIn K (.ref x_NoWay) "__getattribute__" = some (some (.builtin "BaseException.__getattribute__")))
    (q2_NoWay : PySem.W.findIn K (.ref x_NoWay) "__getattr__" = some none)
    (q3_NoWay : PySem.W.findIn K (.ref x_NoWay) "__class__" = some (some (.builtin "object.__class__")))
    (q4_NoWay : PySem.W.mroIn K x_NoWay (.type "object") = some true)
    (ac_BadText : PySem.W.nsIn K mainGlobals "BadText" = some (some (.ref x_BadText)))
    (xk_BadText : PySem.W.excIn K x_BadText [.type "ValueError", .type "Exception", .type "BaseException", .type "object"] "ValueError.__new__" = true)
    (kc_BadText : PySem.W.keepIn K (.ref x_BadText) = true)
    (q1_BadText : PySem.W.findIn K (.ref x_BadText) "__getattribute__" = some (some (.builtin "BaseException.__getattribute__")))
    (q2_BadText : PySem.W.findIn K (.ref x_BadText) "__getattr__" = some none)
    (q3_BadText : PySem.W.findIn K (.ref x_BadText) "__class__" = some (some (.builtin "object.__class__")))
    (q4_BadText : PySem.W.mroIn K x_BadText (.type "object") = some true)
    (j2 : PySem.W.specialIn K (.builtin "object.__class__") "__get__" = some (some (.builtin "getset_descriptor.__get__")))
    (j3 : PySem.W.takesIn K (.builtin "object.__class__") = some true)
    (hd_BadPrime : PySem.W.hasDictIn K x_BadPrime = true)
    (sb_BadPrime : PySem.W.subIn K (.ref x_BadPrime) (.type "BaseException") = some true)
    (ty_BadPrime : PySem.W.typeIn K (.ref x_BadPrime) = some (.type "type"))
    (is_BadRow : PySem.W.isClsIn K x_BadRow = true)
    (ty_BadRow : PySem.W.typeIn K (.ref x_BadRow) = some (.type "type"))
    (sub_BadPrime_BadRow : PySem.W.subIn K (.ref x_BadPrime) (.ref x_BadRow) = some false)
    (ne_BadPrime_BadRow : x_BadPrime ≠ x_BadRow)
    (is_BadRule : PySem.W.isClsIn K x_BadRule = true)
    (ty_BadRule : PySem.W.typeIn K (.ref x_BadRule) = some (.type "type"))
    (sub_BadPrime_BadRule : PySem.W.subIn K (.ref x_BadPrime) (.ref x_BadRule) = some false)
    (ne_BadPrime_BadRule : x_BadPrime ≠ x_BadRule)
    (is_BadPlace : PySem.W.isClsIn K x_BadPlace = true)
    (ty_BadPlace : PySem.W.typeIn K (.ref x_BadPlace) = some (.type "type"))
    (sub_BadPrime_BadPlace : PySem.W.subIn K (.ref x_BadPrime) (.ref x_BadPlace) = some false)
    (ne_BadPrime_BadPlace : x_BadPrime ≠ x_BadPlace)
    (is_TooFew : PySem.W.isClsIn K x_TooFew = true)
    (ty_TooFew : PySem.W.typeIn K (.ref x_TooFew) = some (.type "type"))
    (sub_BadPrime_TooFew : PySem.W.subIn K (.ref x_BadPrime) (.ref x_TooFew) = some false)
    (ne_BadPrime_TooFew : x_BadPrime ≠ x_TooFew)
    (is_NoWay : PySem.W.isClsIn K x_NoWay = true)
    (ty_NoWay : PySem.W.typeIn K (.ref x_NoWay) = some (.type "type"))
    (sub_BadPrime_NoWay : PySem.W.subIn K (.ref x_BadPrime) (.ref x_NoWay) = some false)
    (ne_BadPrime_NoWay : x_BadPrime ≠ x_NoWay)
    (is_BadText : PySem.W.isClsIn K x_BadText = true)
    (ty_BadText : PySem.W.typeIn K (.ref x_BadText) = some (.type "type"))
    (sub_BadPrime_BadText : PySem.W.subIn K (.ref x_BadPrime) (.ref x_BadText) = some false)
    (ne_BadPrime_BadText : x_BadPrime ≠ x_BadText)
    (sub_BadPrime_ValueError : PySem.W.subIn K (.ref x_BadPrime) (.type "ValueError") = some true)
    (hd_RuleError : PySem.W.hasDictIn K x_RuleError = true)
    (sb_RuleError : PySem.W.subIn K (.ref x_RuleError) (.type "BaseException") = some true)
    (ty_RuleError : PySem.W.typeIn K (.ref x_RuleError) = some (.type "type"))
    (sub_BadPrime_RuleError : PySem.W.subIn K (.ref x_BadPrime) (.ref x_RuleError) = some true)
    (hd_BadRow : PySem.W.hasDictIn K x_BadRow = true)
    (sb_BadRow : PySem.W.subIn K (.ref x_BadRow) (.type "BaseException") = some true)
    (is_BadPrime : PySem.W.isClsIn K x_BadPrime = true)
    (sub_BadRow_BadPrime : PySem.W.subIn K (.ref x_BadRow) (.ref x_BadPrime) = some false)
    (ne_BadRow_BadPrime : x_BadRow ≠ x_BadPrime)
    (sub_BadRow_BadRule : PySem.W.subIn K (.ref x_BadRow) (.ref x_BadRule) = some false)
    (ne_BadRow_BadRule : x_BadRow ≠ x_BadRule)
    (sub_BadRow_BadPlace : PySem.W.subIn K (.ref x_BadRow) (.ref x_BadPlace) = some false)
    (ne_BadRow_BadPlace : x_BadRow ≠ x_BadPlace)
    (sub_BadRow_TooFew : PySem.W.subIn K (.ref x_BadRow) (.ref x_TooFew) = some false)
    (ne_BadRow_TooFew : x_BadRow ≠ x_TooFew)
    (sub_BadRow_NoWay : PySem.W.subIn K (.ref x_BadRow) (.ref x_NoWay) = some false)
    (ne_BadRow_NoWay : x_BadRow ≠ x_NoWay)
    (sub_BadRow_BadText : PySem.W.subIn K (.ref x_BadRow) (.ref x_BadText) = some false)
    (ne_BadRow_BadText : x_BadRow ≠ x_BadText)
    (sub_BadRow_ValueError : PySem.W.subIn K (.ref x_BadRow) (.type "ValueError") = some true)
    (sub_BadRow_RuleError : PySem.W.subIn K (.ref x_BadRow) (.ref x_RuleError) = some true)
    (hd_BadRule : PySem.W.hasDictIn K x_BadRule = true)
    (sb_BadRule : PySem.W.subIn K (.ref x_BadRule) (.type "BaseException") = some true)
    (sub_BadRule_BadPrime : PySem.W.subIn K (.ref x_BadRule) (.ref x_BadPrime) = some false)
    (ne_BadRule_BadPrime : x_BadRule ≠ x_BadPrime)
    (sub_BadRule_BadRow : PySem.W.subIn K (.ref x_BadRule) (.ref x_BadRow) = some false)
    (ne_BadRule_BadRow : x_BadRule ≠ x_BadRow)
    (sub_BadRule_BadPlace : PySem.W.subIn K (.ref x_BadRule) (.ref x_BadPlace) = some false)
    (ne_BadRule_BadPlace : x_BadRule ≠ x_BadPlace)
    (sub_BadRule_TooFew : PySem.W.subIn K (.ref x_BadRule) (.ref x_TooFew) = some false)
    (ne_BadRule_TooFew : x_BadRule ≠ x_TooFew)
    (sub_BadRule_NoWay : PySem.W.subIn K (.ref x_BadRule) (.ref x_NoWay) = some false)
    (ne_BadRule_NoWay : x_BadRule ≠ x_NoWay)
    (sub_BadRule_BadText : PySem.W.subIn K (.ref x_BadRule) (.ref x_BadText) = some false)
    (ne_BadRule_BadText : x_BadRule ≠ x_BadText)
    (sub_BadRule_ValueError : PySem.W.subIn K (.ref x_BadRule) (.type "ValueError") = some true)
    (sub_BadRule_RuleError : PySem.W.subIn K (.ref x_BadRule) (.ref x_RuleError) = some true)
    (hd_BadPlace : PySem.W.hasDictIn K x_BadPlace = true)
    (sb_BadPlace : PySem.W.subIn K (.ref x_BadPlace) (.type "BaseException") = some true)
    (sub_BadPlace_BadPrime : PySem.W.subIn K (.ref x_BadPlace) (.ref x_BadPrime) = some false)
    (ne_BadPlace_BadPrime : x_BadPlace ≠ x_BadPrime)
    (sub_BadPlace_BadRow : PySem.W.subIn K (.ref x_BadPlace) (.ref x_BadRow) = some false)
    (ne_BadPlace_BadRow : x_BadPlace ≠ x_BadRow)
    (sub_BadPlace_BadRule : PySem.W.subIn K (.ref x_BadPlace) (.ref x_BadRule) = some false)
    (ne_BadPlace_BadRule : x_BadPlace ≠ x_BadRule)
    (sub_BadPlace_TooFew : PySem.W.subIn K (.ref x_BadPlace) (.ref x_TooFew) = some false)
    (ne_BadPlace_TooFew : x_BadPlace ≠ x_TooFew)
    (sub_BadPlace_NoWay : PySem.W.subIn K (.ref x_BadPlace) (.ref x_NoWay) = some false)
    (ne_BadPlace_NoWay : x_BadPlace ≠ x_NoWay)
    (sub_BadPlace_BadText : PySem.W.subIn K (.ref x_BadPlace) (.ref x_BadText) = some false)
    (ne_BadPlace_BadText : x_BadPlace ≠ x_BadText)
    (sub_BadPlace_ValueError : PySem.W.subIn K (.ref x_BadPlace) (.type "ValueError") = some true)
    (sub_BadPlace_RuleError : PySem.W.subIn K (.ref x_BadPlace) (.ref x_RuleError) = some true)
    (hd_TooFew : PySem.W.hasDictIn K x_TooFew = true)
    (sb_TooFew : PySem.W.subIn K (.ref x_TooFew) (.type "BaseException") = some true)
    (sub_TooFew_BadPrime : PySem.W.subIn K (.ref x_TooFew) (.ref x_BadPrime) = some false)
    (ne_TooFew_BadPrime : x_TooFew ≠ x_BadPrime)
    (sub_TooFew_BadRow : PySem.W.subIn K (.ref x_TooFew) (.ref x_BadRow) = some false)
    (ne_TooFew_BadRow : x_TooFew ≠ x_BadRow)
    (sub_TooFew_BadRule : PySem.W.subIn K (.ref x_TooFew) (.ref x_BadRule) = some false)
    (ne_TooFew_BadRule : x_TooFew ≠ x_BadRule)
    (sub_TooFew_BadPlace : PySem.W.subIn K (.ref x_TooFew) (.ref x_BadPlace) = some false)
    (ne_TooFew_BadPlace : x_TooFew ≠ x_BadPlace)
    (sub_TooFew_NoWay : PySem.W.subIn K (.ref x_TooFew) (.ref x_NoWay) = some false)
    (ne_TooFew_NoWay : x_TooFew ≠ x_NoWay)
    (sub_TooFew_BadText : PySem.W.subIn K (.ref x_TooFew) (.ref x_BadText) = some false)
    (ne_TooFew_BadText : x_TooFew ≠ x_BadText)
    (sub_TooFew_ValueError : PySem.W.subIn K (.ref x_TooFew) (.type "ValueError") = some true)
    (sub_TooFew_RuleError : PySem.W.subIn K (.ref x_TooFew) (.ref x_RuleError) = some true)
    (hd_NoWay : PySem.W.hasDictIn K x_NoWay = true)
    (sb_NoWay : PySem.W.subIn K (.ref x_NoWay) (.type "BaseException") = some true)
    (sub_NoWay_BadPrime : PySem.W.subIn K (.ref x_NoWay) (.ref x_BadPrime) = some false)
    (ne_NoWay_BadPrime : x_NoWay ≠ x_BadPrime)
    (sub_NoWay_BadRow : PySem.W.subIn K (.ref x_NoWay) (.ref x_BadRow) = some false)
    (ne_NoWay_BadRow : x_NoWay ≠ x_BadRow)
    (sub_NoWay_BadRule : PySem.W.subIn K (.ref x_NoWay) (.ref x_BadRule) = some false)
    (ne_NoWay_BadRule : x_NoWay ≠ x_BadRule)
    (sub_NoWay_BadPlace : PySem.W.subIn K (.ref x_NoWay) (.ref x_BadPlace) = some false)
    (ne_NoWay_BadPlace : x_NoWay ≠ x_BadPlace)
    (sub_NoWay_TooFew : PySem.W.subIn K (.ref x_NoWay) (.ref x_TooFew) = some false)
    (ne_NoWay_TooFew : x_NoWay ≠ x_TooFew)
    (sub_NoWay_BadText : PySem.W.subIn K (.ref x_NoWay) (.ref x_BadText) = some false)
    (ne_NoWay_BadText : x_NoWay ≠ x_BadText)
    (sub_NoWay_ValueError : PySem.W.subIn K (.ref x_NoWay) (.type "ValueError") = some true)
    (sub_NoWay_RuleError : PySem.W.subIn K (.ref x_NoWay) (.ref x_RuleError) = some true)
    (hd_BadText : PySem.W.hasDictIn K x_BadText = true)
    (sb_BadText : PySem.W.subIn K (.ref x_BadText) (.type "BaseException") = some true)
    (sub_BadText_BadPrime : PySem.W.subIn K (.ref x_BadText) (.ref x_BadPrime) = some false)
    (ne_BadText_BadPrime : x_BadText ≠ x_BadPrime)
    (sub_BadText_BadRow : PySem.W.subIn K (.ref x_BadText) (.ref x_BadRow) = some false)
    (ne_BadText_BadRow : x_BadText ≠ x_BadRow)
    (sub_BadText_BadRule : PySem.W.subIn K (.ref x_BadText) (.ref x_BadRule) = some false)
    (ne_BadText_BadRule : x_BadText ≠ x_BadRule)
    (sub_BadText_BadPlace : PySem.W.subIn K (.ref x_BadText) (.ref x_BadPlace) = some false)
    (ne_BadText_BadPlace : x_BadText ≠ x_BadPlace)
    (sub_BadText_TooFew : PySem.W.subIn K (.ref x_BadText) (.ref x_TooFew) = some false)
    (ne_BadText_TooFew : x_BadText ≠ x_TooFew)
    (sub_BadText_NoWay : PySem.W.subIn K (.ref x_BadText) (.ref x_NoWay) = some false)
    (ne_BadText_NoWay : x_BadText ≠ x_NoWay)
    (sub_BadText_ValueError : PySem.W.subIn K (.ref x_BadText) (.type "ValueError") = some true)
    (sub_BadText_RuleError : PySem.W.subIn K (.ref x_BadText) (.ref x_RuleError) = some true)
    (a_is_whole : PySem.W.nsIn K mainGlobals "is_whole" = some (some (.ref x_is_whole)))
    (l_is_whole : K.lookup x_is_whole = some ⟨oc_is_whole, od_is_whole, .func (PySem.W.fnOf "is_whole" "is_whole" (defArgs s_is_whole) (defBody s_is_whole) (defScope s_is_whole) .none kV_is_whole dc_is_whole pm_is_whole an_is_whole cd_is_whole ct_is_whole), sl_is_whole⟩)
    (c_is_whole : PySem.W.codeIn K cd_is_whole "is_whole" = true)
    (k_is_whole : PySem.W.keepIn K (.ref x_is_whole) = true)
    (a_check_prime : PySem.W.nsIn K mainGlobals "check_prime" = some (some (.ref x_check_prime)))
    (l_check_prime : K.lookup x_check_prime = some ⟨oc_check_prime, od_check_prime, .func (PySem.W.fnOf "check_prime" "check_prime" (defArgs s_check_prime) (defBody s_check_prime) (defScope s_check_prime) .none kV_check_prime dc_check_prime pm_check_prime an_check_prime cd_check_prime ct_check_prime), sl_check_prime⟩)
    (c_check_prime : PySem.W.codeIn K cd_check_prime "check_prime" = true)
    (k_check_prime : PySem.W.keepIn K (.ref x_check_prime) = true)
    (a_are_rests : PySem.W.nsIn K mainGlobals "are_rests" = some (some (.ref x_are_rests)))
    (l_are_rests : K.lookup x_are_rests = some ⟨oc_are_rests, od_are_rests, .func (PySem.W.fnOf "are_rests" "are_rests" (defArgs s_are_rests) (defBody s_are_rests) (defScope s_are_rests) .none kV_are_rests dc_are_rests pm_are_rests an_are_rests cd_are_rests ct_are_rests), sl_are_rests⟩)
    (c_are_rests : PySem.W.codeIn K cd_are_rests "are_rests" = true)
    (k_are_rests : PySem.W.keepIn K (.ref x_are_rests) = true)
    (a_check_row : PySem.W.nsIn K mainGlobals "check_row" = some (some (.ref x_check_row)))
    (l_check_row : K.lookup x_check_row = some ⟨oc_check_row, od_check_row, .func (PySem.W.fnOf "check_row" "check_row" (defArgs s_check_row) (defBody s_check_row) (defScope s_check_row) .none kV_check_row dc_check_row pm_check_row an_check_row cd_check_row ct_check_row), sl_check_row⟩)
    (c_check_row : PySem.W.codeIn K cd_check_row "check_row" = true)
    (k_check_row : PySem.W.keepIn K (.ref x_check_row) = true)
    (a_inverse : PySem.W.nsIn K mainGlobals "inverse" = some (some (.ref x_inverse)))
    (l_inverse : K.lookup x_inverse = some ⟨oc_inverse, od_inverse, .func (PySem.W.fnOf "inverse" "inverse" (defArgs s_inverse) (defBody s_inverse) (defScope s_inverse) .none kV_inverse dc_inverse pm_inverse an_inverse cd_inverse ct_inverse), sl_inverse⟩)
    (c_inverse : PySem.W.codeIn K cd_inverse "inverse" = true)
    (k_inverse : PySem.W.keepIn K (.ref x_inverse) = true)
    (a_check_rule : PySem.W.nsIn K mainGlobals "check_rule" = some (some (.ref x_check_rule)))
    (l_check_rule : K.lookup x_check_rule = some ⟨oc_check_rule, od_check_rule, .func (PySem.W.fnOf "check_rule" "check_rule" (defArgs s_check_rule) (defBody s_check_rule) (defScope s_check_rule) .none kV_check_rule dc_check_rule pm_check_rule an_check_rule cd_check_rule ct_check_rule), sl_check_rule⟩)
    (c_check_rule : PySem.W.codeIn K cd_check_rule "check_rule" = true)
    (k_check_rule : PySem.W.keepIn K (.ref x_check_rule) = true)
    (a_due_at : PySem.W.nsIn K mainGlobals "due_at" = some (some (.ref x_due_at)))
    (l_due_at : K.lookup x_due_at = some ⟨oc_due_at, od_due_at, .func (PySem.W.fnOf "due_at" "due_at" (defArgs s_due_at) (defBody s_due_at) (defScope s_due_at) .none kV_due_at dc_due_at pm_due_at an_due_at cd_due_at ct_due_at), sl_due_at⟩)
    (c_due_at : PySem.W.codeIn K cd_due_at "due_at" = true)
    (k_due_at : PySem.W.keepIn K (.ref x_due_at) = true)
    (a_turned : PySem.W.nsIn K mainGlobals "turned" = some (some (.ref x_turned)))
    (l_turned : K.lookup x_turned = some ⟨oc_turned, od_turned, .func (PySem.W.fnOf "turned" "turned" (defArgs s_turned) (defBody s_turned) (defScope s_turned) .none kV_turned dc_turned pm_turned an_turned cd_turned ct_turned), sl_turned⟩)
    (c_turned : PySem.W.codeIn K cd_turned "turned" = true)
    (k_turned : PySem.W.keepIn K (.ref x_turned) = true)
    (a_told_back : PySem.W.nsIn K mainGlobals "told_back" = some (some (.ref x_told_back)))
    (l_told_back : K.lookup x_told_back = some ⟨oc_told_back, od_told_back, .func (PySem.W.fnOf "told_back" "told_back" (defArgs s_told_back) (defBody s_told_back) (defScope s_told_back) .none kV_told_back dc_told_back pm_told_back an_told_back cd_told_back ct_told_back), sl_told_back⟩)
    (c_told_back : PySem.W.codeIn K cd_told_back "told_back" = true)
    (k_told_back : PySem.W.keepIn K (.ref x_told_back) = true)
    (a_least : PySem.W.nsIn K mainGlobals "least" = some (some (.ref x_least)))
    (l_least : K.lookup x_least = some ⟨oc_least, od_least, .func (PySem.W.fnOf "least" "least" (defArgs s_least) (defBody s_least) (defScope s_least) .none kV_least dc_least pm_least an_least cd_least ct_least), sl_least⟩)
    (c_least : PySem.W.codeIn K cd_least "least" = true)
    (k_least : PySem.W.keepIn K (.ref x_least) = true)
    (a__law_cell_at : PySem.W.nsIn K mainGlobals "_law_cell_at" = some (some (.ref x__law_cell_at)))
    (l__law_cell_at : K.lookup x__law_cell_at = some ⟨oc__law_cell_at, od__law_cell_at, .func (PySem.W.fnOf "_law_cell_at" "_law_cell_at" (defArgs s__law_cell_at) (defBody s__law_cell_at) (defScope s__law_cell_at) .none kV__law_cell_at dc__law_cell_at pm__law_cell_at an__law_cell_at cd__law_cell_at ct__law_cell_at), sl__law_cell_at⟩)
    (c__law_cell_at : PySem.W.codeIn K cd__law_cell_at "_law_cell_at" = true)
    (k__law_cell_at : PySem.W.keepIn K (.ref x__law_cell_at) = true)
    (a__law_draw : PySem.W.nsIn K mainGlobals "_law_draw" = some (some (.ref x__law_draw)))
    (l__law_draw : K.lookup x__law_draw = some ⟨oc__law_draw, od__law_draw, .func (PySem.W.fnOf "_law_draw" "_law_draw" (defArgs s__law_draw) (defBody s__law_draw) (defScope s__law_draw) .none kV__law_draw dc__law_draw pm__law_draw an__law_draw cd__law_draw ct__law_draw), sl__law_draw⟩)
    (c__law_draw : PySem.W.codeIn K cd__law_draw "_law_draw" = true)
    (k__law_draw : PySem.W.keepIn K (.ref x__law_draw) = true)
    (a__law_rests : PySem.W.nsIn K mainGlobals "_law_rests" = some (some (.ref x__law_rests)))
    (l__law_rests : K.lookup x__law_rests = some ⟨oc__law_rests, od__law_rests, .func (PySem.W.fnOf "_law_rests" "_law_rests" (defArgs s__law_rests) (defBody s__law_rests) (defScope s__law_rests) .none kV__law_rests dc__law_rests pm__law_rests an__law_rests cd__law_rests ct__law_rests), sl__law_rests⟩)
    (c__law_rests : PySem.W.codeIn K cd__law_rests "_law_rests" = true)
    (k__law_rests : PySem.W.keepIn K (.ref x__law_rests) = true)
    (a__law_due : PySem.W.nsIn K mainGlobals "_law_due" = some (some (.ref x__law_due)))
    (l__law_due : K.lookup x__law_due = some ⟨oc__law_due, od__law_due, .func (PySem.W.fnOf "_law_due" "_law_due" (defArgs s__law_due) (defBody s__law_due) (defScope s__law_due) .none kV__law_due dc__law_due pm__law_due an__law_due cd__law_due ct__law_due), sl__law_due⟩)
    (c__law_due : PySem.W.codeIn K cd__law_due "_law_due" = true)
    (k__law_due : PySem.W.keepIn K (.ref x__law_due) = true)
    (a__law_row : PySem.W.nsIn K mainGlobals "_law_row" = some (some (.ref x__law_row)))
    (l__law_row : K.lookup x__law_row = some ⟨oc__law_row, od__law_row, .func (PySem.W.fnOf "_law_row" "_law_row" (defArgs s__law_row) (defBody s__law_row) (defScope s__law_row) .none kV__law_row dc__law_row pm__law_row an__law_row cd__law_row ct__law_row), sl__law_row⟩)
    (c__law_row : PySem.W.codeIn K cd__law_row "_law_row" = true)
    (k__law_row : PySem.W.keepIn K (.ref x__law_row) = true)
    (a_makes : PySem.W.nsIn K mainGlobals "makes" = some (some (.ref x_makes)))
    (l_makes : K.lookup x_makes = some ⟨oc_makes, od_makes, .func (PySem.W.fnOf "makes" "makes" (defArgs s_makes) (defBody s_makes) (defScope s_makes) .none kV_makes dc_makes pm_makes an_makes cd_makes ct_makes), sl_makes⟩)
    (c_makes : PySem.W.codeIn K cd_makes "makes" = true)
    (k_makes : PySem.W.keepIn K (.ref x_makes) = true)
    (a_both : PySem.W.nsIn K mainGlobals "both" = some (some (.ref x_both)))
    (l_both : K.lookup x_both = some ⟨oc_both, od_both, .func (PySem.W.fnOf "both" "both" (defArgs s_both) (defBody s_both) (defScope s_both) .none kV_both dc_both pm_both an_both cd_both ct_both), sl_both⟩)
    (c_both : PySem.W.codeIn K cd_both "both" = true)
    (k_both : PySem.W.keepIn K (.ref x_both) = true)
    (a_unlike : PySem.W.nsIn K mainGlobals "unlike" = some (some (.ref x_unlike)))
    (l_unlike : K.lookup x_unlike = some ⟨oc_unlike, od_unlike, .func (PySem.W.fnOf "unlike" "unlike" (defArgs s_unlike) (defBody s_unlike) (defScope s_unlike) .none kV_unlike dc_unlike pm_unlike an_unlike cd_unlike ct_unlike), sl_unlike⟩)
    (c_unlike : PySem.W.codeIn K cd_unlike "unlike" = true)
    (k_unlike : PySem.W.keepIn K (.ref x_unlike) = true)
    (a_written : PySem.W.nsIn K mainGlobals "written" = some (some (.ref x_written)))
    (l_written : K.lookup x_written = some ⟨oc_written, od_written, .func (PySem.W.fnOf "written" "written" (defArgs s_written) (defBody s_written) (defScope s_written) .none kV_written dc_written pm_written an_written cd_written ct_written), sl_written⟩)
    (c_written : PySem.W.codeIn K cd_written "written" = true)
    (k_written : PySem.W.keepIn K (.ref x_written) = true)
    (a_check_going : PySem.W.nsIn K mainGlobals "check_going" = some (some (.ref x_check_going)))
    (l_check_going : K.lookup x_check_going = some ⟨oc_check_going, od_check_going, .func (PySem.W.fnOf "check_going" "check_going" (defArgs s_check_going) (defBody s_check_going) (defScope s_check_going) .none kV_check_going dc_check_going pm_check_going an_check_going cd_check_going ct_check_going), sl_check_going⟩)
    (c_check_going : PySem.W.codeIn K cd_check_going "check_going" = true)
    (k_check_going : PySem.W.keepIn K (.ref x_check_going) = true)
    (a_far : PySem.W.nsIn K mainGlobals "far" = some (some (.ref x_far)))
    (l_far : K.lookup x_far = some ⟨oc_far, od_far, .func (PySem.W.fnOf "far" "far" (defArgs s_far) (defBody s_far) (defScope s_far) .none kV_far dc_far pm_far an_far cd_far ct_far), sl_far⟩)
    (c_far : PySem.W.codeIn K cd_far "far" = true)
    (k_far : PySem.W.keepIn K (.ref x_far) = true)
    (a_go_on : PySem.W.nsIn K mainGlobals "go_on" = some (some (.ref x_go_on)))
    (l_go_on : K.lookup x_go_on = some ⟨oc_go_on, od_go_on, .func (PySem.W.fnOf "go_on" "go_on" (defArgs s_go_on) (defBody s_go_on) (defScope s_go_on) .none kV_go_on dc_go_on pm_go_on an_go_on cd_go_on ct_go_on), sl_go_on⟩)
    (c_go_on : PySem.W.codeIn K cd_go_on "go_on" = true)
    (k_go_on : PySem.W.keepIn K (.ref x_go_on) = true)
    (a_backwards : PySem.W.nsIn K mainGlobals "backwards" = some (some (.ref x_backwards)))
    (l_backwards : K.lookup x_backwards = some ⟨oc_backwards, od_backwards, .func (PySem.W.fnOf "backwards" "backwards" (defArgs s_backwards) (defBody s_backwards) (defScope s_backwards) .none kV_backwards dc_backwards pm_backwards an_backwards cd_backwards ct_backwards), sl_backwards⟩)
    (c_backwards : PySem.W.codeIn K cd_backwards "backwards" = true)
    (k_backwards : PySem.W.keepIn K (.ref x_backwards) = true)
    (a__law_more : PySem.W.nsIn K mainGlobals "_law_more" = some (some (.ref x__law_more)))
    (l__law_more : K.lookup x__law_more = some ⟨oc__law_more, od__law_more, .func (PySem.W.fnOf "_law_more" "_law_more" (defArgs s__law_more) (defBody s__law_more) (defScope s__law_more) .none kV__law_more dc__law_more pm__law_more an__law_more cd__law_more ct__law_more), sl__law_more⟩)
    (c__law_more : PySem.W.codeIn K cd__law_more "_law_more" = true)
    (k__law_more : PySem.W.keepIn K (.ref x__law_more) = true)
    (a__law_with_prime : PySem.W.nsIn K mainGlobals "_law_with_prime" = some (some (.ref x__law_with_prime)))
    (l__law_with_prime : K.lookup x__law_with_prime = some ⟨oc__law_with_prime, od__law_with_prime, .func (PySem.W.fnOf "_law_with_prime" "_law_with_prime" (defArgs s__law_with_prime) (defBody s__law_with_prime) (defScope s__law_with_prime) .none kV__law_with_prime dc__law_with_prime pm__law_with_prime an__law_with_prime cd__law_with_prime ct__law_with_prime), sl__law_with_prime⟩)
    (c__law_with_prime : PySem.W.codeIn K cd__law_with_prime "_law_with_prime" = true)
    (k__law_with_prime : PySem.W.keepIn K (.ref x__law_with_prime) = true)
    (a__law_with_rule : PySem.W.nsIn K mainGlobals "_law_with_rule" = some (some (.ref x__law_with_rule)))
    (l__law_with_rule : K.lookup x__law_with_rule = some ⟨oc__law_with_rule, od__law_with_rule, .func (PySem.W.fnOf "_law_with_rule" "_law_with_rule" (defArgs s__law_with_rule) (defBody s__law_with_rule) (defScope s__law_with_rule) .none kV__law_with_rule dc__law_with_rule pm__law_with_rule an__law_with_rule cd__law_with_rule ct__law_with_rule), sl__law_with_rule⟩)
    (c__law_with_rule : PySem.W.codeIn K cd__law_with_rule "_law_with_rule" = true)
    (k__law_with_rule : PySem.W.keepIn K (.ref x__law_with_rule) = true)
    (a__law_with_row : PySem.W.nsIn K mainGlobals "_law_with_row" = some (some (.ref x__law_with_row)))
    (l__law_with_row : K.lookup x__law_with_row = some ⟨oc__law_with_row, od__law_with_row, .func (PySem.W.fnOf "_law_with_row" "_law_with_row" (defArgs s__law_with_row) (defBody s__law_with_row) (defScope s__law_with_row) .none kV__law_with_row dc__law_with_row pm__law_with_row an__law_with_row cd__law_with_row ct__law_with_row), sl__law_with_row⟩)
    (c__law_with_row : PySem.W.codeIn K cd__law_with_row "_law_with_row" = true)
    (k__law_with_row : PySem.W.keepIn K (.ref x__law_with_row) = true)
    (a__law_with_few : PySem.W.nsIn K mainGlobals "_law_with_few" = some (some (.ref x__law_with_few)))
    (l__law_with_few : K.lookup x__law_with_few = some ⟨oc__law_with_few, od__law_with_few, .func (PySem.W.fnOf "_law_with_few" "_law_with_few" (defArgs s__law_with_few) (defBody s__law_with_few) (defScope s__law_with_few) .none kV__law_with_few dc__law_with_few pm__law_with_few an__law_with_few cd__law_with_few ct__law_with_few), sl__law_with_few⟩)
    (c__law_with_few : PySem.W.codeIn K cd__law_with_few "_law_with_few" = true)
    (k__law_with_few : PySem.W.keepIn K (.ref x__law_with_few) = true)
    (a__law_with_place : PySem.W.nsIn K mainGlobals "_law_with_place" = some (some (.ref x__law_with_place)))
    (l__law_with_place : K.lookup x__law_with_place = some ⟨oc__law_with_place, od__law_with_place, .func (PySem.W.fnOf "_law_with_place" "_law_with_place" (defArgs s__law_with_place) (defBody s__law_with_place) (defScope s__law_with_place) .none kV__law_with_place dc__law_with_place pm__law_with_place an__law_with_place cd__law_with_place ct__law_with_place), sl__law_with_place⟩)
    (c__law_with_place : PySem.W.codeIn K cd__law_with_place "_law_with_place" = true)
    (k__law_with_place : PySem.W.keepIn K (.ref x__law_with_place) = true)
    (a__law_kinds : PySem.W.nsIn K mainGlobals "_law_kinds" = some (some (.ref x__law_kinds)))
    (l__law_kinds : K.lookup x__law_kinds = some ⟨oc__law_kinds, od__law_kinds, .func (PySem.W.fnOf "_law_kinds" "_law_kinds" (defArgs s__law_kinds) (defBody s__law_kinds) (defScope s__law_kinds) .none kV__law_kinds dc__law_kinds pm__law_kinds an__law_kinds cd__law_kinds ct__law_kinds), sl__law_kinds⟩)
    (c__law_kinds : PySem.W.codeIn K cd__law_kinds "_law_kinds" = true)
    (k__law_kinds : PySem.W.keepIn K (.ref x__law_kinds) = true)
    (a__law_told : PySem.W.nsIn K mainGlobals "_law_told" = some (some (.ref x__law_told)))
    (l__law_told : K.lookup x__law_told = some ⟨oc__law_told, od__law_told, .func (PySem.W.fnOf "_law_told" "_law_told" (defArgs s__law_told) (defBody s__law_told) (defScope s__law_told) .none kV__law_told dc__law_told pm__law_told an__law_told cd__law_told ct__law_told), sl__law_told⟩)
    (c__law_told : PySem.W.codeIn K cd__law_told "_law_told" = true)
    (k__law_told : PySem.W.keepIn K (.ref x__law_told) = true)
    (a__law_all : PySem.W.nsIn K mainGlobals "_law_all" = some (some (.ref x__law_all)))
    (l__law_all : K.lookup x__law_all = some ⟨oc__law_all, od__law_all, .func (PySem.W.fnOf "_law_all" "_law_all" (defArgs s__law_all) (defBody s__law_all) (defScope s__law_all) .none kV__law_all dc__law_all pm__law_all an__law_all cd__law_all ct__law_all), sl__law_all⟩)
    (c__law_all : PySem.W.codeIn K cd__law_all "_law_all" = true)
    (k__law_all : PySem.W.keepIn K (.ref x__law_all) = true)
    (a_law : PySem.W.nsIn K mainGlobals "law" = some (some (.ref x_law)))
    (l_law : K.lookup x_law = some ⟨oc_law, od_law, .func (PySem.W.fnOf "law" "law" (defArgs s_law) (defBody s_law) (defScope s_law) .none kV_law dc_law pm_law an_law cd_law ct_law), sl_law⟩)
    (c_law : PySem.W.codeIn K cd_law "law" = true)
    (k_law : PySem.W.keepIn K (.ref x_law) = true)
    (z_len : PySem.W.nsIn K mainGlobals "len" = some none)
    (z_sum : PySem.W.nsIn K mainGlobals "sum" = some none)
    (z_all : PySem.W.nsIn K mainGlobals "all" = some none)
    (z_any : PySem.W.nsIn K mainGlobals "any" = some none)
    (z_list : PySem.W.nsIn K mainGlobals "list" = some none)
    (z_max : PySem.W.nsIn K mainGlobals "max" = some none)
    (z_isinstance : PySem.W.nsIn K mainGlobals "isinstance" = some none)
    (z_range : PySem.W.nsIn K mainGlobals "range" = some none)
    (z_enumerate : PySem.W.nsIn K mainGlobals "enumerate" = some none)
    (z_int : PySem.W.nsIn K mainGlobals "int" = some none)
    (z_bool : PySem.W.nsIn K mainGlobals "bool" = some none)
    (z_abs : PySem.W.nsIn K mainGlobals "abs" = some none)
    (z_reversed : PySem.W.nsIn K mainGlobals "reversed" = some none)
    (z_str : PySem.W.nsIn K mainGlobals "str" = some none)
    (z_tuple : PySem.W.nsIn K mainGlobals "tuple" = some none)
    (z_ValueError : PySem.W.nsIn K mainGlobals "ValueError" = some none)
    (z_GREATEST : PySem.W.nsIn K mainGlobals "GREATEST" = some (some (.int 997 u_GREATEST))) : Txt K mg where
  a_is_whole := x_is_whole
  f_is_whole := _
  F_is_whole := fun_mk (st := s_is_whole) l_is_whole c_is_whole k_is_whole
  b_is_whole := (fun_mk (st := s_is_whole) l_is_whole c_is_whole k_is_whole).binds (ps := ["thing"]) fun _ _ _ _ _ _ us hl => match us, hl with | [_], _ => rfl
  g_is_whole := PySem.W.mg_of X G a_is_whole
  a_check_prime := x_check_prime
  f_check_prime := _
  F_check_prime := fun_mk (st := s_check_prime) l_check_prime c_check_prime k_check_prime
  b_check_prime := (fun_mk (st := s_check_prime) l_check_prime c_check_prime k_check_prime).binds (ps := ["prime"]) fun _ _ _ _ _ _ us hl => match us, hl with | [_], _ => rfl
  g_check_prime := PySem.W.mg_of X G a_check_prime
  a_are_rests := x_are_rests
  f_are_rests := _
  F_are_rests := fun_mk (st := s_are_rests) l_are_rests c_are_rests k_are_rests
  b_are_rests := (fun_mk (st := s_are_rests) l_are_rests c_are_rests k_are_rests).binds (ps := ["prime", "thing"]) fun _ _ _ _ _ _ us hl => match us, hl with | [_, _], _ => rfl
  g_are_rests := PySem.W.mg_of X G a_are_rests
  a_check_row := x_check_row
  f_check_row := _
  F_check_row := fun_mk (st := s_check_row) l_check_row c_check_row k_check_row
  b_check_row := (fun_mk (st := s_check_row) l_check_row c_check_row k_check_row).binds (ps := ["prime", "row"]) fun _ _ _ _ _ _ us hl => match us, hl with | [_, _], _ => rfl
  g_check_row := PySem.W.mg_of X G a_check_row
  a_inverse := x_inverse
  f_inverse := _
  F_inverse := fun_mk (st := s_inverse) l_inverse c_inverse k_inverse
  b_inverse := (fun_mk (st := s_inverse) l_inverse c_inverse k_inverse).binds (ps := ["prime", "rest"]) fun _ _ _ _ _ _ us hl => match us, hl with | [_, _], _ => rfl
  g_inverse := PySem.W.mg_of X G a_inverse
  a_check_rule := x_check_rule
  f_check_rule := _
  F_check_rule := fun_mk (st := s_check_rule) l_check_rule c_check_rule k_check_rule
  b_check_rule := (fun_mk (st := s_check_rule) l_check_rule c_check_rule k_check_rule).binds (ps := ["prime", "rule"]) fun _ _ _ _ _ _ us hl => match us, hl with | [_, _], _ => rfl
  g_check_rule := PySem.W.mg_of X G a_check_rule
  a_due_at := x_due_at
  f_due_at := _
  F_due_at := fun_mk (st := s_due_at) l_due_at c_due_at k_due_at
  b_due_at := (fun_mk (st := s_due_at) l_due_at c_due_at k_due_at).binds (ps := ["prime", "rule", "row", "place"]) fun _ _ _ _ _ _ us hl => match us, hl with | [_, _, _, _], _ => rfl
  g_due_at := PySem.W.mg_of X G a_due_at
  a_turned := x_turned
  f_turned := _
  F_turned := fun_mk (st := s_turned) l_turned c_turned k_turned
  b_turned := (fun_mk (st := s_turned) l_turned c_turned k_turned).binds (ps := ["prime", "rule"]) fun _ _ _ _ _ _ us hl => match us, hl with | [_, _], _ => rfl
  g_turned := PySem.W.mg_of X G a_turned
  a_told_back := x_told_back
  f_told_back := _
  F_told_back := fun_mk (st := s_told_back) l_told_back c_told_back k_told_back
  b_told_back := (fun_mk (st := s_told_back) l_told_back c_told_back k_told_back).binds (ps := ["prime", "rests"]) fun _ _ _ _ _ _ us hl => match us, hl with | [_, _], _ => rfl
  g_told_back := PySem.W.mg_of X G a_told_back
  a_least := x_least
  f_least := _
  F_least := fun_mk (st := s_least) l_least c_least k_least
  b_least := (fun_mk (st := s_least) l_least c_least k_least).binds (ps := ["prime", "row"]) fun _ _ _ _ _ _ us hl => match us, hl with | [_, _], _ => rfl
  g_least := PySem.W.mg_of X G a_least
  a__law_cell_at := x__law_cell_at
  f__law_cell_at := _
  F__law_cell_at := fun_mk (st := s__law_cell_at) l__law_cell_at c__law_cell_at k__law_cell_at
  b__law_cell_at := (fun_mk (st := s__law_cell_at) l__law_cell_at c__law_cell_at k__law_cell_at).binds (ps := ["_law_script", "_law_k"]) fun _ _ _ _ _ _ us hl => match us, hl with | [_, _], _ => rfl
  g__law_cell_at := PySem.W.mg_of X G a__law_cell_at
  a__law_draw := x__law_draw
  f__law_draw := _
  F__law_draw := fun_mk (st := s__law_draw) l__law_draw c__law_draw k__law_draw
  b__law_draw := (fun_mk (st := s__law_draw) l__law_draw c__law_draw k__law_draw).binds (ps := ["_law_cell", "_law_k", "_law_many"]) fun _ _ _ _ _ _ us hl => match us, hl with | [_, _, _], _ => rfl
  g__law_draw := PySem.W.mg_of X G a__law_draw
  a__law_rests := x__law_rests
  f__law_rests := _
  F__law_rests := fun_mk (st := s__law_rests) l__law_rests c__law_rests k__law_rests
  b__law_rests := (fun_mk (st := s__law_rests) l__law_rests c__law_rests k__law_rests).binds (ps := ["_law_script", "_law_by", "_law_prime_here", "_law_many"]) fun _ _ _ _ _ _ us hl => match us, hl with | [_, _, _, _], _ => rfl
  g__law_rests := PySem.W.mg_of X G a__law_rests
  a__law_due := x__law_due
  f__law_due := _
  F__law_due := fun_mk (st := s__law_due) l__law_due c__law_due k__law_due
  b__law_due := (fun_mk (st := s__law_due) l__law_due c__law_due k__law_due).binds (ps := ["_law_prime_here", "_law_rule", "_law_row_here", "_law_place"]) fun _ _ _ _ _ _ us hl => match us, hl with | [_, _, _, _], _ => rfl
  g__law_due := PySem.W.mg_of X G a__law_due
  a__law_row := x__law_row
  f__law_row := _
  F__law_row := fun_mk (st := s__law_row) l__law_row c__law_row k__law_row
  b__law_row := (fun_mk (st := s__law_row) l__law_row c__law_row k__law_row).binds (ps := ["_law_script", "_law_prime_here"]) fun _ _ _ _ _ _ us hl => match us, hl with | [_, _], _ => rfl
  g__law_row := PySem.W.mg_of X G a__law_row
  a_makes := x_makes
  f_makes := _
  F_makes := fun_mk (st := s_makes) l_makes c_makes k_makes
  b_makes := (fun_mk (st := s_makes) l_makes c_makes k_makes).binds (ps := ["prime", "rule", "row"]) fun _ _ _ _ _ _ us hl => match us, hl with | [_, _, _], _ => rfl
  g_makes := PySem.W.mg_of X G a_makes
  a_both := x_both
  f_both := _
  F_both := fun_mk (st := s_both) l_both c_both k_both
  b_both := (fun_mk (st := s_both) l_both c_both k_both).binds (ps := ["prime", "one", "other"]) fun _ _ _ _ _ _ us hl => match us, hl with | [_, _, _], _ => rfl
  g_both := PySem.W.mg_of X G a_both
  a_unlike := x_unlike
  f_unlike := _
  F_unlike := fun_mk (st := s_unlike) l_unlike c_unlike k_unlike
  b_unlike := (fun_mk (st := s_unlike) l_unlike c_unlike k_unlike).binds (ps := ["prime", "row"]) fun _ _ _ _ _ _ us hl => match us, hl with | [_, _], _ => rfl
  g_unlike := PySem.W.mg_of X G a_unlike
  a_written := x_written
  f_written := _
  F_written := fun_mk (st := s_written) l_written c_written k_written
  b_written := (fun_mk (st := s_written) l_written c_written k_written).binds (ps := ["prime", "row"]) fun _ _ _ _ _ _ us hl => match us, hl with | [_, _], _ => rfl
  g_written := PySem.W.mg_of X G a_written
  a_check_going := x_check_going
  f_check_going := _
  F_check_going := fun_mk (st := s_check_going) l_check_going c_check_going k_check_going
  b_check_going := (fun_mk (st := s_check_going) l_check_going c_check_going k_check_going).binds (ps := ["prime", "rule", "row", "many"]) fun _ _ _ _ _ _ us hl => match us, hl with | [_, _, _, _], _ => rfl
  g_check_going := PySem.W.mg_of X G a_check_going
  a_far := x_far
  f_far := _
  F_far := fun_mk (st := s_far) l_far c_far k_far
  b_far := (fun_mk (st := s_far) l_far c_far k_far).binds (ps := ["prime", "rule", "row", "place"]) fun _ _ _ _ _ _ us hl => match us, hl with | [_, _, _, _], _ => rfl
  g_far := PySem.W.mg_of X G a_far
  a_go_on := x_go_on
  f_go_on := _
  F_go_on := fun_mk (st := s_go_on) l_go_on c_go_on k_go_on
  b_go_on := (fun_mk (st := s_go_on) l_go_on c_go_on k_go_on).binds (ps := ["prime", "rule", "row", "many"]) fun _ _ _ _ _ _ us hl => match us, hl with | [_, _, _, _], _ => rfl
  g_go_on := PySem.W.mg_of X G a_go_on
  a_backwards := x_backwards
  f_backwards := _
  F_backwards := fun_mk (st := s_backwards) l_backwards c_backwards k_backwards
  b_backwards := (fun_mk (st := s_backwards) l_backwards c_backwards k_backwards).binds (ps := ["prime", "rule"]) fun _ _ _ _ _ _ us hl => match us, hl with | [_, _], _ => rfl
  g_backwards := PySem.W.mg_of X G a_backwards
  a__law_more := x__law_more
  f__law_more := _
  F__law_more := fun_mk (st := s__law_more) l__law_more c__law_more k__law_more
  b__law_more := (fun_mk (st := s__law_more) l__law_more c__law_more k__law_more).binds (ps := ["_law_door", "_law_prime_here"]) fun _ _ _ _ _ _ us hl => match us, hl with | [_, _], _ => rfl
  g__law_more := PySem.W.mg_of X G a__law_more
  a__law_with_prime := x__law_with_prime
  f__law_with_prime := _
  F__law_with_prime := fun_mk (st := s__law_with_prime) l__law_with_prime c__law_with_prime k__law_with_prime
  b__law_with_prime := (fun_mk (st := s__law_with_prime) l__law_with_prime c__law_with_prime k__law_with_prime).binds (ps := ["_law_door", "_law_prime_here"]) fun _ _ _ _ _ _ us hl => match us, hl with | [_, _], _ => rfl
  g__law_with_prime := PySem.W.mg_of X G a__law_with_prime
  a__law_with_rule := x__law_with_rule
  f__law_with_rule := _
  F__law_with_rule := fun_mk (st := s__law_with_rule) l__law_with_rule c__law_with_rule k__law_with_rule
  b__law_with_rule := (fun_mk (st := s__law_with_rule) l__law_with_rule c__law_with_rule k__law_with_rule).binds (ps := ["_law_door", "_law_rule"]) fun _ _ _ _ _ _ us hl => match us, hl with | [_, _], _ => rfl
  g__law_with_rule := PySem.W.mg_of X G a__law_with_rule
  a__law_with_row := x__law_with_row
  f__law_with_row := _
  F__law_with_row := fun_mk (st := s__law_with_row) l__law_with_row c__law_with_row k__law_with_row
  b__law_with_row := (fun_mk (st := s__law_with_row) l__law_with_row c__law_with_row k__law_with_row).binds (ps := ["_law_door", "_law_row_here"]) fun _ _ _ _ _ _ us hl => match us, hl with | [_, _], _ => rfl
  g__law_with_row := PySem.W.mg_of X G a__law_with_row
  a__law_with_few := x__law_with_few
  f__law_with_few := _
  F__law_with_few := fun_mk (st := s__law_with_few) l__law_with_few c__law_with_few k__law_with_few
  b__law_with_few := (fun_mk (st := s__law_with_few) l__law_with_few c__law_with_few k__law_with_few).binds (ps := ["_law_door", "_law_row_here"]) fun _ _ _ _ _ _ us hl => match us, hl with | [_, _], _ => rfl
  g__law_with_few := PySem.W.mg_of X G a__law_with_few
  a__law_with_place := x__law_with_place
  f__law_with_place := _
  F__law_with_place := fun_mk (st := s__law_with_place) l__law_with_place c__law_with_place k__law_with_place
  b__law_with_place := (fun_mk (st := s__law_with_place) l__law_with_place c__law_with_place k__law_with_place).binds (ps := ["_law_door", "_law_place"]) fun _ _ _ _ _ _ us hl => match us, hl with | [_, _], _ => rfl
  g__law_with_place := PySem.W.mg_of X G a__law_with_place
  a__law_kinds := x__law_kinds
  f__law_kinds := _
  F__law_kinds := fun_mk (st := s__law_kinds) l__law_kinds c__law_kinds k__law_kinds
  b__law_kinds := (fun_mk (st := s__law_kinds) l__law_kinds c__law_kinds k__law_kinds).binds (ps := ["_law_error"]) fun _ _ _ _ _ _ us hl => match us, hl with | [_], _ => rfl
  g__law_kinds := PySem.W.mg_of X G a__law_kinds
  a__law_told := x__law_told
  f__law_told := _
  F__law_told := fun_mk (st := s__law_told) l__law_told c__law_told k__law_told
  b__law_told := (fun_mk (st := s__law_told) l__law_told c__law_told k__law_told).binds (ps := ["_law_ask", "_law_one", "_law_other"]) fun _ _ _ _ _ _ us hl => match us, hl with | [_, _, _], _ => rfl
  g__law_told := PySem.W.mg_of X G a__law_told
  a__law_all := x__law_all
  f__law_all := _
  F__law_all := fun_mk (st := s__law_all) l__law_all c__law_all k__law_all
  b__law_all := (fun_mk (st := s__law_all) l__law_all c__law_all k__law_all).binds (ps := ["_law_ask", "_law_doors", "_law_things", "_law_due_here"]) fun _ _ _ _ _ _ us hl => match us, hl with | [_, _, _, _], _ => rfl
  g__law_all := PySem.W.mg_of X G a__law_all
  a_law := x_law
  f_law := _
  F_law := fun_mk (st := s_law) l_law c_law k_law
  b_law := (fun_mk (st := s_law) l_law c_law k_law).binds (ps := ["_law_script"]) fun _ _ _ _ _ _ us hl => match us, hl with | [_], _ => rfl
  g_law := PySem.W.mg_of X G a_law
  a_RuleError := x_RuleError
  g_RuleError := PySem.W.mg_of X G ac_RuleError
  a_BadPrime := x_BadPrime
  g_BadPrime := PySem.W.mg_of X G ac_BadPrime
  x_BadPrime := xk_BadPrime
  kp_BadPrime := kc_BadPrime
  s_BadPrime := sb_BadPrime
  t_BadPrime := ty_BadPrime
  xc_BadPrime := ⟨q1_BadPrime, q2_BadPrime, sb_BadPrime, hd_BadPrime, q3_BadPrime, j2, j3, q4_BadPrime⟩
  isa_BadPrime_BadPrime := kit_self
  isa_BadPrime_BadRow := kit_own is_BadRow ty_BadRow sub_BadPrime_BadRow (.inr ne_BadPrime_BadRow)
  isa_BadPrime_BadRule := kit_own is_BadRule ty_BadRule sub_BadPrime_BadRule (.inr ne_BadPrime_BadRule)
  isa_BadPrime_BadPlace := kit_own is_BadPlace ty_BadPlace sub_BadPrime_BadPlace (.inr ne_BadPrime_BadPlace)
  isa_BadPrime_TooFew := kit_own is_TooFew ty_TooFew sub_BadPrime_TooFew (.inr ne_BadPrime_TooFew)
  isa_BadPrime_NoWay := kit_own is_NoWay ty_NoWay sub_BadPrime_NoWay (.inr ne_BadPrime_NoWay)
  isa_BadPrime_BadText := kit_own is_BadText ty_BadText sub_BadPrime_BadText (.inr ne_BadPrime_BadText)
  isa_BadPrime_ValueError := kit_blt (by decide +kernel) sub_BadPrime_ValueError
  exm_BadPrime_RuleError := PySem.W.exm_ref sb_RuleError hd_RuleError ty_RuleError sub_BadPrime_RuleError
  a_BadRow := x_BadRow
  g_BadRow := PySem.W.mg_of X G ac_BadRow
  x_BadRow := xk_BadRow
  kp_BadRow := kc_BadRow
  s_BadRow := sb_BadRow
  t_BadRow := ty_BadRow
  xc_BadRow := ⟨q1_BadRow, q2_BadRow, sb_BadRow, hd_BadRow, q3_BadRow, j2, j3, q4_BadRow⟩
  isa_BadRow_BadPrime := kit_own is_BadPrime ty_BadPrime sub_BadRow_BadPrime (.inr ne_BadRow_BadPrime)
  isa_BadRow_BadRow := kit_self
  isa_BadRow_BadRule := kit_own is_BadRule ty_BadRule sub_BadRow_BadRule (.inr ne_BadRow_BadRule)
  isa_BadRow_BadPlace := kit_own is_BadPlace ty_BadPlace sub_BadRow_BadPlace (.inr ne_BadRow_BadPlace)
  isa_BadRow_TooFew := kit_own is_TooFew ty_TooFew sub_BadRow_TooFew (.inr ne_BadRow_TooFew)
  isa_BadRow_NoWay := kit_own is_NoWay ty_NoWay sub_BadRow_NoWay (.inr ne_BadRow_NoWay)
  isa_BadRow_BadText := kit_own is_BadText ty_BadText sub_BadRow_BadText (.inr ne_BadRow_BadText)
  isa_BadRow_ValueError := kit_blt (by decide +kernel) sub_BadRow_ValueError
  exm_BadRow_RuleError := PySem.W.exm_ref sb_RuleError hd_RuleError ty_RuleError sub_BadRow_RuleError
  a_BadRule := x_BadRule
  g_BadRule := PySem.W.mg_of X G ac_BadRule
  x_BadRule := xk_BadRule
  kp_BadRule := kc_BadRule
  s_BadRule := sb_BadRule
  t_BadRule := ty_BadRule
  xc_BadRule := ⟨q1_BadRule, q2_BadRule, sb_BadRule, hd_BadRule, q3_BadRule, j2, j3, q4_BadRule⟩
  isa_BadRule_BadPrime := kit_own is_BadPrime ty_BadPrime sub_BadRule_BadPrime (.inr ne_BadRule_BadPrime)
  isa_BadRule_BadRow := kit_own is_BadRow ty_BadRow sub_BadRule_BadRow (.inr ne_BadRule_BadRow)
  isa_BadRule_BadRule := kit_self
  isa_BadRule_BadPlace := kit_own is_BadPlace ty_BadPlace sub_BadRule_BadPlace (.inr ne_BadRule_BadPlace)
  isa_BadRule_TooFew := kit_own is_TooFew ty_TooFew sub_BadRule_TooFew (.inr ne_BadRule_TooFew)
  isa_BadRule_NoWay := kit_own is_NoWay ty_NoWay sub_BadRule_NoWay (.inr ne_BadRule_NoWay)
  isa_BadRule_BadText := kit_own is_BadText ty_BadText sub_BadRule_BadText (.inr ne_BadRule_BadText)
  isa_BadRule_ValueError := kit_blt (by decide +kernel) sub_BadRule_ValueError
  exm_BadRule_RuleError := PySem.W.exm_ref sb_RuleError hd_RuleError ty_RuleError sub_BadRule_RuleError
  a_BadPlace := x_BadPlace
  g_BadPlace := PySem.W.mg_of X G ac_BadPlace
  x_BadPlace := xk_BadPlace
  kp_BadPlace := kc_BadPlace
  s_BadPlace := sb_BadPlace
  t_BadPlace := ty_BadPlace
  xc_BadPlace := ⟨q1_BadPlace, q2_BadPlace, sb_BadPlace, hd_BadPlace, q3_BadPlace, j2, j3, q4_BadPlace⟩
  isa_BadPlace_BadPrime := kit_own is_BadPrime ty_BadPrime sub_BadPlace_BadPrime (.inr ne_BadPlace_BadPrime)
  isa_BadPlace_BadRow := kit_own is_BadRow ty_BadRow sub_BadPlace_BadRow (.inr ne_BadPlace_BadRow)
  isa_BadPlace_BadRule := kit_own is_BadRule ty_BadRule sub_BadPlace_BadRule (.inr ne_BadPlace_BadRule)
  isa_BadPlace_BadPlace := kit_self
  isa_BadPlace_TooFew := kit_own is_TooFew ty_TooFew sub_BadPlace_TooFew (.inr ne_BadPlace_TooFew)
  isa_BadPlace_NoWay := kit_own is_NoWay ty_NoWay sub_BadPlace_NoWay (.inr ne_BadPlace_NoWay)
  isa_BadPlace_BadText := kit_own is_BadText ty_BadText sub_BadPlace_BadText (.inr ne_BadPlace_BadText)
  isa_BadPlace_ValueError := kit_blt (by decide +kernel) sub_BadPlace_ValueError
  exm_BadPlace_RuleError := PySem.W.exm_ref sb_RuleError hd_RuleError ty_RuleError sub_BadPlace_RuleError
  a_TooFew := x_TooFew
  g_TooFew := PySem.W.mg_of X G ac_TooFew
  x_TooFew := xk_TooFew
  kp_TooFew := kc_TooFew
  s_TooFew := sb_TooFew
  t_TooFew := ty_TooFew
  xc_TooFew := ⟨q1_TooFew, q2_TooFew, sb_TooFew, hd_TooFew, q3_TooFew, j2, j3, q4_TooFew⟩
  isa_TooFew_BadPrime := kit_own is_BadPrime ty_BadPrime sub_TooFew_BadPrime (.inr ne_TooFew_BadPrime)
  isa_TooFew_BadRow := kit_own is_BadRow ty_BadRow sub_TooFew_BadRow (.inr ne_TooFew_BadRow)
  isa_TooFew_BadRule := kit_own is_BadRule ty_BadRule sub_TooFew_BadRule (.inr ne_TooFew_BadRule)
  isa_TooFew_BadPlace := kit_own is_BadPlace ty_BadPlace sub_TooFew_BadPlace (.inr ne_TooFew_BadPlace)
  isa_TooFew_TooFew := kit_self
  isa_TooFew_NoWay := kit_own is_NoWay ty_NoWay sub_TooFew_NoWay (.inr ne_TooFew_NoWay)
  isa_TooFew_BadText := kit_own is_BadText ty_BadText sub_TooFew_BadText (.inr ne_TooFew_BadText)
  isa_TooFew_ValueError := kit_blt (by decide +kernel) sub_TooFew_ValueError
  exm_TooFew_RuleError := PySem.W.exm_ref sb_RuleError hd_RuleError ty_RuleError sub_TooFew_RuleError
  a_NoWay := x_NoWay
  g_NoWay := PySem.W.mg_of X G ac_NoWay
  x_NoWay := xk_NoWay
  kp_NoWay := kc_NoWay
  s_NoWay := sb_NoWay
  t_NoWay := ty_NoWay
  xc_NoWay := ⟨q1_NoWay, q2_NoWay, sb_NoWay, hd_NoWay, q3_NoWay, j2, j3, q4_NoWay⟩
  isa_NoWay_BadPrime := kit_own is_BadPrime ty_BadPrime sub_NoWay_BadPrime (.inr ne_NoWay_BadPrime)
  isa_NoWay_BadRow := kit_own is_BadRow ty_BadRow sub_NoWay_BadRow (.inr ne_NoWay_BadRow)
  isa_NoWay_BadRule := kit_own is_BadRule ty_BadRule sub_NoWay_BadRule (.inr ne_NoWay_BadRule)
  isa_NoWay_BadPlace := kit_own is_BadPlace ty_BadPlace sub_NoWay_BadPlace (.inr ne_NoWay_BadPlace)
  isa_NoWay_TooFew := kit_own is_TooFew ty_TooFew sub_NoWay_TooFew (.inr ne_NoWay_TooFew)
  isa_NoWay_NoWay := kit_self
  isa_NoWay_BadText := kit_own is_BadText ty_BadText sub_NoWay_BadText (.inr ne_NoWay_BadText)
  isa_NoWay_ValueError := kit_blt (by decide +kernel) sub_NoWay_ValueError
  exm_NoWay_RuleError := PySem.W.exm_ref sb_RuleError hd_RuleError ty_RuleError sub_NoWay_RuleError
  a_BadText := x_BadText
  g_BadText := PySem.W.mg_of X G ac_BadText
  x_BadText := xk_BadText
  kp_BadText := kc_BadText
  s_BadText := sb_BadText
  t_BadText := ty_BadText
  xc_BadText := ⟨q1_BadText, q2_BadText, sb_BadText, hd_BadText, q3_BadText, j2, j3, q4_BadText⟩
  isa_BadText_BadPrime := kit_own is_BadPrime ty_BadPrime sub_BadText_BadPrime (.inr ne_BadText_BadPrime)
  isa_BadText_BadRow := kit_own is_BadRow ty_BadRow sub_BadText_BadRow (.inr ne_BadText_BadRow)
  isa_BadText_BadRule := kit_own is_BadRule ty_BadRule sub_BadText_BadRule (.inr ne_BadText_BadRule)
  isa_BadText_BadPlace := kit_own is_BadPlace ty_BadPlace sub_BadText_BadPlace (.inr ne_BadText_BadPlace)
  isa_BadText_TooFew := kit_own is_TooFew ty_TooFew sub_BadText_TooFew (.inr ne_BadText_TooFew)
  isa_BadText_NoWay := kit_own is_NoWay ty_NoWay sub_BadText_NoWay (.inr ne_BadText_NoWay)
  isa_BadText_BadText := kit_self
  isa_BadText_ValueError := kit_blt (by decide +kernel) sub_BadText_ValueError
  exm_BadText_RuleError := PySem.W.exm_ref sb_RuleError hd_RuleError ty_RuleError sub_BadText_RuleError
  n_len := PySem.W.mg_none_of X G z_len
  n_sum := PySem.W.mg_none_of X G z_sum
  n_all := PySem.W.mg_none_of X G z_all
  n_any := PySem.W.mg_none_of X G z_any
  n_list := PySem.W.mg_none_of X G z_list
  n_max := PySem.W.mg_none_of X G z_max
  n_isinstance := PySem.W.mg_none_of X G z_isinstance
  n_range := PySem.W.mg_none_of X G z_range
  n_enumerate := PySem.W.mg_none_of X G z_enumerate
  n_int := PySem.W.mg_none_of X G z_int
  n_bool := PySem.W.mg_none_of X G z_bool
  n_abs := PySem.W.mg_none_of X G z_abs
  n_reversed := PySem.W.mg_none_of X G z_reversed
  n_str := PySem.W.mg_none_of X G z_str
  n_tuple := PySem.W.mg_none_of X G z_tuple
  n_ValueError := PySem.W.mg_none_of X G z_ValueError
  t_GREATEST := u_GREATEST
  c_GREATEST := PySem.W.mg_of X G z_GREATEST
theorem all_mk {l : PySem.W.OpenLaw} {w : World} {K : PySem.W.Frag} {h : Heap} {mg : Str → Option Value} {fa : Addr} (X : K.In h) (G : h.Ns mainGlobals mg) (hfa : mg "law" = some (.ref fa))
    {x_is_whole : Addr} {od_is_whole an_is_whole : Option Addr} {sl_is_whole : Array (Option Value)} {oc_is_whole kV_is_whole dc_is_whole pm_is_whole cd_is_whole ct_is_whole : Value}
    {x_check_prime : Addr} {od_check_prime an_check_prime : Option Addr} {sl_check_prime : Array (Option Value)} {oc_check_prime kV_check_prime dc_check_prime pm_check_prime cd_check_prime ct_check_prime : Value}
    {x_are_rests : Addr} {od_are_rests an_are_rests : Option Addr} {sl_are_rests : Array (Option Value)} {oc_are_rests kV_are_rests dc_are_rests pm_are_rests cd_are_rests ct_are_rests : Value}
    {x_check_row : Addr} {od_check_row an_check_row : Option Addr} {sl_check_row : Array (Option Value)} {oc_check_row kV_check_row dc_check_row pm_check_row cd_check_row ct_check_row : Value}
    {x_inverse : Addr} {od_inverse an_inverse : Option Addr} {sl_inverse : Array (Option Value)} {oc_inverse kV_inverse dc_inverse pm_inverse cd_inverse ct_inverse : Value}
    {x_check_rule : Addr} {od_check_rule an_check_rule : Option Addr} {sl_check_rule : Array (Option Value)} {oc_check_rule kV_check_rule dc_check_rule pm_check_rule cd_check_rule ct_check_rule : Value}
    {x_due_at : Addr} {od_due_at an_due_at : Option Addr} {sl_due_at : Array (Option Value)} {oc_due_at kV_due_at dc_due_at pm_due_at cd_due_at ct_due_at : Value}
    {x_turned : Addr} {od_turned an_turned : Option Addr} {sl_turned : Array (Option Value)} {oc_turned kV_turned dc_turned pm_turned cd_turned ct_turned : Value}
    {x_told_back : Addr} {od_told_back an_told_back : Option Addr} {sl_told_back : Array (Option Value)} {oc_told_back kV_told_back dc_told_back pm_told_back cd_told_back ct_told_back : Value}
    {x_least : Addr} {od_least an_least : Option Addr} {sl_least : Array (Option Value)} {oc_least kV_least dc_least pm_least cd_least ct_least : Value}
    {x__law_cell_at : Addr} {od__law_cell_at an__law_cell_at : Option Addr} {sl__law_cell_at : Array (Option Value)} {oc__law_cell_at kV__law_cell_at dc__law_cell_at pm__law_cell_at cd__law_cell_at ct__law_cell_at : Value}
    {x__law_draw : Addr} {od__law_draw an__law_draw : Option Addr} {sl__law_draw : Array (Option Value)} {oc__law_draw kV__law_draw dc__law_draw pm__law_draw cd__law_draw ct__law_draw : Value}
    {x__law_rests : Addr} {od__law_rests an__law_rests : Option Addr} {sl__law_rests : Array (Option Value)} {oc__law_rests kV__law_rests dc__law_rests pm__law_rests cd__law_rests ct__law_rests : Value}
    {x__law_due : Addr} {od__law_due an__law_due : Option Addr} {sl__law_due : Array (Option Value)} {oc__law_due kV__law_due dc__law_due pm__law_due cd__law_due ct__law_due : Value}
    {x__law_row : Addr} {od__law_row an__law_row : Option Addr} {sl__law_row : Array (Option Value)} {oc__law_row kV__law_row dc__law_row pm__law_row cd__law_row ct__law_row : Value}
    {x_makes : Addr} {od_makes an_makes : Option Addr} {sl_makes : Array (Option Value)} {oc_makes kV_makes dc_makes pm_makes cd_makes ct_makes : Value}
    {x_both : Addr} {od_both an_both : Option Addr} {sl_both : Array (Option Value)} {oc_both kV_both dc_both pm_both cd_both ct_both : Value}
    {x_unlike : Addr} {od_unlike an_unlike : Option Addr} {sl_unlike : Array (Option Value)} {oc_unlike kV_unlike dc_unlike pm_unlike cd_unlike ct_unlike : Value}
    {x_written : Addr} {od_written an_written : Option Addr} {sl_written : Array (Option Value)} {oc_written kV_written dc_written pm_written cd_written ct_written : Value}
    {x_check_going : Addr} {od_check_going an_check_going : Option Addr} {sl_check_going : Array (Option Value)} {oc_check_going kV_check_going dc_check_going pm_check_going cd_check_going ct_check_going : Value}
    {x_far : Addr} {od_far an_far : Option Addr} {sl_far : Array (Option Value)} {oc_far kV_far dc_far pm_far cd_far ct_far : Value}
    {x_go_on : Addr} {od_go_on an_go_on : Option Addr} {sl_go_on : Array (Option Value)} {oc_go_on kV_go_on dc_go_on pm_go_on cd_go_on ct_go_on : Value}
    {x_backwards : Addr} {od_backwards an_backwards : Option Addr} {sl_backwards : Array (Option Value)} {oc_backwards kV_backwards dc_backwards pm_backwards cd_backwards ct_backwards : Value}
    {x__law_more : Addr} {od__law_more an__law_more : Option Addr} {sl__law_more : Array (Option Value)} {oc__law_more kV__law_more dc__law_more pm__law_more cd__law_more ct__law_more : Value}
    {x__law_with_prime : Addr} {od__law_with_prime an__law_with_prime : Option Addr} {sl__law_with_prime : Array (Option Value)} {oc__law_with_prime kV__law_with_prime dc__law_with_prime pm__law_with_prime cd__law_with_prime ct__law_with_prime : Value}
    {x__law_with_rule : Addr} {od__law_with_rule an__law_with_rule : Option Addr} {sl__law_with_rule : Array (Option Value)} {oc__law_with_rule kV__law_with_rule dc__law_with_rule pm__law_with_rule cd__law_with_rule ct__law_with_rule : Value}
    {x__law_with_row : Addr} {od__law_with_row an__law_with_row : Option Addr} {sl__law_with_row : Array (Option Value)} {oc__law_with_row kV__law_with_row dc__law_with_row pm__law_with_row cd__law_with_row ct__law_with_row : Value}
    {x__law_with_few : Addr} {od__law_with_few an__law_with_few : Option Addr} {sl__law_with_few : Array (Option Value)} {oc__law_with_few kV__law_with_few dc__law_with_few pm__law_with_few cd__law_with_few ct__law_with_few : Value}
    {x__law_with_place : Addr} {od__law_with_place an__law_with_place : Option Addr} {sl__law_with_place : Array (Option Value)} {oc__law_with_place kV__law_with_place dc__law_with_place pm__law_with_place cd__law_with_place ct__law_with_place : Value}
    {x__law_kinds : Addr} {od__law_kinds an__law_kinds : Option Addr} {sl__law_kinds : Array (Option Value)} {oc__law_kinds kV__law_kinds dc__law_kinds pm__law_kinds cd__law_kinds ct__law_kinds : Value}
    {x__law_told : Addr} {od__law_told an__law_told : Option Addr} {sl__law_told : Array (Option Value)} {oc__law_told kV__law_told dc__law_told pm__law_told cd__law_told ct__law_told : Value}
    {x__law_all : Addr} {od__law_all an__law_all : Option Addr} {sl__law_all : Array (Option Value)} {oc__law_all kV__law_all dc__law_all pm__law_all cd__law_all ct__law_all : Value}
    {x_law : Addr} {od_law an_law : Option Addr} {sl_law : Array (Option Value)} {oc_law kV_law dc_law pm_law cd_law ct_law : Value}
    {x_RuleError : Addr}
    {x_BadPrime : Addr}
    {x_BadRow : Addr}
    {x_BadRule : Addr}
    {x_BadPlace : Addr}
    {x_TooFew : Addr}
    {x_NoWay : Addr}
    {x_BadText : Addr}
    {u_GREATEST : Tok}
    (ac_RuleError : PySem.W.nsIn K mainGlobals "RuleError" = some (some (.ref x_RuleError)))
    (ac_BadPrime : PySem.W.nsIn K mainGlobals "BadPrime" = some (some (.ref x_BadPrime)))
    (xk_BadPrime : PySem.W.excIn K x_BadPrime [.type "ValueError", .type "Exception", .type "BaseException", .type "object"] "ValueError.__new__" = true)
    (kc_BadPrime : PySem.W.keepIn K (.ref x_BadPrime) = true)
    (q1_BadPrime : PySem.W.findIn K (.ref x_BadPrime) "__getattribute__" = some (some (.builtin "BaseException.__getattribute__")))
    (q2_BadPrime : PySem.W.findIn K (.ref x_BadPrime) "__getattr__" = some none)
    (q3_BadPrime : PySem.W.findIn K (.ref x_BadPrime) "__class__" = some (some (.builtin "object.__class__")))
    (q4_BadPrime : PySem.W.mroIn K x_BadPrime (.type "object") = some true)
    (ac_BadRow : PySem.W.nsIn K mainGlobals "BadRow" = some (some (.ref x_BadRow)))
    (xk_BadRow : PySem.W.excIn K x_BadRow [.type "ValueError", .type "Exception", .type "BaseException", .type "object"] "ValueError.__new__" = true)
    (kc_BadRow : PySem.W.keepIn K (.ref x_BadRow) = true)
    (q1_BadRow : PySem.W.findIn K (.ref x_BadRow) "__getattribute__" = some (some (.builtin "BaseException.__getattribute__")))
    (q2_BadRow : PySem.W.findIn K (.ref x_BadRow) "__getattr__" = some none)
    (q3_BadRow : PySem.W.findIn K (.ref x_BadRow) "__class__" = some (some (.builtin "object.__class__")))
    (q4_BadRow : PySem.W.mroIn K x_BadRow (.type "object") = some true)
    (ac_BadRule : PySem.W.nsIn K mainGlobals "BadRule" = some (some (.ref x_BadRule)))
    (xk_BadRule : PySem.W.excIn K x_BadRule [.type "ValueError", .type "Exception", .type "BaseException", .type "object"] "ValueError.__new__" = true)
    (kc_BadRule : PySem.W.keepIn K (.ref x_BadRule) = true)
    (q1_BadRule : PySem.W.findIn K (.ref x_BadRule) "__getattribute__" = some (some (.builtin "BaseException.__getattribute__")))
    (q2_BadRule : PySem.W.findIn K (.ref x_BadRule) "__getattr__" = some none)
    (q3_BadRule : PySem.W.findIn K (.ref x_BadRule) "__class__" = some (some (.builtin "object.__class__")))
    (q4_BadRule : PySem.W.mroIn K x_BadRule (.type "object") = some true)
    (ac_BadPlace : PySem.W.nsIn K mainGlobals "BadPlace" = some (some (.ref x_BadPlace)))
    (xk_BadPlace : PySem.W.excIn K x_BadPlace [.type "ValueError", .type "Exception", .type "BaseException", .type "object"] "ValueError.__new__" = true)
    (kc_BadPlace : PySem.W.keepIn K (.ref x_BadPlace) = true)
    (q1_BadPlace : PySem.W.findIn K (.ref x_BadPlace) "__getattribute__" = some (some (.builtin "BaseException.__getattribute__")))
    (q2_BadPlace : PySem.W.findIn K (.ref x_BadPlace) "__getattr__" = some none)
    (q3_BadPlace : PySem.W.findIn K (.ref x_BadPlace) "__class__" = some (some (.builtin "object.__class__")))
    (q4_BadPlace : PySem.W.mroIn K x_BadPlace (.type "object") = some true)
    (ac_TooFew : PySem.W.nsIn K mainGlobals "TooFew" = some (some (.ref x_TooFew)))
    (xk_TooFew : PySem.W.excIn K x_TooFew [.type "ValueError", .type "Exception", .type "BaseException", .type "object"] "ValueError.__new__" = true)
    (kc_TooFew : PySem.W.keepIn K (.ref x_TooFew) = true)
    (q1_TooFew : PySem.W.findIn K (.ref x_TooFew) "__getattribute__" = some (some (.builtin "BaseException.__getattribute__")))
    (q2_TooFew : PySem.W.findIn K (.ref x_TooFew) "__getattr__" = some none)
    (q3_TooFew : PySem.W.findIn K (.ref x_TooFew) "__class__" = some (some (.builtin "object.__class__")))
    (q4_TooFew : PySem.W.mroIn K x_TooFew (.type "object") = some true)
    (ac_NoWay : PySem.W.nsIn K mainGlobals "NoWay" = some (some (.ref x_NoWay)))
    (xk_NoWay : PySem.W.excIn K x_NoWay [.type "ValueError", .type "Exception", .type "BaseException", .type "object"] "ValueError.__new__" = true)
    (kc_NoWay : PySem.W.keepIn K (.ref x_NoWay) = true)
    (q1_NoWay : PySem.W.findIn K (.ref x_NoWay) "__getattribute__" = some (some (.builtin "BaseException.__getattribute__")))
    (q2_NoWay : PySem.W.findIn K (.ref x_NoWay) "__getattr__" = some none)
    (q3_NoWay : PySem.W.findIn K (.ref x_NoWay) "__class__" = some (some (.builtin "object.__class__")))
    (q4_NoWay : PySem.W.mroIn K x_NoWay (.type "object") = some true)
    (ac_BadText : PySem.W.nsIn K mainGlobals "BadText" = some (some (.ref x_BadText)))
    (xk_BadText : PySem.W.excIn K x_BadText [.type "ValueError", .type "Exception", .type "BaseException", .type "object"] "ValueError.__new__" = true)
    (kc_BadText : PySem.W.keepIn K (.ref x_BadText) = true)
    (q1_BadText : PySem.W.findIn K (.ref x_BadText) "__getattribute__" = some (some (.builtin "BaseException.__getattribute__")))
    (q2_BadText : PySem.W.findIn K (.ref x_BadText) "__getattr__" = some none)
    (q3_BadText : PySem.W.findIn K (.ref x_BadText) "__class__" = some (some (.builtin "object.__class__")))
    (q4_BadText : PySem.W.mroIn K x_BadText (.type "object") = some true)
    (j2 : PySem.W.specialIn K (.builtin "object.__class__") "__get__" = some (some (.builtin "getset_descriptor.__get__")))
    (j3 : PySem.W.takesIn K (.builtin "object.__class__") = some true)
    (hd_BadPrime : PySem.W.hasDictIn K x_BadPrime = true)
    (sb_BadPrime : PySem.W.subIn K (.ref x_BadPrime) (.type "BaseException") = some true)
    (ty_BadPrime : PySem.W.typeIn K (.ref x_BadPrime) = some (.type "type"))
    (is_BadRow : PySem.W.isClsIn K x_BadRow = true)
    (ty_BadRow : PySem.W.typeIn K (.ref x_BadRow) = some (.type "type"))
    (sub_BadPrime_BadRow : PySem.W.subIn K (.ref x_BadPrime) (.ref x_BadRow) = some false)
    (ne_BadPrime_BadRow : x_BadPrime ≠ x_BadRow)
    (is_BadRule : PySem.W.isClsIn K x_BadRule = true)
    (ty_BadRule : PySem.W.typeIn K (.ref x_BadRule) = some (.type "type"))
    (sub_BadPrime_BadRule : PySem.W.subIn K (.ref x_BadPrime) (.ref x_BadRule) = some false)
    (ne_BadPrime_BadRule : x_BadPrime ≠ x_BadRule)
    (is_BadPlace : PySem.W.isClsIn K x_BadPlace = true)
    (ty_BadPlace : PySem.W.typeIn K (.ref x_BadPlace) = some (.type "type"))
    (sub_BadPrime_BadPlace : PySem.W.subIn K (.ref x_BadPrime) (.ref x_BadPlace) = some false)
    (ne_BadPrime_BadPlace : x_BadPrime ≠ x_BadPlace)
    (is_TooFew : PySem.W.isClsIn K x_TooFew = true)
    (ty_TooFew : PySem.W.typeIn K (.ref x_TooFew) = some (.type "type"))
    (sub_BadPrime_TooFew : PySem.W.subIn K (.ref x_BadPrime) (.ref x_TooFew) = some false)
    (ne_BadPrime_TooFew : x_BadPrime ≠ x_TooFew)
    (is_NoWay : PySem.W.isClsIn K x_NoWay = true)
    (ty_NoWay : PySem.W.typeIn K (.ref x_NoWay) = some (.type "type"))
    (sub_BadPrime_NoWay : PySem.W.subIn K (.ref x_BadPrime) (.ref x_NoWay) = some false)
    (ne_BadPrime_NoWay : x_BadPrime ≠ x_NoWay)
    (is_BadText : PySem.W.isClsIn K x_BadText = true)
    (ty_BadText : PySem.W.typeIn K (.ref x_BadText) = some (.type "type"))
    (sub_BadPrime_BadText : PySem.W.subIn K (.ref x_BadPrime) (.ref x_BadText) = some false)
    (ne_BadPrime_BadText : x_BadPrime ≠ x_BadText)
    (sub_BadPrime_ValueError : PySem.W.subIn K (.ref x_BadPrime) (.type "ValueError") = some true)
    (hd_RuleError : PySem.W.hasDictIn K x_RuleError = true)
    (sb_RuleError : PySem.W.subIn K (.ref x_RuleError) (.type "BaseException") = some true)
    (ty_RuleError : PySem.W.typeIn K (.ref x_RuleError) = some (.type "type"))
    (sub_BadPrime_RuleError : PySem.W.subIn K (.ref x_BadPrime) (.ref x_RuleError) = some true)
    (hd_BadRow : PySem.W.hasDictIn K x_BadRow = true)
    (sb_BadRow : PySem.W.subIn K (.ref x_BadRow) (.type "BaseException") = some true)
    (is_BadPrime : PySem.W.isClsIn K x_BadPrime = true)
    (sub_BadRow_BadPrime : PySem.W.subIn K (.ref x_BadRow) (.ref x_BadPrime) = some false)
    (ne_BadRow_BadPrime : x_BadRow ≠ x_BadPrime)
    (sub_BadRow_BadRule : PySem.W.subIn K (.ref x_BadRow) (.ref x_BadRule) = some false)
    (ne_BadRow_BadRule : x_BadRow ≠ x_BadRule)
    (sub_BadRow_BadPlace : PySem.W.subIn K (.ref x_BadRow) (.ref x_BadPlace) = some false)
    (ne_BadRow_BadPlace : x_BadRow ≠ x_BadPlace)
    (sub_BadRow_TooFew : PySem.W.subIn K (.ref x_BadRow) (.ref x_TooFew) = some false)
    (ne_BadRow_TooFew : x_BadRow ≠ x_TooFew)
    (sub_BadRow_NoWay : PySem.W.subIn K (.ref x_BadRow) (.ref x_NoWay) = some false)
    (ne_BadRow_NoWay : x_BadRow ≠ x_NoWay)
    (sub_BadRow_BadText : PySem.W.subIn K (.ref x_BadRow) (.ref x_BadText) = some false)
    (ne_BadRow_BadText : x_BadRow ≠ x_BadText)
    (sub_BadRow_ValueError : PySem.W.subIn K (.ref x_BadRow) (.type "ValueError") = some true)
    (sub_BadRow_RuleError : PySem.W.subIn K (.ref x_BadRow) (.ref x_RuleError) = some true)
    (hd_BadRule : PySem.W.hasDictIn K x_BadRule = true)
    (sb_BadRule : PySem.W.subIn K (.ref x_BadRule) (.type "BaseException") = some true)
    (sub_BadRule_BadPrime : PySem.W.subIn K (.ref x_BadRule) (.ref x_BadPrime) = some false)
    (ne_BadRule_BadPrime : x_BadRule ≠ x_BadPrime)
    (sub_BadRule_BadRow : PySem.W.subIn K (.ref x_BadRule) (.ref x_BadRow) = some false)
    (ne_BadRule_BadRow : x_BadRule ≠ x_BadRow)
    (sub_BadRule_BadPlace : PySem.W.subIn K (.ref x_BadRule) (.ref x_BadPlace) = some false)
    (ne_BadRule_BadPlace : x_BadRule ≠ x_BadPlace)
    (sub_BadRule_TooFew : PySem.W.subIn K (.ref x_BadRule) (.ref x_TooFew) = some false)
    (ne_BadRule_TooFew : x_BadRule ≠ x_TooFew)
    (sub_BadRule_NoWay : PySem.W.subIn K (.ref x_BadRule) (.ref x_NoWay) = some false)
    (ne_BadRule_NoWay : x_BadRule ≠ x_NoWay)
    (sub_BadRule_BadText : PySem.W.subIn K (.ref x_BadRule) (.ref x_BadText) = some false)
    (ne_BadRule_BadText : x_BadRule ≠ x_BadText)
    (sub_BadRule_ValueError : PySem.W.subIn K (.ref x_BadRule) (.type "ValueError") = some true)
    (sub_BadRule_RuleError : PySem.W.subIn K (.ref x_BadRule) (.ref x_RuleError) = some true)
    (hd_BadPlace : PySem.W.hasDictIn K x_BadPlace = true)
    (sb_BadPlace : PySem.W.subIn K (.ref x_BadPlace) (.type "BaseException") = some true)
    (sub_BadPlace_BadPrime : PySem.W.subIn K (.ref x_BadPlace) (.ref x_BadPrime) = some false)
    (ne_BadPlace_BadPrime : x_BadPlace ≠ x_BadPrime)
    (sub_BadPlace_BadRow : PySem.W.subIn K (.ref x_BadPlace) (.ref x_BadRow) = some false)
    (ne_BadPlace_BadRow : x_BadPlace ≠ x_BadRow)
    (sub_BadPlace_BadRule : PySem.W.subIn K (.ref x_BadPlace) (.ref x_BadRule) = some false)
    (ne_BadPlace_BadRule : x_BadPlace ≠ x_BadRule)
    (sub_BadPlace_TooFew : PySem.W.subIn K (.ref x_BadPlace) (.ref x_TooFew) = some false)
    (ne_BadPlace_TooFew : x_BadPlace ≠ x_TooFew)
    (sub_BadPlace_NoWay : PySem.W.subIn K (.ref x_BadPlace) (.ref x_NoWay) = some false)
    (ne_BadPlace_NoWay : x_BadPlace ≠ x_NoWay)
    (sub_BadPlace_BadText : PySem.W.subIn K (.ref x_BadPlace) (.ref x_BadText) = some false)
    (ne_BadPlace_BadText : x_BadPlace ≠ x_BadText)
    (sub_BadPlace_ValueError : PySem.W.subIn K (.ref x_BadPlace) (.type "ValueError") = some true)
    (sub_BadPlace_RuleError : PySem.W.subIn K (.ref x_BadPlace) (.ref x_RuleError) = some true)
    (hd_TooFew : PySem.W.hasDictIn K x_TooFew = true)
    (sb_TooFew : PySem.W.subIn K (.ref x_TooFew) (.type "BaseException") = some true)
    (sub_TooFew_BadPrime : PySem.W.subIn K (.ref x_TooFew) (.ref x_BadPrime) = some false)
    (ne_TooFew_BadPrime : x_TooFew ≠ x_BadPrime)
    (sub_TooFew_BadRow : PySem.W.subIn K (.ref x_TooFew) (.ref x_BadRow) = some false)
    (ne_TooFew_BadRow : x_TooFew ≠ x_BadRow)
    (sub_TooFew_BadRule : PySem.W.subIn K (.ref x_TooFew) (.ref x_BadRule) = some false)
    (ne_TooFew_BadRule : x_TooFew ≠ x_BadRule)
    (sub_TooFew_BadPlace : PySem.W.subIn K (.ref x_TooFew) (.ref x_BadPlace) = some false)
    (ne_TooFew_BadPlace : x_TooFew ≠ x_BadPlace)
    (sub_TooFew_NoWay : PySem.W.subIn K (.ref x_TooFew) (.ref x_NoWay) = some false)
    (ne_TooFew_NoWay : x_TooFew ≠ x_NoWay)
    (sub_TooFew_BadText : PySem.W.subIn K (.ref x_TooFew) (.ref x_BadText) = some false)
    (ne_TooFew_BadText : x_TooFew ≠ x_BadText)
    (sub_TooFew_ValueError : PySem.W.subIn K (.ref x_TooFew) (.type "ValueError") = some true)
    (sub_TooFew_RuleError : PySem.W.subIn K (.ref x_TooFew) (.ref x_RuleError) = some true)
    (hd_NoWay : PySem.W.hasDictIn K x_NoWay = true)
    (sb_NoWay : PySem.W.subIn K (.ref x_NoWay) (.type "BaseException") = some true)
    (sub_NoWay_BadPrime : PySem.W.subIn K (.ref x_NoWay) (.ref x_BadPrime) = some false)
    (ne_NoWay_BadPrime : x_NoWay ≠ x_BadPrime)
    (sub_NoWay_BadRow : PySem.W.subIn K (.ref x_NoWay) (.ref x_BadRow) = some false)
    (ne_NoWay_BadRow : x_NoWay ≠ x_BadRow)
    (sub_NoWay_BadRule : PySem.W.subIn K (.ref x_NoWay) (.ref x_BadRule) = some false)
    (ne_NoWay_BadRule : x_NoWay ≠ x_BadRule)
    (sub_NoWay_BadPlace : PySem.W.subIn K (.ref x_NoWay) (.ref x_BadPlace) = some false)
    (ne_NoWay_BadPlace : x_NoWay ≠ x_BadPlace)
    (sub_NoWay_TooFew : PySem.W.subIn K (.ref x_NoWay) (.ref x_TooFew) = some false)
    (ne_NoWay_TooFew : x_NoWay ≠ x_TooFew)
    (sub_NoWay_BadText : PySem.W.subIn K (.ref x_NoWay) (.ref x_BadText) = some false)
    (ne_NoWay_BadText : x_NoWay ≠ x_BadText)
    (sub_NoWay_ValueError : PySem.W.subIn K (.ref x_NoWay) (.type "ValueError") = some true)
    (sub_NoWay_RuleError : PySem.W.subIn K (.ref x_NoWay) (.ref x_RuleError) = some true)
    (hd_BadText : PySem.W.hasDictIn K x_BadText = true)
    (sb_BadText : PySem.W.subIn K (.ref x_BadText) (.type "BaseException") = some true)
    (sub_BadText_BadPrime : PySem.W.subIn K (.ref x_BadText) (.ref x_BadPrime) = some false)
    (ne_BadText_BadPrime : x_BadText ≠ x_BadPrime)
    (sub_BadText_BadRow : PySem.W.subIn K (.ref x_BadText) (.ref x_BadRow) = some false)
    (ne_BadText_BadRow : x_BadText ≠ x_BadRow)
    (sub_BadText_BadRule : PySem.W.subIn K (.ref x_BadText) (.ref x_BadRule) = some false)
    (ne_BadText_BadRule : x_BadText ≠ x_BadRule)
    (sub_BadText_BadPlace : PySem.W.subIn K (.ref x_BadText) (.ref x_BadPlace) = some false)
    (ne_BadText_BadPlace : x_BadText ≠ x_BadPlace)
    (sub_BadText_TooFew : PySem.W.subIn K (.ref x_BadText) (.ref x_TooFew) = some false)
    (ne_BadText_TooFew : x_BadText ≠ x_TooFew)
    (sub_BadText_NoWay : PySem.W.subIn K (.ref x_BadText) (.ref x_NoWay) = some false)
    (ne_BadText_NoWay : x_BadText ≠ x_NoWay)
    (sub_BadText_ValueError : PySem.W.subIn K (.ref x_BadText) (.type "ValueError") = some true)
    (sub_BadText_RuleError : PySem.W.subIn K (.ref x_BadText) (.ref x_RuleError) = some true)
    (a_is_whole : PySem.W.nsIn K mainGlobals "is_whole" = some (some (.ref x_is_whole)))
    (l_is_whole : K.lookup x_is_whole = some ⟨oc_is_whole, od_is_whole, .func (PySem.W.fnOf "is_whole" "is_whole" (defArgs s_is_whole) (defBody s_is_whole) (defScope s_is_whole) .none kV_is_whole dc_is_whole pm_is_whole an_is_whole cd_is_whole ct_is_whole), sl_is_whole⟩)
    (c_is_whole : PySem.W.codeIn K cd_is_whole "is_whole" = true)
    (k_is_whole : PySem.W.keepIn K (.ref x_is_whole) = true)
    (a_check_prime : PySem.W.nsIn K mainGlobals "check_prime" = some (some (.ref x_check_prime)))
    (l_check_prime : K.lookup x_check_prime = some ⟨oc_check_prime, od_check_prime, .func (PySem.W.fnOf "check_prime" "check_prime" (defArgs s_check_prime) (defBody s_check_prime) (defScope s_check_prime) .none kV_check_prime dc_check_prime pm_check_prime an_check_prime cd_check_prime ct_check_prime), sl_check_prime⟩)
    (c_check_prime : PySem.W.codeIn K cd_check_prime "check_prime" = true)
    (k_check_prime : PySem.W.keepIn K (.ref x_check_prime) = true)
    (a_are_rests : PySem.W.nsIn K mainGlobals "are_rests" = some (some (.ref x_are_rests)))
    (l_are_rests : K.lookup x_are_rests = some ⟨oc_are_rests, od_are_rests, .func (PySem.W.fnOf "are_rests" "are_rests" (defArgs s_are_rests) (defBody s_are_rests) (defScope s_are_rests) .none kV_are_rests dc_are_rests pm_are_rests an_are_rests cd_are_rests ct_are_rests), sl_are_rests⟩)
    (c_are_rests : PySem.W.codeIn K cd_are_rests "are_rests" = true)
    (k_are_rests : PySem.W.keepIn K (.ref x_are_rests) = true)
    (a_check_row : PySem.W.nsIn K mainGlobals "check_row" = some (some (.ref x_check_row)))
    (l_check_row : K.lookup x_check_row = some ⟨oc_check_row, od_check_row, .func (PySem.W.fnOf "check_row" "check_row" (defArgs s_check_row) (defBody s_check_row) (defScope s_check_row) .none kV_check_row dc_check_row pm_check_row an_check_row cd_check_row ct_check_row), sl_check_row⟩)
    (c_check_row : PySem.W.codeIn K cd_check_row "check_row" = true)
    (k_check_row : PySem.W.keepIn K (.ref x_check_row) = true)
    (a_inverse : PySem.W.nsIn K mainGlobals "inverse" = some (some (.ref x_inverse)))
    (l_inverse : K.lookup x_inverse = some ⟨oc_inverse, od_inverse, .func (PySem.W.fnOf "inverse" "inverse" (defArgs s_inverse) (defBody s_inverse) (defScope s_inverse) .none kV_inverse dc_inverse pm_inverse an_inverse cd_inverse ct_inverse), sl_inverse⟩)
    (c_inverse : PySem.W.codeIn K cd_inverse "inverse" = true)
    (k_inverse : PySem.W.keepIn K (.ref x_inverse) = true)
    (a_check_rule : PySem.W.nsIn K mainGlobals "check_rule" = some (some (.ref x_check_rule)))
    (l_check_rule : K.lookup x_check_rule = some ⟨oc_check_rule, od_check_rule, .func (PySem.W.fnOf "check_rule" "check_rule" (defArgs s_check_rule) (defBody s_check_rule) (defScope s_check_rule) .none kV_check_rule dc_check_rule pm_check_rule an_check_rule cd_check_rule ct_check_rule), sl_check_rule⟩)
    (c_check_rule : PySem.W.codeIn K cd_check_rule "check_rule" = true)
    (k_check_rule : PySem.W.keepIn K (.ref x_check_rule) = true)
    (a_due_at : PySem.W.nsIn K mainGlobals "due_at" = some (some (.ref x_due_at)))
    (l_due_at : K.lookup x_due_at = some ⟨oc_due_at, od_due_at, .func (PySem.W.fnOf "due_at" "due_at" (defArgs s_due_at) (defBody s_due_at) (defScope s_due_at) .none kV_due_at dc_due_at pm_due_at an_due_at cd_due_at ct_due_at), sl_due_at⟩)
    (c_due_at : PySem.W.codeIn K cd_due_at "due_at" = true)
    (k_due_at : PySem.W.keepIn K (.ref x_due_at) = true)
    (a_turned : PySem.W.nsIn K mainGlobals "turned" = some (some (.ref x_turned)))
    (l_turned : K.lookup x_turned = some ⟨oc_turned, od_turned, .func (PySem.W.fnOf "turned" "turned" (defArgs s_turned) (defBody s_turned) (defScope s_turned) .none kV_turned dc_turned pm_turned an_turned cd_turned ct_turned), sl_turned⟩)
    (c_turned : PySem.W.codeIn K cd_turned "turned" = true)
    (k_turned : PySem.W.keepIn K (.ref x_turned) = true)
    (a_told_back : PySem.W.nsIn K mainGlobals "told_back" = some (some (.ref x_told_back)))
    (l_told_back : K.lookup x_told_back = some ⟨oc_told_back, od_told_back, .func (PySem.W.fnOf "told_back" "told_back" (defArgs s_told_back) (defBody s_told_back) (defScope s_told_back) .none kV_told_back dc_told_back pm_told_back an_told_back cd_told_back ct_told_back), sl_told_back⟩)
    (c_told_back : PySem.W.codeIn K cd_told_back "told_back" = true)
    (k_told_back : PySem.W.keepIn K (.ref x_told_back) = true)
    (a_least : PySem.W.nsIn K mainGlobals "least" = some (some (.ref x_least)))
    (l_least : K.lookup x_least = some ⟨oc_least, od_least, .func (PySem.W.fnOf "least" "least" (defArgs s_least) (defBody s_least) (defScope s_least) .none kV_least dc_least pm_least an_least cd_least ct_least), sl_least⟩)
    (c_least : PySem.W.codeIn K cd_least "least" = true)
    (k_least : PySem.W.keepIn K (.ref x_least) = true)
    (a__law_cell_at : PySem.W.nsIn K mainGlobals "_law_cell_at" = some (some (.ref x__law_cell_at)))
    (l__law_cell_at : K.lookup x__law_cell_at = some ⟨oc__law_cell_at, od__law_cell_at, .func (PySem.W.fnOf "_law_cell_at" "_law_cell_at" (defArgs s__law_cell_at) (defBody s__law_cell_at) (defScope s__law_cell_at) .none kV__law_cell_at dc__law_cell_at pm__law_cell_at an__law_cell_at cd__law_cell_at ct__law_cell_at), sl__law_cell_at⟩)
    (c__law_cell_at : PySem.W.codeIn K cd__law_cell_at "_law_cell_at" = true)
    (k__law_cell_at : PySem.W.keepIn K (.ref x__law_cell_at) = true)
    (a__law_draw : PySem.W.nsIn K mainGlobals "_law_draw" = some (some (.ref x__law_draw)))
    (l__law_draw : K.lookup x__law_draw = some ⟨oc__law_draw, od__law_draw, .func (PySem.W.fnOf "_law_draw" "_law_draw" (defArgs s__law_draw) (defBody s__law_draw) (defScope s__law_draw) .none kV__law_draw dc__law_draw pm__law_draw an__law_draw cd__law_draw ct__law_draw), sl__law_draw⟩)
    (c__law_draw : PySem.W.codeIn K cd__law_draw "_law_draw" = true)
    (k__law_draw : PySem.W.keepIn K (.ref x__law_draw) = true)
    (a__law_rests : PySem.W.nsIn K mainGlobals "_law_rests" = some (some (.ref x__law_rests)))
    (l__law_rests : K.lookup x__law_rests = some ⟨oc__law_rests, od__law_rests, .func (PySem.W.fnOf "_law_rests" "_law_rests" (defArgs s__law_rests) (defBody s__law_rests) (defScope s__law_rests) .none kV__law_rests dc__law_rests pm__law_rests an__law_rests cd__law_rests ct__law_rests), sl__law_rests⟩)
    (c__law_rests : PySem.W.codeIn K cd__law_rests "_law_rests" = true)
    (k__law_rests : PySem.W.keepIn K (.ref x__law_rests) = true)
    (a__law_due : PySem.W.nsIn K mainGlobals "_law_due" = some (some (.ref x__law_due)))
    (l__law_due : K.lookup x__law_due = some ⟨oc__law_due, od__law_due, .func (PySem.W.fnOf "_law_due" "_law_due" (defArgs s__law_due) (defBody s__law_due) (defScope s__law_due) .none kV__law_due dc__law_due pm__law_due an__law_due cd__law_due ct__law_due), sl__law_due⟩)
    (c__law_due : PySem.W.codeIn K cd__law_due "_law_due" = true)
    (k__law_due : PySem.W.keepIn K (.ref x__law_due) = true)
    (a__law_row : PySem.W.nsIn K mainGlobals "_law_row" = some (some (.ref x__law_row)))
    (l__law_row : K.lookup x__law_row = some ⟨oc__law_row, od__law_row, .func (PySem.W.fnOf "_law_row" "_law_row" (defArgs s__law_row) (defBody s__law_row) (defScope s__law_row) .none kV__law_row dc__law_row pm__law_row an__law_row cd__law_row ct__law_row), sl__law_row⟩)
    (c__law_row : PySem.W.codeIn K cd__law_row "_law_row" = true)
    (k__law_row : PySem.W.keepIn K (.ref x__law_row) = true)
    (a_makes : PySem.W.nsIn K mainGlobals "makes" = some (some (.ref x_makes)))
    (l_makes : K.lookup x_makes = some ⟨oc_makes, od_makes, .func (PySem.W.fnOf "makes" "makes" (defArgs s_makes) (defBody s_makes) (defScope s_makes) .none kV_makes dc_makes pm_makes an_makes cd_makes ct_makes), sl_makes⟩)
    (c_makes : PySem.W.codeIn K cd_makes "makes" = true)
    (k_makes : PySem.W.keepIn K (.ref x_makes) = true)
    (a_both : PySem.W.nsIn K mainGlobals "both" = some (some (.ref x_both)))
    (l_both : K.lookup x_both = some ⟨oc_both, od_both, .func (PySem.W.fnOf "both" "both" (defArgs s_both) (defBody s_both) (defScope s_both) .none kV_both dc_both pm_both an_both cd_both ct_both), sl_both⟩)
    (c_both : PySem.W.codeIn K cd_both "both" = true)
    (k_both : PySem.W.keepIn K (.ref x_both) = true)
    (a_unlike : PySem.W.nsIn K mainGlobals "unlike" = some (some (.ref x_unlike)))
    (l_unlike : K.lookup x_unlike = some ⟨oc_unlike, od_unlike, .func (PySem.W.fnOf "unlike" "unlike" (defArgs s_unlike) (defBody s_unlike) (defScope s_unlike) .none kV_unlike dc_unlike pm_unlike an_unlike cd_unlike ct_unlike), sl_unlike⟩)
    (c_unlike : PySem.W.codeIn K cd_unlike "unlike" = true)
    (k_unlike : PySem.W.keepIn K (.ref x_unlike) = true)
    (a_written : PySem.W.nsIn K mainGlobals "written" = some (some (.ref x_written)))
    (l_written : K.lookup x_written = some ⟨oc_written, od_written, .func (PySem.W.fnOf "written" "written" (defArgs s_written) (defBody s_written) (defScope s_written) .none kV_written dc_written pm_written an_written cd_written ct_written), sl_written⟩)
    (c_written : PySem.W.codeIn K cd_written "written" = true)
    (k_written : PySem.W.keepIn K (.ref x_written) = true)
    (a_check_going : PySem.W.nsIn K mainGlobals "check_going" = some (some (.ref x_check_going)))
    (l_check_going : K.lookup x_check_going = some ⟨oc_check_going, od_check_going, .func (PySem.W.fnOf "check_going" "check_going" (defArgs s_check_going) (defBody s_check_going) (defScope s_check_going) .none kV_check_going dc_check_going pm_check_going an_check_going cd_check_going ct_check_going), sl_check_going⟩)
    (c_check_going : PySem.W.codeIn K cd_check_going "check_going" = true)
    (k_check_going : PySem.W.keepIn K (.ref x_check_going) = true)
    (a_far : PySem.W.nsIn K mainGlobals "far" = some (some (.ref x_far)))
    (l_far : K.lookup x_far = some ⟨oc_far, od_far, .func (PySem.W.fnOf "far" "far" (defArgs s_far) (defBody s_far) (defScope s_far) .none kV_far dc_far pm_far an_far cd_far ct_far), sl_far⟩)
    (c_far : PySem.W.codeIn K cd_far "far" = true)
    (k_far : PySem.W.keepIn K (.ref x_far) = true)
    (a_go_on : PySem.W.nsIn K mainGlobals "go_on" = some (some (.ref x_go_on)))
    (l_go_on : K.lookup x_go_on = some ⟨oc_go_on, od_go_on, .func (PySem.W.fnOf "go_on" "go_on" (defArgs s_go_on) (defBody s_go_on) (defScope s_go_on) .none kV_go_on dc_go_on pm_go_on an_go_on cd_go_on ct_go_on), sl_go_on⟩)
    (c_go_on : PySem.W.codeIn K cd_go_on "go_on" = true)
    (k_go_on : PySem.W.keepIn K (.ref x_go_on) = true)
    (a_backwards : PySem.W.nsIn K mainGlobals "backwards" = some (some (.ref x_backwards)))
    (l_backwards : K.lookup x_backwards = some ⟨oc_backwards, od_backwards, .func (PySem.W.fnOf "backwards" "backwards" (defArgs s_backwards) (defBody s_backwards) (defScope s_backwards) .none kV_backwards dc_backwards pm_backwards an_backwards cd_backwards ct_backwards), sl_backwards⟩)
    (c_backwards : PySem.W.codeIn K cd_backwards "backwards" = true)
    (k_backwards : PySem.W.keepIn K (.ref x_backwards) = true)
    (a__law_more : PySem.W.nsIn K mainGlobals "_law_more" = some (some (.ref x__law_more)))
    (l__law_more : K.lookup x__law_more = some ⟨oc__law_more, od__law_more, .func (PySem.W.fnOf "_law_more" "_law_more" (defArgs s__law_more) (defBody s__law_more) (defScope s__law_more) .none kV__law_more dc__law_more pm__law_more an__law_more cd__law_more ct__law_more), sl__law_more⟩)
    (c__law_more : PySem.W.codeIn K cd__law_more "_law_more" = true)
    (k__law_more : PySem.W.keepIn K (.ref x__law_more) = true)
    (a__law_with_prime : PySem.W.nsIn K mainGlobals "_law_with_prime" = some (some (.ref x__law_with_prime)))
    (l__law_with_prime : K.lookup x__law_with_prime = some ⟨oc__law_with_prime, od__law_with_prime, .func (PySem.W.fnOf "_law_with_prime" "_law_with_prime" (defArgs s__law_with_prime) (defBody s__law_with_prime) (defScope s__law_with_prime) .none kV__law_with_prime dc__law_with_prime pm__law_with_prime an__law_with_prime cd__law_with_prime ct__law_with_prime), sl__law_with_prime⟩)
    (c__law_with_prime : PySem.W.codeIn K cd__law_with_prime "_law_with_prime" = true)
    (k__law_with_prime : PySem.W.keepIn K (.ref x__law_with_prime) = true)
    (a__law_with_rule : PySem.W.nsIn K mainGlobals "_law_with_rule" = some (some (.ref x__law_with_rule)))
    (l__law_with_rule : K.lookup x__law_with_rule = some ⟨oc__law_with_rule, od__law_with_rule, .func (PySem.W.fnOf "_law_with_rule" "_law_with_rule" (defArgs s__law_with_rule) (defBody s__law_with_rule) (defScope s__law_with_rule) .none kV__law_with_rule dc__law_with_rule pm__law_with_rule an__law_with_rule cd__law_with_rule ct__law_with_rule), sl__law_with_rule⟩)
    (c__law_with_rule : PySem.W.codeIn K cd__law_with_rule "_law_with_rule" = true)
    (k__law_with_rule : PySem.W.keepIn K (.ref x__law_with_rule) = true)
    (a__law_with_row : PySem.W.nsIn K mainGlobals "_law_with_row" = some (some (.ref x__law_with_row)))
    (l__law_with_row : K.lookup x__law_with_row = some ⟨oc__law_with_row, od__law_with_row, .func (PySem.W.fnOf "_law_with_row" "_law_with_row" (defArgs s__law_with_row) (defBody s__law_with_row) (defScope s__law_with_row) .none kV__law_with_row dc__law_with_row pm__law_with_row an__law_with_row cd__law_with_row ct__law_with_row), sl__law_with_row⟩)
    (c__law_with_row : PySem.W.codeIn K cd__law_with_row "_law_with_row" = true)
    (k__law_with_row : PySem.W.keepIn K (.ref x__law_with_row) = true)
    (a__law_with_few : PySem.W.nsIn K mainGlobals "_law_with_few" = some (some (.ref x__law_with_few)))
    (l__law_with_few : K.lookup x__law_with_few = some ⟨oc__law_with_few, od__law_with_few, .func (PySem.W.fnOf "_law_with_few" "_law_with_few" (defArgs s__law_with_few) (defBody s__law_with_few) (defScope s__law_with_few) .none kV__law_with_few dc__law_with_few pm__law_with_few an__law_with_few cd__law_with_few ct__law_with_few), sl__law_with_few⟩)
    (c__law_with_few : PySem.W.codeIn K cd__law_with_few "_law_with_few" = true)
    (k__law_with_few : PySem.W.keepIn K (.ref x__law_with_few) = true)
    (a__law_with_place : PySem.W.nsIn K mainGlobals "_law_with_place" = some (some (.ref x__law_with_place)))
    (l__law_with_place : K.lookup x__law_with_place = some ⟨oc__law_with_place, od__law_with_place, .func (PySem.W.fnOf "_law_with_place" "_law_with_place" (defArgs s__law_with_place) (defBody s__law_with_place) (defScope s__law_with_place) .none kV__law_with_place dc__law_with_place pm__law_with_place an__law_with_place cd__law_with_place ct__law_with_place), sl__law_with_place⟩)
    (c__law_with_place : PySem.W.codeIn K cd__law_with_place "_law_with_place" = true)
    (k__law_with_place : PySem.W.keepIn K (.ref x__law_with_place) = true)
    (a__law_kinds : PySem.W.nsIn K mainGlobals "_law_kinds" = some (some (.ref x__law_kinds)))
    (l__law_kinds : K.lookup x__law_kinds = some ⟨oc__law_kinds, od__law_kinds, .func (PySem.W.fnOf "_law_kinds" "_law_kinds" (defArgs s__law_kinds) (defBody s__law_kinds) (defScope s__law_kinds) .none kV__law_kinds dc__law_kinds pm__law_kinds an__law_kinds cd__law_kinds ct__law_kinds), sl__law_kinds⟩)
    (c__law_kinds : PySem.W.codeIn K cd__law_kinds "_law_kinds" = true)
    (k__law_kinds : PySem.W.keepIn K (.ref x__law_kinds) = true)
    (a__law_told : PySem.W.nsIn K mainGlobals "_law_told" = some (some (.ref x__law_told)))
    (l__law_told : K.lookup x__law_told = some ⟨oc__law_told, od__law_told, .func (PySem.W.fnOf "_law_told" "_law_told" (defArgs s__law_told) (defBody s__law_told) (defScope s__law_told) .none kV__law_told dc__law_told pm__law_told an__law_told cd__law_told ct__law_told), sl__law_told⟩)
    (c__law_told : PySem.W.codeIn K cd__law_told "_law_told" = true)
    (k__law_told : PySem.W.keepIn K (.ref x__law_told) = true)
    (a__law_all : PySem.W.nsIn K mainGlobals "_law_all" = some (some (.ref x__law_all)))
    (l__law_all : K.lookup x__law_all = some ⟨oc__law_all, od__law_all, .func (PySem.W.fnOf "_law_all" "_law_all" (defArgs s__law_all) (defBody s__law_all) (defScope s__law_all) .none kV__law_all dc__law_all pm__law_all an__law_all cd__law_all ct__law_all), sl__law_all⟩)
    (c__law_all : PySem.W.codeIn K cd__law_all "_law_all" = true)
    (k__law_all : PySem.W.keepIn K (.ref x__law_all) = true)
    (a_law : PySem.W.nsIn K mainGlobals "law" = some (some (.ref x_law)))
    (l_law : K.lookup x_law = some ⟨oc_law, od_law, .func (PySem.W.fnOf "law" "law" (defArgs s_law) (defBody s_law) (defScope s_law) .none kV_law dc_law pm_law an_law cd_law ct_law), sl_law⟩)
    (c_law : PySem.W.codeIn K cd_law "law" = true)
    (k_law : PySem.W.keepIn K (.ref x_law) = true)
    (z_len : PySem.W.nsIn K mainGlobals "len" = some none)
    (z_sum : PySem.W.nsIn K mainGlobals "sum" = some none)
    (z_all : PySem.W.nsIn K mainGlobals "all" = some none)
    (z_any : PySem.W.nsIn K mainGlobals "any" = some none)
    (z_list : PySem.W.nsIn K mainGlobals "list" = some none)
    (z_max : PySem.W.nsIn K mainGlobals "max" = some none)
    (z_isinstance : PySem.W.nsIn K mainGlobals "isinstance" = some none)
    (z_range : PySem.W.nsIn K mainGlobals "range" = some none)
    (z_enumerate : PySem.W.nsIn K mainGlobals "enumerate" = some none)
    (z_int : PySem.W.nsIn K mainGlobals "int" = some none)
    (z_bool : PySem.W.nsIn K mainGlobals "bool" = some none)
    (z_abs : PySem.W.nsIn K mainGlobals "abs" = some none)
    (z_reversed : PySem.W.nsIn K mainGlobals "reversed" = some none)
    (z_str : PySem.W.nsIn K mainGlobals "str" = some none)
    (z_tuple : PySem.W.nsIn K mainGlobals "tuple" = some none)
    (z_ValueError : PySem.W.nsIn K mainGlobals "ValueError" = some none)
    (z_GREATEST : PySem.W.nsIn K mainGlobals "GREATEST" = some (some (.int 997 u_GREATEST))) :
    ∃ fd : FuncData, (∀ (s : Shared) (v : Value), BindsTo s fd ⟨[v], []⟩ [("_law_script", v)]) ∧ ∀ base : Heap, K.In base → base.Ns mainGlobals mg → FnOk l.prog w K mg base CX0 12 fa fd ["_law_script"] (sp_law K) := by
  have e := hfa.symm.trans (PySem.W.mg_of X G a_law)
  cases e
  let T := txt_mk X G ac_RuleError ac_BadPrime xk_BadPrime kc_BadPrime q1_BadPrime q2_BadPrime q3_BadPrime q4_BadPrime ac_BadRow xk_BadRow kc_BadRow q1_BadRow q2_BadRow q3_BadRow q4_BadRow ac_BadRule xk_BadRule kc_BadRule q1_BadRule q2_BadRule q3_BadRule q4_BadRule ac_BadPlace xk_BadPlace kc_BadPlace q1_BadPlace q2_BadPlace q3_BadPlace q4_BadPlace ac_TooFew xk_TooFew kc_TooFew q1_TooFew q2_TooFew q3_TooFew q4_TooFew ac_NoWay xk_NoWay kc_NoWay q1_NoWay q2_NoWay q3_NoWay q4_NoWay ac_BadText xk_BadText kc_BadText q1_BadText q2_BadText q3_BadText q4_BadText j2 j3 hd_BadPrime sb_BadPrime ty_BadPrime is_BadRow ty_BadRow sub_BadPrime_BadRow ne_BadPrime_BadRow is_BadRule ty_BadRule sub_BadPrime_BadRule ne_BadPrime_BadRule is_BadPlace ty_BadPlace sub_BadPrime_BadPlace ne_BadPrime_BadPlace is_TooFew ty_TooFew sub_BadPrime_TooFew ne_BadPrime_TooFew is_NoWay ty_NoWay sub_BadPrime_NoWay ne_BadPrime_NoWay is_BadText ty_BadText sub_BadPrime_BadText ne_BadPrime_BadText sub_BadPrime_ValueError hd_RuleError sb_RuleError ty_RuleError sub_BadPrime_RuleError hd_BadRow sb_BadRow is_BadPrime sub_BadRow_BadPrime ne_BadRow_BadPrime sub_BadRow_BadRule ne_BadRow_BadRule sub_BadRow_BadPlace ne_BadRow_BadPlace sub_BadRow_TooFew ne_BadRow_TooFew sub_BadRow_NoWay ne_BadRow_NoWay sub_BadRow_BadText ne_BadRow_BadText sub_BadRow_ValueError sub_BadRow_RuleError hd_BadRule sb_BadRule sub_BadRule_BadPrime ne_BadRule_BadPrime sub_BadRule_BadRow ne_BadRule_BadRow sub_BadRule_BadPlace ne_BadRule_BadPlace sub_BadRule_TooFew ne_BadRule_TooFew sub_BadRule_NoWay ne_BadRule_NoWay sub_BadRule_BadText ne_BadRule_BadText sub_BadRule_ValueError sub_BadRule_RuleError hd_BadPlace sb_BadPlace sub_BadPlace_BadPrime ne_BadPlace_BadPrime sub_BadPlace_BadRow ne_BadPlace_BadRow sub_BadPlace_BadRule ne_BadPlace_BadRule sub_BadPlace_TooFew ne_BadPlace_TooFew sub_BadPlace_NoWay ne_BadPlace_NoWay sub_BadPlace_BadText ne_BadPlace_BadText sub_BadPlace_ValueError sub_BadPlace_RuleError hd_TooFew sb_TooFew sub_TooFew_BadPrime ne_TooFew_BadPrime sub_TooFew_BadRow ne_TooFew_BadRow sub_TooFew_BadRule ne_TooFew_BadRule sub_TooFew_BadPlace ne_TooFew_BadPlace sub_TooFew_NoWay ne_TooFew_NoWay sub_TooFew_BadText ne_TooFew_BadText sub_TooFew_ValueError sub_TooFew_RuleError hd_NoWay sb_NoWay sub_NoWay_BadPrime ne_NoWay_BadPrime sub_NoWay_BadRow ne_NoWay_BadRow sub_NoWay_BadRule ne_NoWay_BadRule sub_NoWay_BadPlace ne_NoWay_BadPlace sub_NoWay_TooFew ne_NoWay_TooFew sub_NoWay_BadText ne_NoWay_BadText sub_NoWay_ValueError sub_NoWay_RuleError hd_BadText sb_BadText sub_BadText_BadPrime ne_BadText_BadPrime sub_BadText_BadRow ne_BadText_BadRow sub_BadText_BadRule ne_BadText_BadRule sub_BadText_BadPlace ne_BadText_BadPlace sub_BadText_TooFew ne_BadText_TooFew sub_BadText_NoWay ne_BadText_NoWay sub_BadText_ValueError sub_BadText_RuleError a_is_whole l_is_whole c_is_whole k_is_whole a_check_prime l_check_prime c_check_prime k_check_prime a_are_rests l_are_rests c_are_rests k_are_rests a_check_row l_check_row c_check_row k_check_row a_inverse l_inverse c_inverse k_inverse a_check_rule l_check_rule c_check_rule k_check_rule a_due_at l_due_at c_due_at k_due_at a_turned l_turned c_turned k_turned a_told_back l_told_back c_told_back k_told_back a_least l_least c_least k_least a__law_cell_at l__law_cell_at c__law_cell_at k__law_cell_at a__law_draw l__law_draw c__law_draw k__law_draw a__law_rests l__law_rests c__law_rests k__law_rests a__law_due l__law_due c__law_due k__law_due a__law_row l__law_row c__law_row k__law_row a_makes l_makes c_makes k_makes a_both l_both c_both k_both a_unlike l_unlike c_unlike k_unlike a_written l_written c_written k_written a_check_going l_check_going c_check_going k_check_going a_far l_far c_far k_far a_go_on l_go_on c_go_on k_go_on a_backwards l_backwards c_backwards k_backwards a__law_more l__law_more c__law_more k__law_more a__law_with_prime l__law_with_prime c__law_with_prime k__law_with_prime a__law_with_rule l__law_with_rule c__law_with_rule k__law_with_rule a__law_with_row l__law_with_row c__law_with_row k__law_with_row a__law_with_few l__law_with_few c__law_with_few k__law_with_few a__law_with_place l__law_with_place c__law_with_place k__law_with_place a__law_kinds l__law_kinds c__law_kinds k__law_kinds a__law_told l__law_told c__law_told k__law_told a__law_all l__law_all c__law_all k__law_all a_law l_law c_law k_law z_len z_sum z_all z_any z_list z_max z_isinstance z_range z_enumerate z_int z_bool z_abs z_reversed z_str z_tuple z_ValueError z_GREATEST
  exact ⟨T.f_law, fun s v => .of_eq rfl, fun base _ _ => ok_law T⟩
end RP
open PySem PySem.W PyProof.Rows
set_option maxRecDepth 100000 in
set_option maxHeartbeats 0 in
theorem PySem.Challenge.cw_rulerow_k07_refused_holds : PySem.Challenge.rw_rulerow_k07_refused.Holds := by
  w_on; o_law; k_head; (case hw => w_witness2)
  k_fill
  refine L2.walk_of (l := PySem.Challenge.rw_rulerow_k07_refused) (n := 63) (k := 12) (x := "_law_script") (CX := fun w => L2.CX0) (sp := fun w => RP.sp_law _) rfl (by decide) rfl ⟨rfl, by decide, by decide⟩ (fun w h Y => PySem.W.kIn_of Y) ?F (fun _ _ a ns hl _ hS => RP.law_start hl hS) fun _ _ _ _ _ h => h
  case F =>
    intro w mg fa h KX G hmg
    refine' RP.all_mk KX G hmg ?ac_RuleError ?ac_BadPrime ?xk_BadPrime ?kc_BadPrime ?q1_BadPrime ?q2_BadPrime ?q3_BadPrime ?q4_BadPrime ?ac_BadRow ?xk_BadRow ?kc_BadRow ?q1_BadRow ?q2_BadRow ?q3_BadRow ?q4_BadRow ?ac_BadRule ?xk_BadRule ?kc_BadRule ?q1_BadRule ?q2_BadRule ?q3_BadRule ?q4_BadRule ?ac_BadPlace ?xk_BadPlace ?kc_BadPlace ?q1_BadPlace ?q2_BadPlace ?q3_BadPlace ?q4_BadPlace ?ac_TooFew ?xk_TooFew ?kc_TooFew ?q1_TooFew ?q2_TooFew ?q3_TooFew ?q4_TooFew ?ac_NoWay ?xk_NoWay ?kc_NoWay ?q1_NoWay ?q2_NoWay ?q3_NoWay ?q4_NoWay ?ac_BadText ?xk_BadText ?kc_BadText ?q1_BadText ?q2_BadText ?q3_BadText ?q4_BadText ?j2 ?j3 ?hd_BadPrime ?sb_BadPrime ?ty_BadPrime ?is_BadRow ?ty_BadRow ?sub_BadPrime_BadRow ?ne_BadPrime_BadRow ?is_BadRule ?ty_BadRule ?sub_BadPrime_BadRule ?ne_BadPrime_BadRule ?is_BadPlace ?ty_BadPlace ?sub_BadPrime_BadPlace ?ne_BadPrime_BadPlace ?is_TooFew ?ty_TooFew ?sub_BadPrime_TooFew ?ne_BadPrime_TooFew ?is_NoWay ?ty_NoWay ?sub_BadPrime_NoWay ?ne_BadPrime_NoWay ?is_BadText ?ty_BadText ?sub_BadPrime_BadText ?ne_BadPrime_BadText ?sub_BadPrime_ValueError ?hd_RuleError ?sb_RuleError ?ty_RuleError ?sub_BadPrime_RuleError ?hd_BadRow ?sb_BadRow ?is_BadPrime ?sub_BadRow_BadPrime ?ne_BadRow_BadPrime ?sub_BadRow_BadRule ?ne_BadRow_BadRule ?sub_BadRow_BadPlace ?ne_BadRow_BadPlace ?sub_BadRow_TooFew ?ne_BadRow_TooFew ?sub_BadRow_NoWay ?ne_BadRow_NoWay ?sub_BadRow_BadText ?ne_BadRow_BadText ?sub_BadRow_ValueError ?sub_BadRow_RuleError ?hd_BadRule ?sb_BadRule ?sub_BadRule_BadPrime ?ne_BadRule_BadPrime ?sub_BadRule_BadRow ?ne_BadRule_BadRow ?sub_BadRule_BadPlace ?ne_BadRule_BadPlace ?sub_BadRule_TooFew ?ne_BadRule_TooFew ?sub_BadRule_NoWay ?ne_BadRule_NoWay ?sub_BadRule_BadText ?ne_BadRule_BadText ?sub_BadRule_ValueError ?sub_BadRule_RuleError ?hd_BadPlace ?sb_BadPlace ?sub_BadPlace_BadPrime ?ne_BadPlace_BadPrime ?sub_BadPlace_BadRow ?ne_BadPlace_BadRow ?sub_BadPlace_BadRule ?ne_BadPlace_BadRule ?sub_BadPlace_TooFew ?ne_BadPlace_TooFew ?sub_BadPlace_NoWay ?ne_BadPlace_NoWay ?sub_BadPlace_BadText ?ne_BadPlace_BadText ?sub_BadPlace_ValueError ?sub_BadPlace_RuleError ?hd_TooFew ?sb_TooFew ?sub_TooFew_BadPrime ?ne_TooFew_BadPrime ?sub_TooFew_BadRow ?ne_TooFew_BadRow ?sub_TooFew_BadRule ?ne_TooFew_BadRule ?sub_TooFew_BadPlace ?ne_TooFew_BadPlace ?sub_TooFew_NoWay ?ne_TooFew_NoWay ?sub_TooFew_BadText ?ne_TooFew_BadText ?sub_TooFew_ValueError ?sub_TooFew_RuleError ?hd_NoWay ?sb_NoWay ?sub_NoWay_BadPrime ?ne_NoWay_BadPrime ?sub_NoWay_BadRow ?ne_NoWay_BadRow ?sub_NoWay_BadRule ?ne_NoWay_BadRule ?sub_NoWay_BadPlace ?ne_NoWay_BadPlace ?sub_NoWay_TooFew ?ne_NoWay_TooFew ?sub_NoWay_BadText ?ne_NoWay_BadText ?sub_NoWay_ValueError ?sub_NoWay_RuleError ?hd_BadText ?sb_BadText ?sub_BadText_BadPrime ?ne_BadText_BadPrime ?sub_BadText_BadRow ?ne_BadText_BadRow ?sub_BadText_BadRule ?ne_BadText_BadRule ?sub_BadText_BadPlace ?ne_BadText_BadPlace ?sub_BadText_TooFew ?ne_BadText_TooFew ?sub_BadText_NoWay ?ne_BadText_NoWay ?sub_BadText_ValueError ?sub_BadText_RuleError ?a_is_whole ?l_is_whole ?c_is_whole ?k_is_whole ?a_check_prime ?l_check_prime ?c_check_prime ?k_check_prime ?a_are_rests ?l_are_rests ?c_are_rests ?k_are_rests ?a_check_row ?l_check_row ?c_check_row ?k_check_row ?a_inverse ?l_inverse ?c_inverse ?k_inverse ?a_check_rule ?l_check_rule ?c_check_rule ?k_check_rule ?a_due_at ?l_due_at ?c_due_at ?k_due_at ?a_turned ?l_turned ?c_turned ?k_turned ?a_told_back ?l_told_back ?c_told_back ?k_told_back ?a_least ?l_least ?c_least ?k_least ?a__law_cell_at ?l__law_cell_at ?c__law_cell_at ?k__law_cell_at ?a__law_draw ?l__law_draw ?c__law_draw ?k__law_draw ?a__law_rests ?l__law_rests ?c__law_rests ?k__law_rests ?a__law_due ?l__law_due ?c__law_due ?k__law_due ?a__law_row ?l__law_row ?c__law_row ?k__law_row ?a_makes ?l_makes ?c_makes ?k_makes ?a_both ?l_both ?c_both ?k_both ?a_unlike ?l_unlike ?c_unlike ?k_unlike ?a_written ?l_written ?c_written ?k_written ?a_check_going ?l_check_going ?c_check_going ?k_check_going ?a_far ?l_far ?c_far ?k_far ?a_go_on ?l_go_on ?c_go_on ?k_go_on ?a_backwards ?l_backwards ?c_backwards ?k_backwards ?a__law_more ?l__law_more ?c__law_more ?k__law_more ?a__law_with_prime ?l__law_with_prime ?c__law_with_prime ?k__law_with_prime ?a__law_with_rule ?l__law_with_rule ?c__law_with_rule ?k__law_with_rule ?a__law_with_row ?l__law_with_row ?c__law_with_row ?k__law_with_row ?a__law_with_few ?l__law_with_few ?c__law_with_few ?k__law_with_few ?a__law_with_place ?l__law_with_place ?c__law_with_place ?k__law_with_place ?a__law_kinds ?l__law_kinds ?c__law_kinds ?k__law_kinds ?a__law_told ?l__law_told ?c__law_told ?k__law_told ?a__law_all ?l__law_all ?c__law_all ?k__law_all ?a_law ?l_law ?c_law ?k_law ?z_len ?z_sum ?z_all ?z_any ?z_list ?z_max ?z_isinstance ?z_range ?z_enumerate ?z_int ?z_bool ?z_abs ?z_reversed ?z_str ?z_tuple ?z_ValueError ?z_GREATEST
    (case ac_RuleError => k_is)
    (case ac_BadPrime => k_is)
    (case xk_BadPrime => k_exc)
    (case kc_BadPrime => k_is)
    (case q1_BadPrime => k_is)
    (case q2_BadPrime => k_is)
    (case q3_BadPrime => k_is)
    (case q4_BadPrime => k_is)
    (case ac_BadRow => k_is)
    (case xk_BadRow => k_exc)
    (case kc_BadRow => k_is)
    (case q1_BadRow => k_is)
    (case q2_BadRow => k_is)
    (case q3_BadRow => k_is)
    (case q4_BadRow => k_is)
    (case ac_BadRule => k_is)
    (case xk_BadRule => k_exc)
    (case kc_BadRule => k_is)
    (case q1_BadRule => k_is)
    (case q2_BadRule => k_is)
    (case q3_BadRule => k_is)
    (case q4_BadRule => k_is)
    (case ac_BadPlace => k_is)
    (case xk_BadPlace => k_exc)
    (case kc_BadPlace => k_is)
    (case q1_BadPlace => k_is)
    (case q2_BadPlace => k_is)
    (case q3_BadPlace => k_is)
    (case q4_BadPlace => k_is)
    (case ac_TooFew => k_is)
    (case xk_TooFew => k_exc)
    (case kc_TooFew => k_is)
    (case q1_TooFew => k_is)
    (case q2_TooFew => k_is)
    (case q3_TooFew => k_is)
    (case q4_TooFew => k_is)
    (case ac_NoWay => k_is)
    (case xk_NoWay => k_exc)
    (case kc_NoWay => k_is)
    (case q1_NoWay => k_is)
    (case q2_NoWay => k_is)
    (case q3_NoWay => k_is)
    (case q4_NoWay => k_is)
    (case ac_BadText => k_is)
    (case xk_BadText => k_exc)
    (case kc_BadText => k_is)
    (case q1_BadText => k_is)
    (case q2_BadText => k_is)
    (case q3_BadText => k_is)
    (case q4_BadText => k_is)
    (case j2 => k_is)
    (case j3 => k_is)
    (case hd_BadPrime => k_is)
    (case sb_BadPrime => k_is)
    (case ty_BadPrime => k_is)
    (case is_BadRow => k_is)
    (case ty_BadRow => k_is)
    (case sub_BadPrime_BadRow => k_is)
    (case ne_BadPrime_BadRow => decide)
    (case is_BadRule => k_is)
    (case ty_BadRule => k_is)
    (case sub_BadPrime_BadRule => k_is)
    (case ne_BadPrime_BadRule => decide)
    (case is_BadPlace => k_is)
    (case ty_BadPlace => k_is)
    (case sub_BadPrime_BadPlace => k_is)
    (case ne_BadPrime_BadPlace => decide)
    (case is_TooFew => k_is)
    (case ty_TooFew => k_is)
    (case sub_BadPrime_TooFew => k_is)
    (case ne_BadPrime_TooFew => decide)
    (case is_NoWay => k_is)
    (case ty_NoWay => k_is)
    (case sub_BadPrime_NoWay => k_is)
    (case ne_BadPrime_NoWay => decide)
    (case is_BadText => k_is)
    (case ty_BadText => k_is)
    (case sub_BadPrime_BadText => k_is)
    (case ne_BadPrime_BadText => decide)
    (case sub_BadPrime_ValueError => k_is)
    (case hd_RuleError => k_is)
    (case sb_RuleError => k_is)
    (case ty_RuleError => k_is)
    (case sub_BadPrime_RuleError => k_is)
    (case hd_BadRow => k_is)
    (case sb_BadRow => k_is)
    (case is_BadPrime => k_is)
    (case sub_BadRow_BadPrime => k_is)
    (case ne_BadRow_BadPrime => decide)
    (case sub_BadRow_BadRule => k_is)
    (case ne_BadRow_BadRule => decide)
    (case sub_BadRow_BadPlace => k_is)
    (case ne_BadRow_BadPlace => decide)
    (case sub_BadRow_TooFew => k_is)
    (case ne_BadRow_TooFew => decide)
    (case sub_BadRow_NoWay => k_is)
    (case ne_BadRow_NoWay => decide)
    (case sub_BadRow_BadText => k_is)
    (case ne_BadRow_BadText => decide)
    (case sub_BadRow_ValueError => k_is)
    (case sub_BadRow_RuleError => k_is)
    (case hd_BadRule => k_is)
    (case sb_BadRule => k_is)
    (case sub_BadRule_BadPrime => k_is)
    (case ne_BadRule_BadPrime => decide)
    (case sub_BadRule_BadRow => k_is)
    (case ne_BadRule_BadRow => decide)
    (case sub_BadRule_BadPlace => k_is)
    (case ne_BadRule_BadPlace => decide)
    (case sub_BadRule_TooFew => k_is)
    (case ne_BadRule_TooFew => decide)
    (case sub_BadRule_NoWay => k_is)
    (case ne_BadRule_NoWay => decide)
    (case sub_BadRule_BadText => k_is)
    (case ne_BadRule_BadText => decide)
    (case sub_BadRule_ValueError => k_is)
    (case sub_BadRule_RuleError => k_is)
    (case hd_BadPlace => k_is)
    (case sb_BadPlace => k_is)
    (case sub_BadPlace_BadPrime => k_is)
    (case ne_BadPlace_BadPrime => decide)
    (case sub_BadPlace_BadRow => k_is)
    (case ne_BadPlace_BadRow => decide)
    (case sub_BadPlace_BadRule => k_is)
    (case ne_BadPlace_BadRule => decide)
    (case sub_BadPlace_TooFew => k_is)
    (case ne_BadPlace_TooFew => decide)
    (case sub_BadPlace_NoWay => k_is)
    (case ne_BadPlace_NoWay => decide)
    (case sub_BadPlace_BadText => k_is)
    (case ne_BadPlace_BadText => decide)
    (case sub_BadPlace_ValueError => k_is)
    (case sub_BadPlace_RuleError => k_is)
    (case hd_TooFew => k_is)
    (case sb_TooFew => k_is)
    (case sub_TooFew_BadPrime => k_is)
    (case ne_TooFew_BadPrime => decide)
    (case sub_TooFew_BadRow => k_is)
    (case ne_TooFew_BadRow => decide)
    (case sub_TooFew_BadRule => k_is)
    (case ne_TooFew_BadRule => decide)
    (case sub_TooFew_BadPlace => k_is)
    (case ne_TooFew_BadPlace => decide)
    (case sub_TooFew_NoWay => k_is)
    (case ne_TooFew_NoWay => decide)
    (case sub_TooFew_BadText => k_is)
    (case ne_TooFew_BadText => decide)
    (case sub_TooFew_ValueError => k_is)
    (case sub_TooFew_RuleError => k_is)
    (case hd_NoWay => k_is)
    (case sb_NoWay => k_is)
    (case sub_NoWay_BadPrime => k_is)
    (case ne_NoWay_BadPrime => decide)
    (case sub_NoWay_BadRow => k_is)
    (case ne_NoWay_BadRow => decide)
    (case sub_NoWay_BadRule => k_is)
    (case ne_NoWay_BadRule => decide)
    (case sub_NoWay_BadPlace => k_is)
    (case ne_NoWay_BadPlace => decide)
    (case sub_NoWay_TooFew => k_is)
    (case ne_NoWay_TooFew => decide)
    (case sub_NoWay_BadText => k_is)
    (case ne_NoWay_BadText => decide)
    (case sub_NoWay_ValueError => k_is)
    (case sub_NoWay_RuleError => k_is)
    (case hd_BadText => k_is)
    (case sb_BadText => k_is)
    (case sub_BadText_BadPrime => k_is)
    (case ne_BadText_BadPrime => decide)
    (case sub_BadText_BadRow => k_is)
    (case ne_BadText_BadRow => decide)
    (case sub_BadText_BadRule => k_is)
    (case ne_BadText_BadRule => decide)
    (case sub_BadText_BadPlace => k_is)
    (case ne_BadText_BadPlace => decide)
    (case sub_BadText_TooFew => k_is)
    (case ne_BadText_TooFew => decide)
    (case sub_BadText_NoWay => k_is)
    (case ne_BadText_NoWay => decide)
    (case sub_BadText_ValueError => k_is)
    (case sub_BadText_RuleError => k_is)
    (case a_is_whole => k_is)
    (case l_is_whole => k_is)
    (case c_is_whole => k_is)
    (case k_is_whole => k_is)
    (case a_check_prime => k_is)
    (case l_check_prime => k_is)
    (case c_check_prime => k_is)
    (case k_check_prime => k_is)
    (case a_are_rests => k_is)
    (case l_are_rests => k_is)
    (case c_are_rests => k_is)
    (case k_are_rests => k_is)
    (case a_check_row => k_is)
    (case l_check_row => k_is)
    (case c_check_row => k_is)
    (case k_check_row => k_is)
    (case a_inverse => k_is)
    (case l_inverse => k_is)
    (case c_inverse => k_is)
    (case k_inverse => k_is)
    (case a_check_rule => k_is)
    (case l_check_rule => k_is)
    (case c_check_rule => k_is)
    (case k_check_rule => k_is)
    (case a_due_at => k_is)
    (case l_due_at => k_is)
    (case c_due_at => k_is)
    (case k_due_at => k_is)
    (case a_turned => k_is)
    (case l_turned => k_is)
    (case c_turned => k_is)
    (case k_turned => k_is)
    (case a_told_back => k_is)
    (case l_told_back => k_is)
    (case c_told_back => k_is)
    (case k_told_back => k_is)
    (case a_least => k_is)
    (case l_least => k_is)
    (case c_least => k_is)
    (case k_least => k_is)
    (case a__law_cell_at => k_is)
    (case l__law_cell_at => k_is)
    (case c__law_cell_at => k_is)
    (case k__law_cell_at => k_is)
    (case a__law_draw => k_is)
    (case l__law_draw => k_is)
    (case c__law_draw => k_is)
    (case k__law_draw => k_is)
    (case a__law_rests => k_is)
    (case l__law_rests => k_is)
    (case c__law_rests => k_is)
    (case k__law_rests => k_is)
    (case a__law_due => k_is)
    (case l__law_due => k_is)
    (case c__law_due => k_is)
    (case k__law_due => k_is)
    (case a__law_row => k_is)
    (case l__law_row => k_is)
    (case c__law_row => k_is)
    (case k__law_row => k_is)
    (case a_makes => k_is)
    (case l_makes => k_is)
    (case c_makes => k_is)
    (case k_makes => k_is)
    (case a_both => k_is)
    (case l_both => k_is)
    (case c_both => k_is)
    (case k_both => k_is)
    (case a_unlike => k_is)
    (case l_unlike => k_is)
    (case c_unlike => k_is)
    (case k_unlike => k_is)
    (case a_written => k_is)
    (case l_written => k_is)
    (case c_written => k_is)
    (case k_written => k_is)
    (case a_check_going => k_is)
    (case l_check_going => k_is)
    (case c_check_going => k_is)
    (case k_check_going => k_is)
    (case a_far => k_is)
    (case l_far => k_is)
    (case c_far => k_is)
    (case k_far => k_is)
    (case a_go_on => k_is)
    (case l_go_on => k_is)
    (case c_go_on => k_is)
    (case k_go_on => k_is)
    (case a_backwards => k_is)
    (case l_backwards => k_is)
    (case c_backwards => k_is)
    (case k_backwards => k_is)
    (case a__law_more => k_is)
    (case l__law_more => k_is)
    (case c__law_more => k_is)
    (case k__law_more => k_is)
    (case a__law_with_prime => k_is)
    (case l__law_with_prime => k_is)
    (case c__law_with_prime => k_is)
    (case k__law_with_prime => k_is)
    (case a__law_with_rule => k_is)
    (case l__law_with_rule => k_is)
    (case c__law_with_rule => k_is)
    (case k__law_with_rule => k_is)
    (case a__law_with_row => k_is)
    (case l__law_with_row => k_is)
    (case c__law_with_row => k_is)
    (case k__law_with_row => k_is)
    (case a__law_with_few => k_is)
    (case l__law_with_few => k_is)
    (case c__law_with_few => k_is)
    (case k__law_with_few => k_is)
    (case a__law_with_place => k_is)
    (case l__law_with_place => k_is)
    (case c__law_with_place => k_is)
    (case k__law_with_place => k_is)
    (case a__law_kinds => k_is)
    (case l__law_kinds => k_is)
    (case c__law_kinds => k_is)
    (case k__law_kinds => k_is)
    (case a__law_told => k_is)
    (case l__law_told => k_is)
    (case c__law_told => k_is)
    (case k__law_told => k_is)
    (case a__law_all => k_is)
    (case l__law_all => k_is)
    (case c__law_all => k_is)
    (case k__law_all => k_is)
    (case a_law => k_is)
    (case l_law => k_is)
    (case c_law => k_is)
    (case k_law => k_is)
    (case z_len => k_is)
    (case z_sum => k_is)
    (case z_all => k_is)
    (case z_any => k_is)
    (case z_list => k_is)
    (case z_max => k_is)
    (case z_isinstance => k_is)
    (case z_range => k_is)
    (case z_enumerate => k_is)
    (case z_int => k_is)
    (case z_bool => k_is)
    (case z_abs => k_is)
    (case z_reversed => k_is)
    (case z_str => k_is)
    (case z_tuple => k_is)
    (case z_ValueError => k_is)
    (case z_GREATEST => k_is)
