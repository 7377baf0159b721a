import PyProof.Rows.All
import Wide.All
import OpenK.AllK
import Wide.FinOn
import HandS.Iter
import HandS.Dict
import KE.KTryMore
import HandS.Codes
import HandS.StrMore
import HandS.TryMany
import HandS.TryOnly
import HandS.SuiteRaise
import HandS.ExcOwn
import HandS.ExcCtx
import HandS.ExcIs
import HandS.Hot
import HandS.HotCalls
import HandS.Steps
import HandS.ForMost
import HandS.ForExc
import HandS.Evl
import HandS.Walk
import HandS.IsInst
import HandS.Style
import HandS.RevRange
import HandS.CallRecv
import HandS.Conv
import PySem.Challenge.RW_rulerow_k06_written
set_option Elab.async false
set_option linter.all false
set_option maxRecDepth 100000
set_option maxHeartbeats 4000000
/-! RrMath: the plain side. Lists of rests by a prime, rules, the shortest rule; no Python here. -/
namespace RR

/-- the number at a place, 0 beyond -/
def g (l : List Int) (i : Nat) : Int := l.getD i 0
theorem g_nil (i : Nat) : g [] i = 0 := by simp [g]
theorem g_cons_zero (x : Int) (l : List Int) : g (x :: l) 0 = x := rfl
theorem g_cons_succ (x : Int) (l : List Int) (i : Nat) : g (x :: l) (i + 1) = g l i := rfl
theorem g_out {l : List Int} {i : Nat} (h : l.length ≤ i) : g l i = 0 := by
  unfold g; simp [List.getD_eq_getElem?_getD, List.getElem?_eq_none h]
theorem g_in {l : List Int} {i : Nat} (h : i < l.length) : l[i]? = some (g l i) := by
  unfold g; simp [List.getD_eq_getElem?_getD, List.getElem?_eq_getElem h]
theorem g_mem {l : List Int} {i : Nat} (h : i < l.length) : g l i ∈ l := List.mem_of_getElem? (g_in h)
theorem g_map {f : Int → Int} {l : List Int} {i : Nat} (h : i < l.length) : g (l.map f) i = f (g l i) := by
  have e := g_in h
  unfold g at *
  simp [List.getD_eq_getElem?_getD, List.getElem?_map, List.getElem?_eq_getElem h]
theorem g_set_self {l : List Int} {i : Nat} {v : Int} (h : i < l.length) : g (l.set i v) i = v := by
  unfold g; simp [List.getD_eq_getElem?_getD, List.getElem?_set_self h]
theorem g_set_ne {l : List Int} {i j : Nat} {v : Int} (h : i ≠ j) : g (l.set i v) j = g l j := by
  unfold g; simp [List.getD_eq_getElem?_getD, List.getElem?_set_ne h]
theorem g_append_left {l m : List Int} {i : Nat} (h : i < l.length) : g (l ++ m) i = g l i := by
  unfold g; simp [List.getD_eq_getElem?_getD, List.getElem?_append_left h]
theorem g_append_right {l m : List Int} {i : Nat} (h : l.length ≤ i) : g (l ++ m) i = g m (i - l.length) := by
  unfold g; simp [List.getD_eq_getElem?_getD, List.getElem?_append_right h]
theorem g_replicate (n i : Nat) : g (List.replicate n 0) i = 0 := by
  by_cases h : i < n
  · have := g_mem (l := List.replicate n (0 : Int)) (i := i) (by simpa using h)
    exact (List.mem_replicate.mp this).2
  · exact g_out (by simpa using h)
theorem g_take {l : List Int} {n i : Nat} (h : i < n) : g (l.take n) i = g l i := by
  unfold g; simp [List.getD_eq_getElem?_getD, List.getElem?_take, h]
theorem g_drop {l : List Int} {n i : Nat} : g (l.drop n) i = g l (n + i) := by
  unfold g; simp [List.getD_eq_getElem?_getD, List.getElem?_drop]
theorem g_ext {l m : List Int} (hl : l.length = m.length) (h : ∀ i, i < l.length → g l i = g m i) : l = m := by
  apply List.ext_getElem? 
  intro i
  by_cases hi : i < l.length
  · rw [g_in hi, g_in (by omega), h i hi]
  · rw [List.getElem?_eq_none (by omega), List.getElem?_eq_none (by omega)]

/-! ### sums -/
def S : Nat → (Nat → Int) → Int
  | 0, _ => 0
  | n + 1, f => S n f + f n
theorem S_congr {n : Nat} {f h : Nat → Int} (e : ∀ k, k < n → f k = h k) : S n f = S n h := by
  induction n with
  | zero => rfl
  | succ n ih => simp only [S]; rw [ih (fun k hk => e k (by omega)), e n (by omega)]
theorem S_zero {n : Nat} {f : Nat → Int} (e : ∀ k, k < n → f k = 0) : S n f = 0 := by
  induction n with
  | zero => rfl
  | succ n ih => simp only [S]; rw [ih (fun k hk => e k (by omega)), e n (by omega)]; rfl
theorem S_add (n : Nat) (f h : Nat → Int) : S n (fun k => f k + h k) = S n f + S n h := by
  induction n with
  | zero => rfl
  | succ n ih => simp only [S]; rw [ih]; omega
theorem S_mul (n : Nat) (c : Int) (f : Nat → Int) : S n (fun k => c * f k) = c * S n f := by
  induction n with
  | zero => simp [S]
  | succ n ih => simp only [S]; rw [ih, Int.mul_add]
theorem S_neg (n : Nat) (f : Nat → Int) : S n (fun k => - f k) = - S n f := by
  induction n with
  | zero => rfl
  | succ n ih => simp only [S]; rw [ih]; omega
/-- terms beyond that are 0 -/
theorem S_more {n m : Nat} {f : Nat → Int} (h : n ≤ m) (z : ∀ k, n ≤ k → k < m → f k = 0) : S m f = S n f := by
  induction m with
  | zero => have : n = 0 := by omega
            subst this; rfl
  | succ m ih =>
    by_cases e : n = m + 1
    · subst e; rfl
    · simp only [S]; rw [ih (by omega) (fun k h1 h2 => z k h1 (by omega)), z m (by omega) (by omega)]; omega
/-- terms ahead that are 0 -/
theorem S_shift {a m : Nat} {f : Nat → Int} (z : ∀ k, k < a → f k = 0) : S (a + m) f = S m (fun j => f (a + j)) := by
  induction m with
  | zero => exact S_zero z
  | succ m ih => rw [← Nat.add_assoc]; simp only [S]; rw [ih]
theorem S_succ_left (n : Nat) (f : Nat → Int) : S (n + 1) f = f 0 + S n (fun k => f (k + 1)) := by
  induction n with
  | zero => simp [S]
  | succ n ih => rw [S, ih]; simp only [S]; omega
theorem S_range (n : Nat) (f : Nat → Int) : ((List.range n).map f).sum = S n f := by
  induction n with
  | zero => rfl
  | succ n ih => rw [List.range_succ, List.map_append, List.sum_append, ih]; simp [S]

/-! ### rests -/
theorem cg_add {p a b c d : Int} (h : a % p = b % p) (k : c % p = d % p) : (a + c) % p = (b + d) % p := by
  rw [Int.add_emod, h, k, ← Int.add_emod]
theorem cg_sub {p a b c d : Int} (h : a % p = b % p) (k : c % p = d % p) : (a - c) % p = (b - d) % p := by
  rw [Int.sub_emod, h, k, ← Int.sub_emod]
theorem cg_mul {p a b c d : Int} (h : a % p = b % p) (k : c % p = d % p) : (a * c) % p = (b * d) % p := by
  rw [Int.mul_emod, h, k, ← Int.mul_emod]
theorem cg_neg {p a b : Int} (h : a % p = b % p) : (-a) % p = (-b) % p := by
  have := cg_sub (p := p) (a := 0) (b := 0) rfl h
  simpa using this
theorem cg_S {p : Int} {n : Nat} {f h : Nat → Int} (e : ∀ k, k < n → f k % p = h k % p) : S n f % p = S n h % p := by
  induction n with
  | zero => rfl
  | succ n ih => simp only [S]; exact cg_add (ih fun k hk => e k (by omega)) (e n (by omega))
theorem mm {p a : Int} : (a % p) % p = a % p := Int.emod_emod_of_dvd a (Int.dvd_refl p)

/-- a list of rests -/
def Rs (p : Int) (l : List Int) : Prop := ∀ x, x ∈ l → 0 ≤ x ∧ x < p
def rs (p : Int) (l : List Int) : Bool := l.all fun x => decide (0 ≤ x) && decide (x < p)
theorem rs_iff {p : Int} {l : List Int} : rs p l = true ↔ Rs p l := by
  unfold rs Rs; simp [List.all_eq_true]
theorem Rs.g {p : Int} {l : List Int} (h : Rs p l) (hp : 0 < p) (i : Nat) : 0 ≤ RR.g l i ∧ RR.g l i < p := by
  by_cases hi : i < l.length
  · exact h _ (g_mem hi)
  · rw [g_out (by omega)]; omega
theorem Rs.nil {p : Int} : Rs p [] := fun x h => by simp at h
theorem Rs.mod {p : Int} {α : Type} {l : List α} {f : α → Int} (hp : 0 < p) : Rs p (l.map fun a => f a % p) := fun x h => by
  obtain ⟨a, _, rfl⟩ := List.mem_map.mp h
  exact ⟨Int.emod_nonneg _ (by omega), Int.emod_lt_of_pos _ hp⟩
theorem emod_small {p x : Int} (h : 0 ≤ x ∧ x < p) : x % p = x := Int.emod_eq_of_lt h.1 h.2

/-! ### what is due -/
def due (p : Int) (rule row : List Int) (n : Nat) : Int := S rule.length (fun k => g rule k * g row (n - 1 - k)) % p
def makesAll (p : Int) (rule row : List Int) : Bool := (List.range (row.length - rule.length)).all fun i => decide (g row (rule.length + i) = due p rule row (rule.length + i))
def Makes (p : Int) (rule row : List Int) : Prop := ∀ n, rule.length ≤ n → n < row.length → g row n = due p rule row n
theorem makes_iff {p : Int} {rule row : List Int} : makesAll p rule row = true ↔ Makes p rule row := by
  unfold makesAll Makes
  simp only [List.all_eq_true, List.mem_range, decide_eq_true_eq]
  constructor
  · intro h n h1 h2
    have := h (n - rule.length) (by omega)
    rw [show rule.length + (n - rule.length) = n by omega] at this
    exact this
  · intro h i hi
    exact h _ (by omega) (by omega)

def turned (p : Int) (rule : List Int) : List Int := 1 :: rule.map fun r => (-r) % p
def toldBack (p : Int) (rests : List Int) : List Int := (rests.drop 1).map fun r => (-r) % p
theorem turned_len (p : Int) (rule : List Int) : (turned p rule).length = rule.length + 1 := by simp [turned]
theorem toldBack_len (p : Int) (r : List Int) : (toldBack p r).length = r.length - 1 := by simp [toldBack]
theorem toldBack_rs {p : Int} (hp : 0 < p) (r : List Int) : Rs p (toldBack p r) := Rs.mod hp
theorem turned_rs {p : Int} (hp : 1 < p) (r : List Int) : Rs p (turned p r) := fun x h => by
  rcases List.mem_cons.mp h with rfl | h
  · omega
  · exact Rs.mod (p := p) (by omega) x h
theorem turned_zero (p : Int) (r : List Int) : g (turned p r) 0 = 1 := rfl
theorem turned_succ {p : Int} {r : List Int} {k : Nat} (h : k < r.length) : g (turned p r) (k + 1) = (- g r k) % p := by
  unfold turned; rw [g_cons_succ, g_map (f := fun r => (-r) % p) h]

/-- the numbers and those ahead together -/
def D (c : List Int) (row : List Int) (n : Nat) : Int := S c.length (fun k => g c k * g row (n - k))
theorem D_turned {p : Int} (rule row : List Int) (n : Nat) : D (turned p rule) row n % p = (g row n - due p rule row n) % p := by
  unfold D
  rw [turned_len, S_succ_left]
  rw [turned_zero, Int.one_mul, Nat.sub_zero, Int.sub_eq_add_neg]
  refine cg_add rfl ?_
  unfold due
  rw [show (-(S rule.length (fun k => g rule k * g row (n - 1 - k)) % p)) % p = (-(S rule.length (fun k => g rule k * g row (n - 1 - k)))) % p from cg_neg mm, ← S_neg]
  refine cg_S fun k hk => ?_
  rw [turned_succ hk, show n - (k + 1) = n - 1 - k by omega, ← Int.neg_mul]
  exact cg_mul mm rfl
/-- a rule makes the number at n just if these together are 0 -/
theorem due_iff {p : Int} (hp : 0 < p) {rule row : List Int} (hr : Rs p row) {n : Nat} : g row n = due p rule row n ↔ D (turned p rule) row n % p = 0 := by
  rw [D_turned]
  have h1 := hr.g hp n
  have h2 : 0 ≤ due p rule row n ∧ due p rule row n < p := ⟨Int.emod_nonneg _ (by omega), Int.emod_lt_of_pos _ hp⟩
  constructor
  · intro e; rw [e]; simp
  · intro e
    have := Int.emod_emod_of_dvd (g row n - due p rule row n) (Int.dvd_refl p)
    by_cases h : g row n - due p rule row n < 0
    · have e2 : (g row n - due p rule row n + p) % p = 0 := by rw [Int.add_emod_right]; exact e
      rw [Int.emod_eq_of_lt (by omega) (by omega)] at e2
      omega
    · rw [Int.emod_eq_of_lt (by omega) (by omega)] at e
      omega
/-- told back and turned: the same by the prime -/
theorem turned_toldBack {p : Int} (hp : 1 < p) {r : List Int} (h0 : g r 0 % p = 1) (hl : 0 < r.length) (row : List Int) (n : Nat) : D (turned p (toldBack p r)) row n % p = D r row n % p := by
  unfold D
  rw [turned_len, toldBack_len, show r.length - 1 + 1 = r.length by omega]
  refine cg_S fun k hk => ?_
  refine cg_mul ?_ rfl
  cases k with
  | zero => rw [turned_zero, h0]; exact Int.emod_eq_of_lt (by omega) (by omega)
  | succ k =>
    rw [turned_succ (by rw [toldBack_len]; omega)]
    unfold toldBack
    rw [g_map (f := fun r => (-r) % p) (by simp; omega), g_drop, mm]
    rw [cg_neg (p := p) mm, Int.neg_neg, Nat.add_comm]

/-! ### rests taken off -/
def takenOff (p : Int) (one other : List Int) (by_ : Int) (ahead len : Nat) : List Int :=
  (List.range (len + 1)).map fun i => if ahead ≤ i ∧ i - ahead < other.length ∧ g other (i - ahead) ≠ 0 then (g one i - by_ * g other (i - ahead)) % p else g one i
theorem takenOff_len (p : Int) (one other : List Int) (by_ : Int) (ahead len : Nat) : (takenOff p one other by_ ahead len).length = len + 1 := by simp [takenOff]
theorem g_range_map {n : Nat} {f : Nat → Int} {i : Nat} (h : i < n) : g ((List.range n).map f) i = f i := by
  unfold g; simp [List.getD_eq_getElem?_getD, List.getElem?_map, h]
theorem takenOff_g {p : Int} {one other : List Int} {by_ : Int} {ahead len i : Nat} (h : i ≤ len) :
    g (takenOff p one other by_ ahead len) i % p = (g one i - (if i < ahead then 0 else by_ * g other (i - ahead))) % p := by
  unfold takenOff
  rw [g_range_map (by omega)]
  by_cases h1 : ahead ≤ i
  · rw [if_neg (show ¬ i < ahead by omega)]
    by_cases h2 : i - ahead < other.length ∧ g other (i - ahead) ≠ 0
    · rw [if_pos ⟨h1, h2⟩, mm]
    · rw [if_neg (fun z => h2 z.2)]
      have : g other (i - ahead) = 0 := by
        by_cases h3 : i - ahead < other.length
        · exact Classical.byContradiction fun z => h2 ⟨h3, z⟩
        · exact g_out (by omega)
      rw [this, Int.mul_zero, Int.sub_zero]
  · rw [if_neg (fun z => h1 z.1), if_pos (by omega), Int.sub_zero]
theorem takenOff_rs {p : Int} (hp : 0 < p) {one other : List Int} (ho : Rs p one) (by_ : Int) (ahead len : Nat) : Rs p (takenOff p one other by_ ahead len) := fun x h => by
  obtain ⟨i, _, rfl⟩ := List.mem_map.mp h
  split
  · exact ⟨Int.emod_nonneg _ (by omega), Int.emod_lt_of_pos _ hp⟩
  · exact ho.g hp i
/-- what they together are -/
theorem D_takenOff {p : Int} {one other row : List Int} {by_ : Int} {ahead len n : Nat} (h1 : one.length ≤ len + 1) (h2 : ahead + other.length ≤ len + 1) (hn : len ≤ n) :
    D (takenOff p one other by_ ahead len) row n % p = (D one row n - by_ * D other row (n - ahead)) % p := by
  have e1 : D one row n = S (len + 1) (fun k => g one k * g row (n - k)) := (S_more h1 fun k hk _ => by rw [g_out hk, Int.zero_mul]).symm
  have e2 : D other row (n - ahead) = S (len + 1) (fun k => (if k < ahead then 0 else g other (k - ahead)) * g row (n - k)) := by
    rw [show len + 1 = ahead + (len + 1 - ahead) by omega, S_shift (fun k hk => by rw [if_pos hk, Int.zero_mul])]
    unfold D
    rw [S_more (n := other.length) (m := len + 1 - ahead) (by omega)]
    · refine S_congr fun k hk => ?_
      rw [if_neg (by omega), show ahead + k - ahead = k by omega, show n - (ahead + k) = n - ahead - k by omega]
    · intro k hk _
      rw [if_neg (by omega), show ahead + k - ahead = k by omega, g_out hk, Int.zero_mul]
  rw [e1, e2]
  unfold D
  rw [takenOff_len, ← S_mul, Int.sub_eq_add_neg, ← S_neg, ← S_add]
  refine cg_S fun k hk => ?_
  rw [show g one k * g row (n - k) + -(by_ * ((if k < ahead then 0 else g other (k - ahead)) * g row (n - k))) = (g one k - (if k < ahead then 0 else by_ * g other (k - ahead))) * g row (n - k) by
    split
    · simp
    · rw [Int.sub_mul, Int.mul_assoc, Int.sub_eq_add_neg]]
  exact cg_mul (takenOff_g (by omega)) rfl
end RR
/-! RrBM: inverses by a prime, the shortest rule (Berlekamp and Massey), what shows that it is shortest. -/
namespace RR

/-- a prime the program takes -/
structure Good (p : Int) : Prop where
  two : 2 ≤ p
  most : p ≤ 997
  pr : ∀ e : Int, 0 < e → e ∣ p → e = 1 ∨ e = p
theorem Good.pos {p : Int} (h : Good p) : 0 < p := by have := h.two; omega
theorem Good.one {p : Int} (h : Good p) : 1 < p := by have := h.two; omega

/-! ### inverse -/
def invF : Nat → Int → Int → Int → Int → Int
  | 0, _, _, _, d => d
  | n + 1, a, b, c, d => if c = 1 then d else invF n c d (a - a / c * c) (b - a / c * d)
def inverse (p r : Int) : Int := invF p.toNat p 0 r 1 % p
/-- what holds between the turns -/
structure InvI (p r a b c d : Int) : Prop where
  pos : 1 ≤ c
  le : c ≤ a
  most : a ≤ p
  ea : a % p = (b * r) % p
  ec : c % p = (d * r) % p
  cop : ∀ e : Int, 0 < e → e ∣ a → e ∣ c → e = 1
theorem InvI.next {p r a b c d : Int} (h : InvI p r a b c d) (h1 : c ≠ 1) : InvI p r c d (a - a / c * c) (b - a / c * d) ∧ a - a / c * c < c := by
  have hc : 0 < c := by have := h.pos; omega
  have e : a - a / c * c = a % c := by
    have := Int.mul_ediv_add_emod a c
    rw [Int.mul_comm] at this
    omega
  have h2 : 0 ≤ a % c := Int.emod_nonneg _ (by omega)
  have h3 : a % c < c := Int.emod_lt_of_pos _ hc
  have h4 : a % c ≠ 0 := fun z => h1 (h.cop c hc (Int.dvd_of_emod_eq_zero z) (Int.dvd_refl c))
  have hle := h.le
  have hmo := h.most
  refine ⟨⟨by omega, by omega, by omega, h.ec, ?_, fun x hx d1 d2 => h.cop x hx ?_ d1⟩, by omega⟩
  · rw [Int.sub_mul, Int.mul_assoc]
    exact cg_sub h.ea (cg_mul rfl h.ec)
  · have := Int.dvd_add d2 (Int.dvd_mul_of_dvd_right d1 (b := a / c))
    rw [show a - a / c * c + a / c * c = a by omega] at this
    exact this
theorem invF_ok {p r : Int} : ∀ (n : Nat) (a b c d : Int), InvI p r a b c d → c ≤ n → (invF n a b c d * r) % p = 1 % p
  | 0, a, b, c, d, h, hn => by have := h.pos; omega
  | n + 1, a, b, c, d, h, hn => by
    unfold invF
    split
    · rename_i h1
      subst h1
      exact h.ec.symm
    · rename_i h1
      have q := h.next h1
      exact invF_ok n _ _ _ _ q.1 (by omega)
theorem invI_start {p r : Int} (hp : Good p) (h1 : 1 ≤ r) (h2 : r < p) : InvI p r p 0 r 1 := by
  refine ⟨h1, by omega, Int.le_refl p, by simp, by simp, fun e he d1 d2 => ?_⟩
  rcases hp.pr e he d1 with h | h
  · exact h
  · subst h
    have := Int.le_of_dvd (by omega) d2
    omega
theorem inverse_ok {p r : Int} (hp : Good p) (h1 : 1 ≤ r) (h2 : r < p) : (inverse p r * r) % p = 1 := by
  have q := invF_ok p.toNat p 0 r 1 (invI_start hp h1 h2) (by omega)
  unfold inverse
  rw [show (invF p.toNat p 0 r 1 % p * r) % p = (invF p.toNat p 0 r 1 * r) % p from cg_mul mm rfl, q]
  exact Int.emod_eq_of_lt (by omega) (by have := hp.two; omega)
theorem inverse_rs {p r : Int} (hp : Good p) : 0 ≤ inverse p r ∧ inverse p r < p := ⟨Int.emod_nonneg _ (by have := hp.two; omega), Int.emod_lt_of_pos _ hp.pos⟩

/-! ### the shortest rule -/
structure BSt where
  rule : List Int
  shorter : List Int
  place : Int
  miss : Int
def gapAt (p : Int) (row rule : List Int) (n : Nat) : Int := (g row n - due p rule row n) % p
def lenAt (rule : List Int) (n : Nat) : Nat := if n + 1 - rule.length > rule.length then n + 1 - rule.length else rule.length
def restsAt (p : Int) (row : List Int) (s : BSt) (n : Nat) : List Int :=
  takenOff p (turned p s.rule) (turned p s.shorter) (gapAt p row s.rule n * inverse p s.miss % p) ((n : Int) - s.place).toNat (lenAt s.rule n)
def bmStep (p : Int) (row : List Int) (s : BSt) (n : Nat) : BSt :=
  if s.rule.length ≤ n ∧ gapAt p row s.rule n ≠ 0 then
    if lenAt s.rule n > s.rule.length then ⟨toldBack p (restsAt p row s n), s.rule, n, gapAt p row s.rule n⟩
    else ⟨toldBack p (restsAt p row s n), s.shorter, s.place, s.miss⟩
  else s
def bm (p : Int) (row : List Int) : Nat → BSt
  | 0 => ⟨[], [], -1, 1⟩
  | n + 1 => bmStep p row (bm p row n) n
def shortest (p : Int) (row : List Int) : BSt := bm p row row.length

structure BMI (p : Int) (row : List Int) (n : Nat) (s : BSt) : Prop where
  rr : Rs p s.rule
  rsh : Rs p s.shorter
  m1 : 1 ≤ s.miss
  m2 : s.miss < p
  sum : (s.rule.length : Int) + s.shorter.length = s.place + 1
  len : s.rule.length ≤ n
  made : ∀ k, s.rule.length ≤ k → k < n → D (turned p s.rule) row k % p = 0
  shape : (s.place = -1 ∧ s.rule = [] ∧ s.shorter = []) ∨ (∃ q : Nat, s.place = q ∧ q < n ∧ s.shorter.length < s.rule.length ∧ s.shorter.length ≤ q ∧
    (∀ k, s.shorter.length ≤ k → k < q → D (turned p s.shorter) row k % p = 0) ∧ D (turned p s.shorter) row q % p = s.miss)

theorem BMI.start {p : Int} (hp : Good p) (row : List Int) : BMI p row 0 ⟨[], [], -1, 1⟩ :=
  ⟨Rs.nil, Rs.nil, Int.le_refl 1, hp.one, rfl, Nat.le_refl 0, fun k _ h => absurd h (Nat.not_lt_zero k), .inl ⟨rfl, rfl, rfl⟩⟩

theorem gap_D {p : Int} (row rule : List Int) (n : Nat) : gapAt p row rule n = D (turned p rule) row n % p := by
  unfold gapAt; rw [D_turned]

theorem restsAt_len {p : Int} (row : List Int) (s : BSt) (n : Nat) : (restsAt p row s n).length = lenAt s.rule n + 1 := takenOff_len ..

theorem BMI.step {p : Int} (hp : Good p) {row : List Int} {n : Nat} {s : BSt} (h : BMI p row n s) : BMI p row (n + 1) (bmStep p row s n) := by
  have hp0 := hp.pos
  have hp1 := hp.one
  have hsum := h.sum
  have hlen := h.len
  have gap_ge : 0 ≤ gapAt p row s.rule n := Int.emod_nonneg _ (by omega)
  have gap_lt : gapAt p row s.rule n < p := Int.emod_lt_of_pos _ hp0
  unfold bmStep
  by_cases hc : s.rule.length ≤ n ∧ gapAt p row s.rule n ≠ 0
  · rw [if_pos hc]
    obtain ⟨hln, hg⟩ := hc
    -- the place as a natural number plus one
    have hpl : s.place ≥ -1 ∧ s.place < n := by
      rcases h.shape with ⟨e, _, _⟩ | ⟨q, e, hq, _⟩ <;> omega
    obtain ⟨ah, hah⟩ : ∃ ah : Nat, ((n : Int) - s.place).toNat = ah := ⟨_, rfl⟩
    have hah1 : (ah : Int) = n - s.place := by omega
    obtain ⟨len, hl⟩ : ∃ len : Nat, lenAt s.rule n = len := ⟨_, rfl⟩
    have hl1 : s.rule.length ≤ len ∧ n + 1 - s.rule.length ≤ len ∧ (len = s.rule.length ∨ len = n + 1 - s.rule.length) := by
      unfold lenAt at hl
      split at hl <;> omega
    -- the new rests together
    have key : ∀ k, len ≤ k → D (restsAt p row s n) row k % p = (D (turned p s.rule) row k - (gapAt p row s.rule n * inverse p s.miss % p) * D (turned p s.shorter) row (k - ah)) % p := fun k hk => by
      unfold restsAt
      rw [hah, hl]
      exact D_takenOff (by rw [turned_len]; omega) (by rw [turned_len]; omega) hk
    have h0 : g (restsAt p row s n) 0 % p = 1 := by
      unfold restsAt
      rw [hah, hl, takenOff_g (Nat.zero_le _), if_pos (by omega), turned_zero, Int.sub_zero]
      exact Int.emod_eq_of_lt (by omega) (by omega)
    have hrl : (restsAt p row s n).length = len + 1 := by rw [restsAt_len, hl]
    have made' : ∀ k, len ≤ k → k < n + 1 → D (turned p (toldBack p (restsAt p row s n))) row k % p = 0 := fun k hk1 hk2 => by
      rw [turned_toldBack hp1 h0 (by omega), key k hk1]
      rcases h.shape with ⟨e, er, es⟩ | ⟨q, e, hq, hs1, hs2, hs3, hs4⟩
      · -- nothing stood ahead: no such k
        rw [er] at hl1
        simp at hl1
        omega
      · by_cases hkn : k < n
        · have z1 : D (turned p s.rule) row k % p = 0 := h.made k (by omega) hkn
          have z2 : D (turned p s.shorter) row (k - ah) % p = 0 := hs3 _ (by omega) (by omega)
          rw [Int.sub_emod, z1, Int.mul_emod, z2]
          simp
        · have ek : k = n := by omega
          have ek2 : k - ah = q := by omega
          rw [ek2, ek]
          have hq4 : D (turned p s.shorter) row q % p = s.miss % p := by rw [hs4, emod_small ⟨by have := h.m1; omega, h.m2⟩]
          have e1 : (gapAt p row s.rule n * inverse p s.miss % p * D (turned p s.shorter) row q) % p = gapAt p row s.rule n % p := by
            rw [show (gapAt p row s.rule n * inverse p s.miss % p * D (turned p s.shorter) row q) % p = (gapAt p row s.rule n * inverse p s.miss * s.miss) % p from cg_mul mm hq4]
            rw [Int.mul_assoc]
            rw [show (gapAt p row s.rule n * (inverse p s.miss * s.miss)) % p = (gapAt p row s.rule n * 1) % p from cg_mul rfl (by rw [inverse_ok hp h.m1 h.m2]; exact (Int.emod_eq_of_lt (by omega) hp1).symm), Int.mul_one]
          rw [cg_sub (b := gapAt p row s.rule n) (d := gapAt p row s.rule n) (by rw [gap_D, mm]) e1, Int.sub_self]
          simp
    have rlen : (toldBack p (restsAt p row s n)).length = len := by rw [toldBack_len, hrl]; omega
    by_cases hlt : lenAt s.rule n > s.rule.length
    · rw [if_pos hlt]
      rw [hl] at hlt
      refine ⟨toldBack_rs hp0 _, h.rr, by show 1 ≤ gapAt p row s.rule n; omega, gap_lt, ?_, ?_, ?_, .inr ⟨n, rfl, by omega, ?_, hln, fun k h1 h2 => h.made k h1 h2, ?_⟩⟩
      · show ((toldBack p (restsAt p row s n)).length : Int) + s.rule.length = (n : Int) + 1
        rw [rlen]; omega
      · show (toldBack p (restsAt p row s n)).length ≤ n + 1
        rw [rlen]; omega
      · intro k h1 h2
        exact made' k (by rw [← rlen]; exact h1) h2
      · show s.rule.length < (toldBack p (restsAt p row s n)).length
        rw [rlen]; omega
      · exact (gap_D row s.rule n).symm
    · rw [if_neg hlt]
      rw [hl] at hlt
      refine ⟨toldBack_rs hp0 _, h.rsh, h.m1, h.m2, ?_, ?_, ?_, ?_⟩
      · show ((toldBack p (restsAt p row s n)).length : Int) + s.shorter.length = s.place + 1
        rw [rlen]; omega
      · show (toldBack p (restsAt p row s n)).length ≤ n + 1
        rw [rlen]; omega
      · intro k h1 h2
        exact made' k (by rw [← rlen]; exact h1) h2
      · rcases h.shape with ⟨e, er, es⟩ | ⟨q, e, hq, hs1, hs2, hs3, hs4⟩
        · rw [er] at hlt hl1
          simp at hlt hl1
          omega
        · refine .inr ⟨q, e, by omega, ?_, hs2, hs3, hs4⟩
          show s.shorter.length < (toldBack p (restsAt p row s n)).length
          rw [rlen]; omega
  · rw [if_neg hc]
    refine ⟨h.rr, h.rsh, h.m1, h.m2, hsum, by omega, fun k h1 h2 => ?_, ?_⟩
    · by_cases hk : k < n
      · exact h.made k h1 hk
      · have e : k = n := by omega
        rw [e] at h1 ⊢
        have : gapAt p row s.rule n = 0 := Classical.byContradiction fun z => hc ⟨h1, z⟩
        rw [gap_D] at this
        exact this
    · rcases h.shape with q | ⟨q, e, hq, r⟩
      · exact .inl q
      · exact .inr ⟨q, e, by omega, r⟩
theorem bm_ok {p : Int} (hp : Good p) (row : List Int) : ∀ n, BMI p row n (bm p row n)
  | 0 => BMI.start hp row
  | n + 1 => (bm_ok hp row n).step hp

/-! ### whether it is so -/
def isLeast (p : Int) (row rule shorter : List Int) (place : Int) : Bool :=
  if (!(rs p rule) || (!(rs p shorter) || !(makesAll p rule row))) = true then false
  else if decide ((rule.length : Int) = 0) = true then decide ((shorter.length : Int) = 0) && decide (place = -1)
  else if (!(decide ((shorter.length : Int) ≤ place) && decide (place < (row.length : Int))) || (!(decide ((rule.length : Int) + (shorter.length : Int) = place + 1)) || decide ((rule.length : Int) ≤ (shorter.length : Int)))) = true then false
  else makesAll p shorter (row.take place.toNat) && !(decide (g row place.toNat = due p shorter row place.toNat))

theorem due_take {p : Int} {rule row : List Int} {n m : Nat} (h : n ≤ m) (h1 : rule.length ≤ n) : due p rule (row.take m) n = due p rule row n := by
  unfold due
  refine cg_S fun k hk => ?_
  by_cases hm : n - 1 - k < m
  · rw [g_take hm]
  · omega
theorem makes_take {p : Int} {rule row : List Int} {m : Nat} : Makes p rule (row.take m) ↔ ∀ n, rule.length ≤ n → n < m → n < row.length → g row n = due p rule row n := by
  unfold Makes
  constructor
  · intro h n h1 h2 h3
    have := h n h1 (by rw [List.length_take]; omega)
    rw [g_take h2, due_take (by omega) h1] at this
    exact this
  · intro h n h1 h2
    rw [List.length_take] at h2
    rw [g_take (by omega), due_take (by omega) h1]
    exact h n h1 (by omega) (by omega)

/-- as a Prop -/
structure Shown (p : Int) (row rule shorter : List Int) (place : Int) : Prop where
  rr : Rs p rule
  rsh : Rs p shorter
  made : Makes p rule row
  none : rule = [] → shorter = [] ∧ place = -1
  some : rule ≠ [] → ∃ q : Nat, place = q ∧ shorter.length ≤ q ∧ q < row.length ∧ rule.length + shorter.length = q + 1 ∧ shorter.length < rule.length ∧
    (∀ k, shorter.length ≤ k → k < q → g row k = due p shorter row k) ∧ g row q ≠ due p shorter row q
theorem Shown.isLeast {p : Int} {row rule shorter : List Int} {place : Int} (h : Shown p row rule shorter place) : RR.isLeast p row rule shorter place = true := by
  unfold RR.isLeast
  rw [rs_iff.mpr h.rr, rs_iff.mpr h.rsh, makes_iff.mpr h.made]
  simp only [Bool.not_true, Bool.or_self, Bool.false_eq_true, if_false]
  by_cases hr : rule = []
  · obtain ⟨e1, e2⟩ := h.none hr
    rw [hr, e1, e2]
    rfl
  · obtain ⟨q, e, h1, h2, h3, h4, h5, h6⟩ := h.some hr
    have hl : rule.length ≠ 0 := fun z => hr (List.eq_nil_of_length_eq_zero z)
    rw [if_neg (show ¬ (decide ((rule.length : Int) = 0) = true) by simp; exact hr), e]
    rw [decide_eq_true (show (shorter.length : Int) ≤ (q : Int) by omega), decide_eq_true (show (q : Int) < row.length by omega), decide_eq_true (show (rule.length : Int) + shorter.length = (q : Int) + 1 by omega), decide_eq_false (show ¬ (rule.length : Int) ≤ shorter.length by omega)]
    simp only [Int.toNat_natCast, Bool.and_self, Bool.not_true, Bool.or_self, Bool.false_eq_true, if_false]
    rw [makes_iff.mpr (makes_take.mpr fun n a b _ => h5 n a b), decide_eq_false h6]
    rfl

theorem shortest_shown {p : Int} (hp : Good p) {row : List Int} (hrow : Rs p row) : Shown p row (shortest p row).rule (shortest p row).shorter (shortest p row).place := by
  have h : BMI p row row.length (shortest p row) := bm_ok hp row row.length
  refine ⟨h.rr, h.rsh, fun n h1 h2 => (due_iff hp.pos hrow).mpr (h.made n h1 h2), fun e => ?_, fun ne => ?_⟩
  · rcases h.shape with ⟨a, _, b⟩ | ⟨q, _, _, a, _⟩
    · exact ⟨b, a⟩
    · rw [e] at a
      simp at a
  · rcases h.shape with ⟨_, b, _⟩ | ⟨q, e, hq, a, b, c, d⟩
    · exact absurd b ne
    · have hsum := h.sum
      refine ⟨q, e, b, hq, by omega, a, fun k h1 h2 => (due_iff hp.pos hrow).mpr (c k h1 h2), fun z => ?_⟩
      have := (due_iff hp.pos hrow).mp z
      rw [d] at this
      have := h.m1
      omega
theorem shortest_isLeast {p : Int} (hp : Good p) {row : List Int} (hrow : Rs p row) : isLeast p row (shortest p row).rule (shortest p row).shorter (shortest p row).place = true := (shortest_shown hp hrow).isLeast

/-- one rest more: it shows no more -/
theorem more_rule {p : Int} {row rule shorter : List Int} {place x : Int} (h : Shown p row rule shorter place) : isLeast p row (rule ++ [x]) shorter place = false := by
  unfold isLeast
  split
  · rfl
  · rw [if_neg (by simp; omega)]
    rw [if_pos]
    by_cases hr : rule = []
    · obtain ⟨e1, e2⟩ := h.none hr
      rw [hr, e1, e2]
      simp
    · obtain ⟨q, e, h1, h2, h3, _⟩ := h.some hr
      rw [decide_eq_false (show ¬ (((rule ++ [x]).length : Int) + shorter.length = place + 1) by simp; omega)]
      simp
theorem more_shorter {p : Int} {row rule shorter : List Int} {place x : Int} (h : Shown p row rule shorter place) : isLeast p row rule (shorter ++ [x]) place = false := by
  unfold isLeast
  split
  · rfl
  · by_cases hr : rule = []
    · rw [hr]
      simp
      omega
    · have hl : rule.length ≠ 0 := fun z => hr (List.eq_nil_of_length_eq_zero z)
      rw [if_neg (by simp; exact hr)]
      obtain ⟨q, e, h1, h2, h3, _⟩ := h.some hr
      rw [if_pos]
      rw [decide_eq_false (show ¬ ((rule.length : Int) + (shorter ++ [x]).length = place + 1) by simp; omega)]
      simp
/-- while rests are taken off: behind i turns -/
def offStep (p : Int) (one other : List Int) (by_ : Int) (ahead len i : Nat) : List Int :=
  (List.range (len + 1)).map fun j => if ahead ≤ j ∧ j - ahead < i ∧ g other (j - ahead) ≠ 0 then (g one j - by_ * g other (j - ahead)) % p else g one j
theorem offStep_zero {p : Int} {one other : List Int} {by_ : Int} {ahead len : Nat} (h : one.length ≤ len + 1) : one ++ List.replicate (len + 1 - one.length) 0 = offStep p one other by_ ahead len 0 := by
  refine g_ext (by simp [offStep]; omega) fun i hi => ?_
  have hi2 : i < len + 1 := by simp at hi; omega
  unfold offStep
  rw [g_range_map hi2, if_neg (by omega)]
  by_cases h1 : i < one.length
  · rw [g_append_left h1]
  · rw [g_append_right (by omega), g_replicate, g_out (by omega)]
theorem offStep_len (p : Int) (one other : List Int) (by_ : Int) (ahead len i : Nat) : (offStep p one other by_ ahead len i).length = len + 1 := by simp [offStep]
theorem offStep_at {p : Int} {one other : List Int} {by_ : Int} {ahead len i : Nat} (h : i + ahead ≤ len) : g (offStep p one other by_ ahead len i) (i + ahead) = g one (i + ahead) := by
  unfold offStep
  rw [g_range_map (by omega), if_neg (by omega)]
theorem offStep_next {p : Int} {one other : List Int} {by_ : Int} {ahead len i : Nat} (h : i + ahead ≤ len) (h0 : g other i ≠ 0) :
    (offStep p one other by_ ahead len i).set (i + ahead) ((g (offStep p one other by_ ahead len i) (i + ahead) - by_ * g other i) % p) = offStep p one other by_ ahead len (i + 1) := by
  rw [offStep_at h]
  refine g_ext (by simp [offStep]) fun j hj => ?_
  have hj2 : j < len + 1 := by simp [offStep] at hj; omega
  by_cases e : i + ahead = j
  · subst e
    rw [g_set_self (by rw [offStep_len]; omega)]
    unfold offStep
    rw [g_range_map (by omega), show i + ahead - ahead = i by omega, if_pos ⟨by omega, by omega, h0⟩]
  · rw [g_set_ne e]
    unfold offStep
    rw [g_range_map hj2, g_range_map hj2]
    by_cases c : ahead ≤ j ∧ j - ahead < i ∧ g other (j - ahead) ≠ 0
    · rw [if_pos c, if_pos ⟨c.1, by omega, c.2.2⟩]
    · rw [if_neg c, if_neg]
      rintro ⟨c1, c2, c3⟩
      exact c ⟨c1, by omega, c3⟩
theorem offStep_same {p : Int} {one other : List Int} {by_ : Int} {ahead len i : Nat} (h0 : g other i = 0) : offStep p one other by_ ahead len i = offStep p one other by_ ahead len (i + 1) := by
  refine g_ext (by simp [offStep]) fun j hj => ?_
  have hj2 : j < len + 1 := by simp [offStep] at hj; omega
  unfold offStep
  rw [g_range_map hj2, g_range_map hj2]
  by_cases c : ahead ≤ j ∧ j - ahead < i ∧ g other (j - ahead) ≠ 0
  · rw [if_pos c, if_pos ⟨c.1, by omega, c.2.2⟩]
  · rw [if_neg c, if_neg]
    rintro ⟨c1, c2, c3⟩
    by_cases e : j - ahead = i
    · rw [e] at c3
      exact c3 h0
    · exact c ⟨c1, by omega, c3⟩
theorem offStep_end (p : Int) (one other : List Int) (by_ : Int) (ahead len : Nat) : offStep p one other by_ ahead len other.length = takenOff p one other by_ ahead len := rfl
end RR
/-! RrUnlike: the only shortest rule, or another one. -/
namespace RR
/-- another rule of the shortest one's length -/
def otherRests (p : Int) (row : List Int) (s : BSt) : List Int := takenOff p (turned p s.rule) (turned p s.shorter) 1 ((row.length : Int) - s.place).toNat s.rule.length
def otherRule (p : Int) (row : List Int) : List Int := toldBack p (otherRests p row (shortest p row))
theorem otherRule_len (p : Int) (row : List Int) : (otherRule p row).length = (shortest p row).rule.length := by
  unfold otherRule otherRests
  rw [toldBack_len, takenOff_len]
  omega
structure Long (p : Int) (row : List Int) (s : BSt) : Prop where
  q : ∃ q : Nat, s.place = q ∧ q < row.length ∧ s.shorter.length < s.rule.length ∧ s.rule.length + s.shorter.length = q + 1
theorem long_of {p : Int} (hp : Good p) {row : List Int} (h : ¬ 2 * (shortest p row).rule.length ≤ row.length) : Long p row (shortest p row) := by
  have inv : BMI p row row.length (shortest p row) := bm_ok hp row row.length
  have hs := inv.sum
  rcases inv.shape with ⟨_, e, _⟩ | ⟨q, e, hq, a, _⟩
  · rw [e] at h
    simp at h
  · exact ⟨q, e, hq, a, by omega⟩
theorem other_shown {p : Int} (hp : Good p) {row : List Int} (hrow : Rs p row) (h : ¬ 2 * (shortest p row).rule.length ≤ row.length) :
    Shown p row (otherRule p row) (shortest p row).shorter (shortest p row).place ∧ otherRule p row ≠ (shortest p row).rule := by
  have inv : BMI p row row.length (shortest p row) := bm_ok hp row row.length
  have sh := shortest_shown hp hrow
  obtain ⟨q, e, hq, ha, hsum⟩ := long_of hp h
  have hl := otherRule_len p row
  have hp1 := hp.one
  have hne : (shortest p row).rule ≠ [] := fun z => by rw [z] at ha; simp at ha
  obtain ⟨q2, e2, b1, b2, b3, b4, b5, b6⟩ := sh.some hne
  have eq2 : q2 = q := by omega
  subst eq2
  obtain ⟨ah, hah⟩ : ∃ ah : Nat, ((row.length : Int) - (shortest p row).place).toNat = ah := ⟨_, rfl⟩
  have hah1 : ah + q2 = row.length := by omega
  have h0 : g (otherRests p row (shortest p row)) 0 % p = 1 := by
    unfold otherRests
    rw [hah, takenOff_g (Nat.zero_le _), if_pos (by omega), turned_zero, Int.sub_zero]
    exact Int.emod_eq_of_lt (by omega) hp1
  have hrl : (otherRests p row (shortest p row)).length = (shortest p row).rule.length + 1 := takenOff_len ..
  have made : Makes p (otherRule p row) row := fun n h1 h2 => by
    rw [hl] at h1
    refine (due_iff hp.pos hrow).mpr ?_
    unfold otherRule
    rw [turned_toldBack hp1 h0 (by omega)]
    unfold otherRests
    rw [hah, D_takenOff (by rw [turned_len]; omega) (by rw [turned_len]; omega) h1]
    have z1 : D (turned p (shortest p row).rule) row n % p = 0 := inv.made n h1 h2
    have z2 : D (turned p (shortest p row).shorter) row (n - ah) % p = 0 := (due_iff hp.pos hrow).mp (b5 _ (by omega) (by omega))
    rw [Int.one_mul, Int.sub_emod, z1, z2]
    simp
  refine ⟨⟨toldBack_rs hp.pos _, sh.rsh, made, fun z => ?_, fun _ => ?_⟩, fun z => ?_⟩
  · rw [z] at hl
    simp at hl
    exact absurd (List.eq_nil_of_length_eq_zero hl.symm) hne
  · exact ⟨q2, e2, b1, b2, by rw [hl]; exact b3, by rw [hl]; exact b4, b5, b6⟩
  · -- the rest at ah differs by one
    have k1 : g (turned p (otherRule p row)) ah % p = g (turned p (shortest p row).rule) ah % p := by rw [z]
    obtain ⟨k, rfl⟩ : ∃ k, ah = k + 1 := ⟨ah - 1, by omega⟩
    have hk : k < (shortest p row).rule.length := by omega
    have k2 : g (turned p (otherRule p row)) (k + 1) % p = g (otherRests p row (shortest p row)) (k + 1) % p := by
      rw [turned_succ (by rw [hl]; exact hk)]
      unfold otherRule toldBack
      rw [g_map (f := fun r => (-r) % p) (by simp; omega), g_drop, mm, cg_neg (p := p) mm, Int.neg_neg, Nat.add_comm]
    have k3 : g (otherRests p row (shortest p row)) (k + 1) % p = (g (turned p (shortest p row).rule) (k + 1) - 1) % p := by
      unfold otherRests
      rw [hah, takenOff_g (by omega), if_neg (by omega), show k + 1 - (k + 1) = 0 by omega, turned_zero, Int.one_mul]
    rw [k2, k3] at k1
    have k4 := cg_sub k1 (rfl : g (turned p (shortest p row).rule) (k + 1) % p = _)
    rw [show g (turned p (shortest p row).rule) (k + 1) - 1 - g (turned p (shortest p row).rule) (k + 1) = -1 by omega, Int.sub_self] at k4
    have k5 : (-1 + p) % p = 0 := by rw [Int.add_emod_right, k4]; simp
    rw [Int.emod_eq_of_lt (by omega) (by omega)] at k5
    omega
/-- what Another tells -/
def isAnother (p : Int) (row one other shorter : List Int) (place : Int) : Bool :=
  if (!decide ((one.length : Int) = (other.length : Int)) || decide (one = other)) = true then false
  else if (!isLeast p row one shorter place) = true then false
  else isLeast p row other shorter place
def isOnly (p : Int) (row rule shorter : List Int) (place : Int) : Bool := decide (2 * (rule.length : Int) ≤ (row.length : Int)) && isLeast p row rule shorter place
theorem another_ok {p : Int} (hp : Good p) {row : List Int} (hrow : Rs p row) (h : ¬ 2 * (shortest p row).rule.length ≤ row.length) :
    isAnother p row (shortest p row).rule (otherRule p row) (shortest p row).shorter (shortest p row).place = true := by
  obtain ⟨h1, h2⟩ := other_shown hp hrow h
  unfold isAnother
  rw [if_neg, if_neg]
  · exact h1.isLeast
  · rw [shortest_isLeast hp hrow]
    decide
  · rw [otherRule_len, decide_eq_true rfl, decide_eq_false (fun z => h2 z.symm)]
    decide
theorem only_ok {p : Int} (hp : Good p) {row : List Int} (hrow : Rs p row) (h : 2 * (shortest p row).rule.length ≤ row.length) :
    isOnly p row (shortest p row).rule (shortest p row).shorter (shortest p row).place = true := by
  unfold isOnly
  rw [shortest_isLeast hp hrow, decide_eq_true (show 2 * ((shortest p row).rule.length : Int) ≤ row.length by omega)]
  rfl
/-- lengths of what is told -/
theorem shortest_lens {p : Int} (hp : Good p) (row : List Int) : (shortest p row).rule.length ≤ row.length ∧ (shortest p row).shorter.length ≤ row.length ∧ (shortest p row).place ≥ -1 ∧ (shortest p row).place < row.length := by
  have inv : BMI p row row.length (shortest p row) := bm_ok hp row row.length
  have h1 := inv.len
  have hs := inv.sum
  rcases inv.shape with ⟨e0, _, e⟩ | ⟨q, e0, hq, a, _⟩
  · rw [e]
    exact ⟨h1, by simp, by omega, by omega⟩
  · exact ⟨h1, by omega, by omega, by omega⟩
end RR
/-! RrKit: own words over the layer: what expressions evaluate to (more than HandS.Evl has). -/
namespace RK
open PySem L2 Evl RR

/-- a list of numbers, of truths, as it stands -/
abbrev il (ns : List Int) : List V := ns.map V.int
abbrev bls (bs : List Bool) : List V := bs.map V.bl

/-! ### what is known of lists that stand -/
def Has (K : PySem.W.Frag) (H : Hp) (L : List (Addr × List V)) : Prop := ∀ q, q ∈ L → SqL K H q.1 q.2
section
variable {K : PySem.W.Frag} {H H' : Hp} {L : List (Addr × List V)} {a : Addr} {xs : List V}
theorem Has.nil : Has K H [] := fun _ h => by cases h
theorem Has.cons (h : SqL K H a xs) (k : Has K H L) : Has K H ((a, xs) :: L) := fun q hq => by
  cases hq with
  | head => exact h
  | tail _ z => exact k q z
theorem Has.up (k : Has K H L) (e : Ex H H') : Has K H' L := fun q hq => ex_l e (k q hq)
theorem Has.at (k : Has K H L) (h : (a, xs) ∈ L) : SqL K H a xs := k (a, xs) h
theorem tyx_sql (h : SqL K H a xs) : TyX K H (.ref a) (.type "list") := by
  rcases h with (h | ⟨o, h⟩) | ⟨o, its, n, h1, h2, _⟩
  · exact .base (.lst h)
  · exact .base (.frz h)
  · exact .kList h1 h2
end

/-! ### what evaluates to a list that may be read (EvR), written (EvM) -/
def EvR (K : PySem.W.Frag) (te : TE) (σ : L2.St) (H : Hp) (xs : List V) : Prop := ∀ H1, Ex H H1 → ∀ Q : VK, (∀ p H2, Ex H1 H2 → SqL K H2 p xs → Q (.ref p) H2) → te σ H1 Q
def EvM (te : TE) (σ : L2.St) (H : Hp) (xs : List V) : Prop := ∀ H1, Ex H H1 → ∀ Q : VK, (∀ p H2, Ex H1 H2 → H2 p = some (.lst xs) → Q (.ref p) H2) → te σ H1 Q
section
variable {K : PySem.W.Frag} {σ : L2.St} {H H' : Hp} {ta tb tc te tl : TE} {t u : TT} {x y z v : V} {r r' : R2} {xs ys : List V} {a : Addr}
theorem em_of_l (h : EvL te σ H xs) : EvM te σ H xs := fun H1 e Q q => h H1 e Q fun p H2 _ e2 hp => q p H2 e2 hp
theorem er_of_m (h : EvM te σ H xs) : EvR K te σ H xs := fun H1 e Q q => h H1 e Q fun p H2 e2 hp => q p H2 e2 (sq_of hp)
theorem er_of_l (h : EvL te σ H xs) : EvR K te σ H xs := er_of_m (em_of_l h)
theorem em_v (h : Ev te σ H (.ref a)) (hx : H a = some (.lst xs)) : EvM te σ H xs := fun H1 e Q q => h H1 e Q fun H2 e2 => q a H2 e2 (e2 a _ (e a _ hx))
theorem er_v (h : Ev te σ H (.ref a)) (hx : SqL K H a xs) : EvR K te σ H xs := fun H1 e Q q => h H1 e Q fun H2 e2 => q a H2 e2 (ex_l (e.trans e2) hx)
theorem EvR.mono (e : Ex H H') (h : EvR K te σ H xs) : EvR K te σ H' xs := fun H1 a Q q => h H1 (e.trans a) Q q
theorem EvM.mono (e : Ex H H') (h : EvM te σ H xs) : EvM te σ H' xs := fun H1 a Q q => h H1 (e.trans a) Q q
theorem er_is (h : EvR K te σ H xs) (e : xs = ys) : EvR K te σ H ys := e ▸ h
theorem el_is (h : EvL te σ H xs) (e : xs = ys) : EvL te σ H ys := e ▸ h

/-! ### numbers -/
theorem rv_add {i j : Int} : RV (rI0 fun i j => .int (i + j)) (.int i) (.int j) H (.int (i + j)) := rv_I0
theorem rv_sub {i j : Int} : RV (rI0 fun i j => .int (i - j)) (.int i) (.int j) H (.int (i - j)) := rv_I0
theorem rv_lt {i j : Int} : RV (rI0 fun i j => .bl (decide (i < j))) (.int i) (.int j) H (.bl (decide (i < j))) := rv_I0
theorem rv_le {i j : Int} : RV (rI0 fun i j => .bl (decide (i ≤ j))) (.int i) (.int j) H (.bl (decide (i ≤ j))) := rv_I0
theorem rv_gt {i j : Int} : RV (rI0 fun i j => .bl (decide (j < i))) (.int i) (.int j) H (.bl (decide (j < i))) := rv_I0
theorem rv_ge {i j : Int} : RV (rI0 fun i j => .bl (decide (j ≤ i))) (.int i) (.int j) H (.bl (decide (j ≤ i))) := rv_I0
theorem rv_and {i j : Int} : RV (rI0 fun i j => .int (Builtin.bitAnd i j)) (.int i) (.int j) H (.int (Builtin.bitAnd i j)) := rv_I0
theorem rv_mulL {i j : Int} (h : -(2 ^ 64) < i ∧ i < 2 ^ 64) : RV (rI CMul fun i j => .int (i * j)) (.int i) (.int j) H (.int (i * j)) := rv_I (C := CMul) (.inl h)
theorem rv_mulR {i j : Int} (h : -(2 ^ 64) < j ∧ j < 2 ^ 64) : RV (rI CMul fun i j => .int (i * j)) (.int i) (.int j) H (.int (i * j)) := rv_I (C := CMul) (.inr h)
theorem rv_mod {i j : Int} (h : 0 < j) : RV (rI (fun _ j => 0 < j) fun i j => .int (i % j)) (.int i) (.int j) H (.int (i % j)) := rv_I (C := fun _ j => 0 < j) h
theorem rv_div {i j : Int} (h : 0 < j ∧ j < 1073741824) : RV (rI CDiv fun i j => .int (i / j)) (.int i) (.int j) H (.int (i / j)) := rv_I (C := CDiv) h
theorem rv_shr {i j : Int} (h : 0 ≤ j) : RV (rI (fun _ j => 0 ≤ j) fun i j => .int (i / 2 ^ j.toNat)) (.int i) (.int j) H (.int (i / 2 ^ j.toNat)) := rv_I (C := fun _ j => 0 ≤ j) h
theorem rv_pow {i j : Int} (h : 0 ≤ j ∧ j ≤ 1000000 ∧ i.natAbs < 2 ^ 64) : RV (rI CPow fun i j => .int (i ^ j.toNat)) (.int i) (.int j) H (.int (i ^ j.toNat)) := rv_I (C := CPow) h
theorem rv_eqI {i j : Int} : RV rEq (.int i) (.int j) H (.bl (decide (i = j))) := fun H1 e Q q => ⟨rfl, by
  rw [show decide (V.int i = V.int j) = decide (i = j) by by_cases h : i = j <;> simp [h]]
  exact q H1 (Ex.refl H1)⟩
theorem rv_neI {i j : Int} : RV rNe (.int i) (.int j) H (.bl (!decide (i = j))) := fun H1 e Q q => ⟨rfl, by
  rw [show decide (V.int i = V.int j) = decide (i = j) by by_cases h : i = j <;> simp [h]]
  exact q H1 (Ex.refl H1)⟩
theorem rv_eqB {i j : Bool} : RV rEq (.bl i) (.bl j) H (.bl (decide (i = j))) := fun H1 e Q q => ⟨rfl, by
  rw [show decide (V.bl i = V.bl j) = decide (i = j) by by_cases h : i = j <;> simp [h]]
  exact q H1 (Ex.refl H1)⟩
theorem rv_neB {i j : Bool} : RV rNe (.bl i) (.bl j) H (.bl (!decide (i = j))) := fun H1 e Q q => ⟨rfl, by
  rw [show decide (V.bl i = V.bl j) = decide (i = j) by by_cases h : i = j <;> simp [h]]
  exact q H1 (Ex.refl H1)⟩
theorem rv_eqS {i j : Str} : RV rEq (.str i) (.str j) H (.bl (decide (i = j))) := fun H1 e Q q => ⟨rfl, by
  rw [show decide (V.str i = V.str j) = decide (i = j) by by_cases h : i = j <;> simp [h]]
  exact q H1 (Ex.refl H1)⟩
theorem rv_neS {i j : Str} : RV rNe (.str i) (.str j) H (.bl (!decide (i = j))) := fun H1 e Q q => ⟨rfl, by
  rw [show decide (V.str i = V.str j) = decide (i = j) by by_cases h : i = j <;> simp [h]]
  exact q H1 (Ex.refl H1)⟩
theorem rv_isB {i j : Bool} : RV rIsB (.bl i) (.bl j) H (.bl (decide (i = j))) := fun H1 e Q q => ⟨i, j, rfl, rfl, q H1 (Ex.refl H1)⟩
theorem rv_notB {i j : Bool} : RV rNotB (.bl i) (.bl j) H (.bl (!decide (i = j))) := fun H1 e Q q => ⟨i, j, rfl, rfl, q H1 (Ex.refl H1)⟩

/-! ### lists read -/
theorem ev_lenR (h : EvR K te σ H xs) : Ev (tCB (rLenS K) (tCons te tNil)) σ H (.int (xs.length : Int)) := fun H1 e Q q =>
  h H1 e _ fun p H2 e2 hp => ⟨p, xs, rfl, .inl hp, q H2 e2⟩
theorem el_listR (h : EvR K te σ H xs) : EvL (tCB (rListS K) (tCons te tNil)) σ H xs := fun H1 e Q q =>
  h H1 e _ fun p H2 e2 hp => ⟨p, xs, rfl, .inl hp, fun l hl => q l _ (fresh_back e2 hl) (e2.trans (Ex.new hl)) upd_same⟩
theorem ev_sumR {ns : List Int} (h : EvR K te σ H (il ns)) : Ev (tCB (rSum K) (tCons te tNil)) σ H (.int ns.sum) := fun H1 e Q q =>
  h H1 e _ fun p H2 e2 hp => ⟨p, ns, rfl, hp, q H2 e2⟩
theorem ev_allR {bs : List Bool} (h : EvR K te σ H (bls bs)) : Ev (tCB (rAll K) (tCons te tNil)) σ H (.bl (bs.all id)) := fun H1 e Q q =>
  h H1 e _ fun p H2 e2 hp => ⟨p, bs, rfl, hp, q H2 e2⟩
theorem ev_anyR {bs : List Bool} (h : EvR K te σ H (bls bs)) : Ev (tCB (rAny K) (tCons te tNil)) σ H (.bl (bs.any id)) := fun H1 e Q q =>
  h H1 e _ fun p H2 e2 hp => ⟨p, bs, rfl, hp, q H2 e2⟩
theorem g_at {ns : List Int} {i : Int} (h : 0 ≤ i ∧ i < ns.length) : atI (il ns) i = some (.int (g ns i.toNat)) := by
  have e : i = (i.toNat : Int) := by omega
  rw [e]
  refine atI_nat ?_
  show (ns.map V.int)[((i.toNat : Nat) : Int).toNat]? = _
  rw [List.getElem?_map]
  rw [show ((i.toNat : Nat) : Int).toNat = i.toNat from rfl, g_in (by omega)]
  rfl
theorem ev_ixR {i : Int} (h : EvR K ta σ H xs) (hi : Ev tb σ H (.int i)) (hv : atI xs i = some v) : Ev (tOp (rIxL K) ta tb) σ H v := fun H1 e Q q =>
  h H1 e _ fun p H2 e2 hp => hi H2 (e.trans e2) _ fun H3 e3 => ⟨p, xs, i, v, rfl, rfl, ex_l e3 hp, hv, q H3 (e2.trans e3)⟩
theorem ev_ixI {ns : List Int} {i : Int} (h : EvR K ta σ H (il ns)) (hi : Ev tb σ H (.int i)) (hv : 0 ≤ i ∧ i < ns.length) : Ev (tOp (rIxL K) ta tb) σ H (.int (g ns i.toNat)) := ev_ixR h hi (g_at hv)
/-- a place of a written tuple -/
theorem ev_ixU {i : Int} (h : EvU ta σ H xs) (hi : Ev tb σ H (.int i)) (hv : atI xs i = some v) : Ev (tOp (rIxT K) ta tb) σ H v := fun H1 e Q q =>
  h H1 e _ fun p H2 _ e2 hp => hi H2 (e.trans e2) _ fun H3 e3 => ⟨p, xs, i, v, rfl, rfl, ex_t e3 (st_of hp), hv, q H3 (e2.trans e3)⟩
theorem ev_ixTv {i : Int} {a : Addr} (h : Ev ta σ H (.ref a)) (ht : SqT K H a xs) (hi : Ev tb σ H (.int i)) (hv : atI xs i = some v) : Ev (tOp (rIxT K) ta tb) σ H v := ev_op h hi (rv_ixT ht hv)
theorem el_slR {tl' th : TO} {lo hi : Option Int} (h : EvR K te σ H xs) (h1 : EvO tl' σ H lo) (h2 : EvO th σ H hi) : EvL (tSl (rSlL K) te tl' th) σ H (cutV xs lo hi) := fun H1 e _ q =>
  h H1 e _ fun p H2 e2 hp => h1 H2 (e.trans e2) _ fun H3 e3 => h2 H3 ((e.trans e2).trans e3) _ fun H4 e4 =>
    ⟨p, xs, rfl, ex_l (e3.trans e4) hp, fun l hl => q l _ (fresh_back ((e2.trans e3).trans e4) hl) (((e2.trans e3).trans e4).trans (Ex.new hl)) upd_same⟩
theorem el_revR (h : EvR K te σ H xs) : EvL (tRevL K te) σ H xs.reverse := fun H1 e _ q =>
  h H1 e _ fun p H2 e2 hp => ⟨p, xs, rfl, hp, fun l hl => q l _ (fresh_back e2 hl) (e2.trans (Ex.new hl)) upd_same⟩
theorem el_cat (ha : EvM ta σ H xs) (hb : EvM tb σ H ys) (hz : xs.length + ys.length ≤ 100000) : EvL (tOp rCat ta tb) σ H (xs ++ ys) := fun H1 e _ q =>
  ha H1 e _ fun p H2 e2 hp => hb H2 (e.trans e2) _ fun p2 H3 e3 hp2 => ⟨p, p2, xs, ys, rfl, rfl, e3 p _ hp, hp2, sz_of hz, fun l hl => q l _ (fresh_back (e2.trans e3) hl) ((e2.trans e3).trans (Ex.new hl)) upd_same⟩
theorem el_rep {k : Int} (ha : EvM ta σ H [v]) (hb : Ev tb σ H (.int k)) (hz : -100000 ≤ k ∧ k ≤ 100000) : EvL (tOp rRep ta tb) σ H (List.replicate k.toNat v) := fun H1 e _ q =>
  ha H1 e _ fun p H2 e2 hp => hb H2 (e.trans e2) _ fun H3 e3 => ⟨p, k, [v], rfl, rfl, e3 p _ hp, by omega, by omega, sz_of (by simp; omega), fun l hl => by
    refine q l _ (fresh_back (e2.trans e3) hl) ((e2.trans e3).trans (Ex.new hl)) ?_
    rw [upd_same]
    congr 2
    have : ∀ n : Nat, (List.replicate n [v]).flatten = List.replicate n v := fun n => by
      induction n with
      | zero => rfl
      | succ n ih => rw [List.replicate_succ, List.flatten_cons, ih, List.replicate_succ]; rfl
    exact this _⟩
theorem el_nil : EvL (tLst tNil) σ H [] := el_lst ea_nil (by simp)

/-! ### == of data -/
mutual
/-- data without dicts, texts of any size -/
def okD : PyData → Bool
  | .none | .bool _ | .int _ => true
  | .str _ => false
  | .list xs | .tuple xs => okDs xs
  | .dict _ => false
def okDs : List PyData → Bool
  | [] => true
  | x :: xs => okD x && okDs xs
end
theorem canLay_ints : ∀ ns : List Int, PyData.canLayAll0 (ns.map PyData.int) = true
  | [] => rfl
  | n :: ns => by
    show (PyData.canLay0 (.int n) && PyData.canLayAll0 (ns.map PyData.int)) = true
    rw [canLay_ints ns]
    rfl
theorem depth_ints : ∀ ns : List Int, PyData.depthAll (ns.map PyData.int) = 0
  | [] => rfl
  | n :: ns => by
    show max (PyData.depth (.int n)) (PyData.depthAll (ns.map PyData.int)) = 0
    rw [depth_ints ns]
    rfl
theorem canLay_bools : ∀ ns : List Bool, PyData.canLayAll0 (ns.map PyData.bool) = true
  | [] => rfl
  | n :: ns => by
    show (PyData.canLay0 (.bool n) && PyData.canLayAll0 (ns.map PyData.bool)) = true
    rw [canLay_bools ns]
    rfl
theorem depth_bools : ∀ ns : List Bool, PyData.depthAll (ns.map PyData.bool) = 0
  | [] => rfl
  | n :: ns => by
    show max (PyData.depth (.bool n)) (PyData.depthAll (ns.map PyData.bool)) = 0
    rw [depth_bools ns]
    rfl
theorem shaped_ints (ns : List Int) : SeqAt.shaped (.list (ns.map PyData.int)) = true := by
  show (PyData.canLayAll0 (ns.map PyData.int) && decide (PyData.depthAll (ns.map PyData.int) + 1 ≤ 64)) = true
  rw [canLay_ints, depth_ints]
  rfl
theorem shaped_bools (ns : List Bool) : SeqAt.shaped (.list (ns.map PyData.bool)) = true := by
  show (PyData.canLayAll0 (ns.map PyData.bool) && decide (PyData.depthAll (ns.map PyData.bool) + 1 ≤ 64)) = true
  rw [canLay_bools, depth_bools]
  rfl
theorem eqv_ints : ∀ xs ys : List Int, PyData.eqvAll (xs.map PyData.int) (ys.map PyData.int) = decide (xs = ys)
  | [], [] => rfl
  | [], _ :: _ => rfl
  | _ :: _, [] => rfl
  | x :: xs, y :: ys => by
    show ((x == y) && PyData.eqvAll (xs.map PyData.int) (ys.map PyData.int)) = _
    rw [eqv_ints xs ys]
    by_cases h : x = y <;> by_cases h2 : xs = ys <;> simp [h, h2]
theorem eqv_bools : ∀ xs ys : List Bool, PyData.eqvAll (xs.map PyData.bool) (ys.map PyData.bool) = decide (xs = ys)
  | [], [] => rfl
  | [], _ :: _ => rfl
  | _ :: _, [] => rfl
  | x :: xs, y :: ys => by
    show ((x == y) && PyData.eqvAll (xs.map PyData.bool) (ys.map PyData.bool)) = _
    rw [eqv_bools xs ys]
    by_cases h : x = y <;> by_cases h2 : xs = ys <;> simp [h, h2]
theorem dpAll_ints {K : PySem.W.Frag} {H : Hp} : ∀ ns : List Int, DpAll K H (ns.map V.int) (ns.map PyData.int)
  | [] => .nil
  | n :: ns => .cons (.int n) (dpAll_ints ns)
theorem dpAll_bools {K : PySem.W.Frag} {H : Hp} : ∀ ns : List Bool, DpAll K H (ns.map V.bl) (ns.map PyData.bool)
  | [] => .nil
  | n :: ns => .cons (.bl n) (dpAll_bools ns)
theorem dp_ints {a : Addr} {ns : List Int} (h : SqL K H a (il ns)) : Dp K H (.ref a) (.list (ns.map PyData.int)) := .lst h (dpAll_ints ns)
theorem dp_bools {a : Addr} {ns : List Bool} (h : SqL K H a (bls ns)) : Dp K H (.ref a) (.list (ns.map PyData.bool)) := .lst h (dpAll_bools ns)
theorem ev_eqL {ms ns : List Int} (ha : EvR K ta σ H (il ms)) (hb : EvR K tb σ H (il ns)) : Ev (tOp (rEqD K) ta tb) σ H (.bl (decide (ms = ns))) := fun H1 e Q q =>
  ha H1 e _ fun p H2 e2 hp => hb H2 (e.trans e2) _ fun p2 H3 e3 hp2 => ⟨_, _, dp_ints (ex_l e3 hp), dp_ints hp2, shaped_ints _, shaped_ints _, by
    show Q (.bl (PyData.eqvAll _ _)) H3
    rw [eqv_ints]
    exact q H3 (e2.trans e3)⟩
theorem ev_neL {ms ns : List Int} (ha : EvR K ta σ H (il ms)) (hb : EvR K tb σ H (il ns)) : Ev (tOp (rNeD K) ta tb) σ H (.bl (!decide (ms = ns))) := fun H1 e Q q =>
  ha H1 e _ fun p H2 e2 hp => hb H2 (e.trans e2) _ fun p2 H3 e3 hp2 => ⟨_, _, dp_ints (ex_l e3 hp), dp_ints hp2, shaped_ints _, shaped_ints _, by
    show Q (.bl (!(PyData.eqvAll _ _))) H3
    rw [eqv_ints]
    exact q H3 (e2.trans e3)⟩
theorem ev_eqBs {ms ns : List Bool} (ha : EvR K ta σ H (bls ms)) (hb : EvR K tb σ H (bls ns)) : Ev (tOp (rEqD K) ta tb) σ H (.bl (decide (ms = ns))) := fun H1 e Q q =>
  ha H1 e _ fun p H2 e2 hp => hb H2 (e.trans e2) _ fun p2 H3 e3 hp2 => ⟨_, _, dp_bools (ex_l e3 hp), dp_bools hp2, shaped_bools _, shaped_bools _, by
    show Q (.bl (PyData.eqvAll _ _)) H3
    rw [eqv_bools]
    exact q H3 (e2.trans e3)⟩

/-! ### a < b < c; isinstance; a field -/
theorem ev_chain {b c : Bool} (ha : Ev ta σ H x) (hb : Ev tb σ H y) (h1 : RV r x y H (.bl b)) (hc : b = true → Ev tc σ H z) (h2 : b = true → RV r' y z H (.bl c)) : Ev (tChain r r' ta tb tc) σ H (.bl (b && c)) := fun H1 e Q q =>
  ha H1 e _ fun H2 e2 => hb H2 (e.trans e2) _ fun H3 e3 => h1 H3 ((e.trans e2).trans e3) _ fun H4 e4 => ⟨b, rfl, by
    have E : Ex H H4 := ((e.trans e2).trans e3).trans e4
    have E1 : Ex H1 H4 := (e2.trans e3).trans e4
    cases b with
    | true =>
      show tc σ H4 _
      exact hc rfl H4 E _ fun H5 e5 => h2 rfl H5 (E.trans e5) Q fun H6 e6 => q H6 ((E1.trans e5).trans e6)
    | false =>
      show Q (.bl false) H4
      exact q H4 E1⟩
theorem ev_isi {b : Bool} {t' : Value} {n : String} (ha : Ev ta σ H x) (hx : TyX K H x t') (hk : PySem.W.kitOne K t' (.type n) = some b) (hty : ∀ {H1 : Hp}, Ex H H1 → TyX K H1 x t') : Ev (tCB (rIsi K) (tCons ta (tCons (tC (.ty n)) tNil))) σ H (.bl b) := fun H1 e Q q =>
  ha H1 e _ fun H2 e2 => ⟨x, .ty n, t', .type n, b, rfl, .ty n, hty (e.trans e2), hk, q H2 e2⟩
theorem ev_isiInt {b : Bool} {i : Int} {n : String} (ha : Ev ta σ H (.int i)) (hk : PySem.W.kitOne K (.type "int") (.type n) = some b) : Ev (tCB (rIsi K) (tCons ta (tCons (tC (.ty n)) tNil))) σ H (.bl b) :=
  ev_isi ha (.base (.int i)) hk fun _ => .base (.int i)
theorem ev_isiBl {b : Bool} {i : Bool} {n : String} (ha : Ev ta σ H (.bl i)) (hk : PySem.W.kitOne K (.type "bool") (.type n) = some b) : Ev (tCB (rIsi K) (tCons ta (tCons (tC (.ty n)) tNil))) σ H (.bl b) :=
  ev_isi ha (.base (.bl i)) hk fun _ => .base (.bl i)
theorem ev_isiL {b : Bool} {n : String} (ha : EvR K ta σ H xs) (hk : PySem.W.kitOne K (.type "list") (.type n) = some b) : Ev (tCB (rIsi K) (tCons ta (tCons (tC (.ty n)) tNil))) σ H (.bl b) := fun H1 e Q q =>
  ha H1 e _ fun p H2 e2 hp => ⟨.ref p, .ty n, .type "list", .type n, b, rfl, .ty n, tyx_sql hp, hk, q H2 e2⟩
theorem ev_fld {C dx : Addr} {fs : List (Str × V)} {f : Str} (ha : Ev ta σ H (.ref a)) (hi : H a = some (.ins C dx fs)) (cl : Cls K C) (na : NoAttr K C f) (hl : fs.lookup f = some v) : Ev (tFld K ta f) σ H v := fun H1 e Q q =>
  ha H1 e _ fun H2 e2 => ⟨a, C, dx, fs, v, rfl, e2 a _ (e a _ hi), cl, na, hl, q H2 e2⟩

/-! ### arguments -/
/-- an argument as it is wanted: a value; a list that is read; a list that may be written -/
inductive Ag where
  | v (x : V)
  | l (xs : List V)
  | m (xs : List V)
def AgOk (K : PySem.W.Frag) (H : Hp) : Ag → V → Prop
  | .v x, y => y = x
  | .l xs, y => ∃ p, y = .ref p ∧ SqL K H p xs
  | .m xs, y => ∃ p, y = .ref p ∧ H p = some (.lst xs)
def AgsOk (K : PySem.W.Frag) (H : Hp) : List Ag → List V → Prop
  | [], vs => vs = []
  | g :: gs, vs => ∃ y ys, vs = y :: ys ∧ AgOk K H g y ∧ AgsOk K H gs ys
theorem AgOk.up {g : Ag} {y : V} (h : AgOk K H g y) (e : Ex H H') : AgOk K H' g y := by
  cases g with
  | v x => exact h
  | l xs => obtain ⟨p, h1, h2⟩ := h; exact ⟨p, h1, ex_l e h2⟩
  | m xs => obtain ⟨p, h1, h2⟩ := h; exact ⟨p, h1, e _ _ h2⟩
theorem AgsOk.up : ∀ {gs : List Ag} {vs : List V}, AgsOk K H gs vs → Ex H H' → AgsOk K H' gs vs
  | [], _, h, _ => h
  | _ :: _, _, ⟨y, ys, h1, h2, h3⟩, e => ⟨y, ys, h1, h2.up e, AgsOk.up h3 e⟩
theorem AgsOk.len : ∀ {gs : List Ag} {vs : List V}, AgsOk K H gs vs → vs.length = gs.length
  | [], _, h => by rw [show _ = [] from h]; rfl
  | _ :: _, _, ⟨y, ys, h1, h2, h3⟩ => by rw [h1, List.length_cons, List.length_cons, AgsOk.len h3]
def EvAs (K : PySem.W.Frag) (ta : TA) (σ : L2.St) (H : Hp) (gs : List Ag) : Prop := ∀ H1, Ex H H1 → ∀ Q : List V → Hp → Prop, (∀ vs H2, Ex H1 H2 → AgsOk K H2 gs vs → Q vs H2) → ta σ H1 Q
theorem eas_nil : EvAs K tNil σ H [] := fun H1 _ _ q => q [] H1 (Ex.refl H1) rfl
theorem eas_v {tr : TA} {gs : List Ag} (h : Ev te σ H x) (hr : EvAs K tr σ H gs) : EvAs K (tCons te tr) σ H (.v x :: gs) := fun H1 e Q q =>
  h H1 e _ fun H2 e2 => hr H2 (e.trans e2) _ fun vs H3 e3 ok => q (x :: vs) H3 (e2.trans e3) ⟨x, vs, rfl, rfl, ok⟩
theorem eas_l {tr : TA} {gs : List Ag} (h : EvR K te σ H xs) (hr : EvAs K tr σ H gs) : EvAs K (tCons te tr) σ H (.l xs :: gs) := fun H1 e Q q =>
  h H1 e _ fun p H2 e2 hp => hr H2 (e.trans e2) _ fun vs H3 e3 ok => q (.ref p :: vs) H3 (e2.trans e3) ⟨.ref p, vs, rfl, ⟨p, rfl, ex_l e3 hp⟩, ok⟩
theorem eas_m {tr : TA} {gs : List Ag} (h : EvM te σ H xs) (hr : EvAs K tr σ H gs) : EvAs K (tCons te tr) σ H (.m xs :: gs) := fun H1 e Q q =>
  h H1 e _ fun p H2 e2 hp => hr H2 (e.trans e2) _ fun vs H3 e3 ok => q (.ref p :: vs) H3 (e2.trans e3) ⟨.ref p, vs, rfl, ⟨p, rfl, e3 p _ hp⟩, ok⟩

/-! ### promises: a value back, a new list back -/
/-- α what the promise is about; args its arguments; pre what must hold; res what comes back -/
def spV (K : PySem.W.Frag) {α : Type} (args : α → List Ag) (pre : α → Prop) (res : α → V) : Sp := fun vs H Q _ => ∃ a, AgsOk K H (args a) vs ∧ pre a ∧ RetV (res a) H Q
def spL (K : PySem.W.Frag) {α : Type} (args : α → List Ag) (pre : α → Prop) (res : α → List V) : Sp := fun vs H Q _ => ∃ a, AgsOk K H (args a) vs ∧ pre a ∧ RetL (res a) H Q
theorem ev_callV {α : Type} {args : α → List Ag} {pre : α → Prop} {res : α → V} {E : XK} {ta : TA} (a : α) (h : EvAs K ta σ H (args a)) (hp : pre a) : Ev (tCall (spV K args pre res) [] E ta) σ H (res a) := fun H1 e Q q =>
  h H1 e _ fun vs H2 e2 ok => ⟨a, by rw [List.append_nil]; exact ok, hp, fun H3 e3 => q H3 (e2.trans e3)⟩
theorem el_callL {α : Type} {args : α → List Ag} {pre : α → Prop} {res : α → List V} {E : XK} {ta : TA} (a : α) (h : EvAs K ta σ H (args a)) (hp : pre a) : EvL (tCall (spL K args pre res) [] E ta) σ H (res a) := fun H1 e Q q =>
  h H1 e _ fun vs H2 e2 ok => ⟨a, by rw [List.append_nil]; exact ok, hp, fun p H3 hn e3 h3 => q p H3 (fresh_back e2 hn) (e2.trans e3) h3⟩

/-! ### comprehensions -/
theorem given_all (n : Nat) (v : Nat → V) : given n (fun _ => true) v = (List.range n).map v := by
  unfold given
  rw [List.filter_eq_self.mpr (fun _ _ => rfl)]
/-- over a list of numbers -/
theorem el_lcI {ns : List Int} {j : Nat} {vs : List Nat} (f : Int → V) (h : EvR K tl σ H (il ns)) (hz : ns.length ≤ 40000) (hw : ∀ x, wipe ((wipe σ vs).set j (some x)) vs = wipe σ vs)
    (he : ∀ x H1, Ex H H1 → x ∈ ns → Ev te ((wipe σ vs).set j (some (.int x))) H1 (f x)) : EvL (tLc (iList K tl) (gName j) tYes te vs) σ H (ns.map f) := fun H0 e Q q => h H0 e _ fun a H1 e1 hx => ⟨a, rfl, ⟨_, hx⟩, fun Dl hD =>
  lc_list (xs := il ns) (Cw H1 (fun _ => true) (fun i => f (g ns i)) Dl) ⟨hD, Ex.new hD, upd_same⟩ (fun i H' _ p => ex_l p.2.1 hx) (fun i x H' hi p => by
      have hi2 : i < ns.length := by
        have := (List.getElem?_eq_some_iff.mp hi).1
        rw [List.length_map] at this
        exact this
      have ex : x = .int (g ns i) := by
        rw [List.getElem?_map, g_in hi2] at hi
        exact (Option.some.inj hi).symm
      subst ex
      exact ⟨hw _, cw_turn p (by omega) (fun H2 _ Q q => q H2 (Ex.refl H2)) (fun _ => he _ H1 (e.trans e1) (g_mem hi2))⟩) (fun H' p => q Dl H' (fresh_back e1 p.1) (e1.trans p.2.1) (by
      have := p.2.2
      rw [given_all, List.length_map] at this
      rw [this]
      congr 2
      apply List.ext_getElem?
      intro i
      rw [List.getElem?_map, List.getElem?_map]
      by_cases hi : i < ns.length
      · rw [List.getElem?_range hi, g_in hi]
        rfl
      · rw [List.getElem?_eq_none (by simp; omega), List.getElem?_eq_none (by omega)]
        rfl))⟩
/-- over enumerate of a list of numbers -/
theorem el_lcE {ns : List Int} {j l : Nat} {vs : List Nat} (f : Nat → V) (h : EvR K tl σ H (il ns)) (hz : ns.length ≤ 40000) (hw : ∀ x y, wipe (((wipe σ vs).set j (some x)).set l (some y)) vs = wipe σ vs)
    (he : ∀ (i : Nat) H1, Ex H H1 → i < ns.length → Ev te (((wipe σ vs).set j (some (.int i))).set l (some (.int (g ns i)))) H1 (f i)) :
    EvL (tLc (iEnum K (tCons tl tNil)) (gTup K 2 (gCons (gName j) (gCons (gName l) gNil))) tYes te vs) σ H ((List.range ns.length).map f) := fun H0 e Q q => h H0 e _ fun a H1 e1 hx => ⟨a, _, rfl, hx, fun Dl hD =>
  lc_it (walk_enum (xs := il ns)) (Cw H1 (fun _ => true) f Dl) ⟨hD, Ex.new hD, upd_same⟩ (fun i H' _ p => ex_l p.2.1 hx) (fun i x H2 H' hi p y => by
      rw [List.length_map] at hi
      obtain ⟨T, x1, x2, rfl, hT, rfl, e3, e4⟩ := y
      have ex1 : x1 = .int (i : Int) := (Option.some.inj e3).symm
      have ex2 : x2 = .int (g ns i) := by
        have e4 : (ns.map V.int)[i]? = some x2 := e4
        rw [List.getElem?_map, g_in hi] at e4
        exact (Option.some.inj e4).symm
      subst ex1 ex2
      refine ⟨T, _, rfl, st_of upd_same, rfl, _, _, rfl, _, _, rfl, rfl, hw _ _, ?_⟩
      have hDT : Dl ≠ T := ne_of_none p.2.2 hT
      have p' : Cw H1 (fun _ => true) f Dl i (upd H2 T (.tup [.int (i : Int), .int (g ns i)])) := ⟨p.1, p.2.1.trans (Ex.new hT), by rw [upd_ne hDT]; exact p.2.2⟩
      exact cw_turn p' (by omega) (fun H2 _ Q q => q H2 (Ex.refl H2)) (fun _ => he i H1 (e.trans e1) hi)) (fun H' p => q Dl H' (fresh_back e1 p.1) (e1.trans p.2.1) (by
      have := p.2.2
      rw [given_all, List.length_map] at this
      exact this))⟩
/-- over range(n) -/
theorem el_lcN {ta' : TA} {j : Nat} {vs : List Nat} {n : Int} (v : Nat → V) (h : EvA ta' σ H [.int n]) (hn : -40000 ≤ n ∧ n ≤ 40000) (hw : ∀ x, wipe ((wipe σ vs).set j (some x)) vs = wipe σ vs)
    (he : ∀ (i : Nat) H1, Ex H H1 → (i : Int) < n → Ev te ((wipe σ vs).set j (some (.int (i : Int)))) H1 (v i)) : EvL (tLc (iRng1 ta') (gName j) tYes te vs) σ H ((List.range n.toNat).map v) := fun H0 e Q q => h H0 e _ fun H1 e1 => ⟨n, rfl, by omega, by omega, fun Dl hD =>
  lc_range (lo := 0) (n := n.toNat) (Cw H1 (fun _ => true) v Dl) ⟨hD, Ex.new hD, upd_same⟩ (fun i H' hi p => by
    have e0 : (0 : Int) + (i : Int) = (i : Int) := Int.zero_add _
    rw [e0]
    exact ⟨hw _, cw_turn p (by omega) (fun H2 _ Q q => q H2 (Ex.refl H2)) (fun _ => he i H1 (e.trans e1) (by omega))⟩) (fun H' p => q Dl H' (fresh_back e1 p.1) (e1.trans p.2.1) (by rw [p.2.2, given_all]))⟩
/-- over range(lo, hi), an if -/
theorem el_lcR {ta' : TA} {j : Nat} {vs : List Nat} {lo hi : Int} (f : Nat → Bool) (v : Nat → V) (h : EvA ta' σ H [.int lo, .int hi]) (hn : -40000 ≤ lo ∧ lo ≤ 40000 ∧ -40000 ≤ hi ∧ hi ≤ 40000) (hz : (hi - lo).toNat ≤ 40000) (hw : ∀ x, wipe ((wipe σ vs).set j (some x)) vs = wipe σ vs)
    (ht : ∀ (i : Nat) H1, Ex H H1 → lo + (i : Int) < hi → EvT t ((wipe σ vs).set j (some (.int (lo + i)))) H1 (f i))
    (he : ∀ (i : Nat) H1, Ex H H1 → lo + (i : Int) < hi → f i = true → Ev te ((wipe σ vs).set j (some (.int (lo + (i : Int))))) H1 (v i)) : EvL (tLc (iRng2 ta') (gName j) t te vs) σ H (given (hi - lo).toNat f v) := fun H0 e Q q => h H0 e _ fun H1 e1 => ⟨lo, hi, rfl, ⟨by omega, by omega, by omega, by omega⟩, fun Dl hD =>
  lc_range (lo := lo) (n := (hi - lo).toNat) (Cw H1 f v Dl) ⟨hD, Ex.new hD, upd_same⟩ (fun i H' hi p => 
    ⟨hw _, cw_turn p (by omega) (ht i H1 (e.trans e1) (by omega)) (fun hf => he i H1 (e.trans e1) (by omega) hf)⟩) (fun H' p => q Dl H' (fresh_back e1 p.1) (e1.trans p.2.1) p.2.2)⟩
theorem et_yes : EvT tYes σ H true := fun H1 _ _ q => q H1 (Ex.refl H1)
/-- over range(lo, hi) -/
theorem el_lcRy {ta' : TA} {j : Nat} {vs : List Nat} {lo hi : Int} (v : Nat → V) (h : EvA ta' σ H [.int lo, .int hi]) (hn : -40000 ≤ lo ∧ lo ≤ 40000 ∧ -40000 ≤ hi ∧ hi ≤ 40000) (hz : (hi - lo).toNat ≤ 40000) (hw : ∀ x, wipe ((wipe σ vs).set j (some x)) vs = wipe σ vs)
    (he : ∀ (i : Nat) H1, Ex H H1 → lo + (i : Int) < hi → Ev te ((wipe σ vs).set j (some (.int (lo + (i : Int))))) H1 (v i)) : EvL (tLc (iRng2 ta') (gName j) tYes te vs) σ H ((List.range (hi - lo).toNat).map v) :=
  el_is (el_lcR (fun _ => true) v h hn hz hw (fun _ _ _ _ => et_yes) (fun i H1 e hi _ => he i H1 e hi)) (given_all _ _)
end
/-! ### the same, operand by operand -/
section
variable {K : PySem.W.Frag} {σ : L2.St} {H H' : Hp} {ta tb tc te tl : TE} {t u : TT} {x y z v : V} {xs ys : List V} {i j : Int} {a : Addr}
theorem ev_add (ha : Ev ta σ H (.int i)) (hb : Ev tb σ H (.int j)) : Ev (tOp (rI0 fun i j => .int (i + j)) ta tb) σ H (.int (i + j)) := ev_op ha hb rv_add
theorem ev_sub (ha : Ev ta σ H (.int i)) (hb : Ev tb σ H (.int j)) : Ev (tOp (rI0 fun i j => .int (i - j)) ta tb) σ H (.int (i - j)) := ev_op ha hb rv_sub
theorem ev_band (ha : Ev ta σ H (.int i)) (hb : Ev tb σ H (.int j)) : Ev (tOp (rI0 fun i j => .int (Builtin.bitAnd i j)) ta tb) σ H (.int (Builtin.bitAnd i j)) := ev_op ha hb rv_and
theorem ev_mul (ha : Ev ta σ H (.int i)) (hb : Ev tb σ H (.int j)) (hc : (-(2 ^ 64) < i ∧ i < 2 ^ 64) ∨ (-(2 ^ 64) < j ∧ j < 2 ^ 64)) : Ev (tOp (rI CMul fun i j => .int (i * j)) ta tb) σ H (.int (i * j)) := ev_op ha hb (rv_I (C := CMul) hc)
theorem ev_mod (ha : Ev ta σ H (.int i)) (hb : Ev tb σ H (.int j)) (hc : 0 < j) : Ev (tOp (rI (fun _ j => 0 < j) fun i j => .int (i % j)) ta tb) σ H (.int (i % j)) := ev_op ha hb (rv_mod hc)
theorem ev_div (ha : Ev ta σ H (.int i)) (hb : Ev tb σ H (.int j)) (hc : 0 < j ∧ j < 1073741824) : Ev (tOp (rI CDiv fun i j => .int (i / j)) ta tb) σ H (.int (i / j)) := ev_op ha hb (rv_div hc)
theorem ev_shr (ha : Ev ta σ H (.int i)) (hb : Ev tb σ H (.int j)) (hc : 0 ≤ j) : Ev (tOp (rI (fun _ j => 0 ≤ j) fun i j => .int (i / 2 ^ j.toNat)) ta tb) σ H (.int (i / 2 ^ j.toNat)) := ev_op ha hb (rv_shr hc)
theorem ev_pow (ha : Ev ta σ H (.int i)) (hb : Ev tb σ H (.int j)) (hc : 0 ≤ j ∧ j ≤ 1000000 ∧ i.natAbs < 2 ^ 64) : Ev (tOp (rI CPow fun i j => .int (i ^ j.toNat)) ta tb) σ H (.int (i ^ j.toNat)) := ev_op ha hb (rv_pow hc)
theorem ev_lt (ha : Ev ta σ H (.int i)) (hb : Ev tb σ H (.int j)) : Ev (tOp (rI0 fun i j => .bl (decide (i < j))) ta tb) σ H (.bl (decide (i < j))) := ev_op ha hb rv_lt
theorem ev_le (ha : Ev ta σ H (.int i)) (hb : Ev tb σ H (.int j)) : Ev (tOp (rI0 fun i j => .bl (decide (i ≤ j))) ta tb) σ H (.bl (decide (i ≤ j))) := ev_op ha hb rv_le
theorem ev_gt (ha : Ev ta σ H (.int i)) (hb : Ev tb σ H (.int j)) : Ev (tOp (rI0 fun i j => .bl (decide (j < i))) ta tb) σ H (.bl (decide (j < i))) := ev_op ha hb rv_gt
theorem ev_ge (ha : Ev ta σ H (.int i)) (hb : Ev tb σ H (.int j)) : Ev (tOp (rI0 fun i j => .bl (decide (j ≤ i))) ta tb) σ H (.bl (decide (j ≤ i))) := ev_op ha hb rv_ge
theorem ev_neg (ha : Ev ta σ H (.int i)) : Ev (tUn (rU fun i => .int (-i)) ta) σ H (.int (-i)) := ev_un ha ru_neg
theorem ev_abs (ha : Ev ta σ H (.int i)) : Ev (tCB (fun xs H Q => ∃ i, xs = [V.int i] ∧ Q (.int (if i < 0 then -i else i)) H) (tCons ta tNil)) σ H (.int (if i < 0 then -i else i)) := fun H1 e Q q => ha H1 e _ fun H2 e2 => ⟨i, rfl, q H2 e2⟩
/-- == of what is alike or not: two numbers, two truths, two texts -/
inductive Sc : V → V → Bool → Prop where
  | int (i j : Int) : Sc (.int i) (.int j) (decide (i = j))
  | bl (i j : Bool) : Sc (.bl i) (.bl j) (decide (i = j))
  | str (i j : Str) : Sc (.str i) (.str j) (decide (i = j))
theorem ev_eq {b : Bool} (ha : Ev ta σ H x) (hb : Ev tb σ H y) (s : Sc x y b) : Ev (tOp rEq ta tb) σ H (.bl b) := by
  cases s with
  | int i j => exact ev_op ha hb rv_eqI
  | bl i j => exact ev_op ha hb rv_eqB
  | str i j => exact ev_op ha hb rv_eqS
theorem ev_ne {b : Bool} (ha : Ev ta σ H x) (hb : Ev tb σ H y) (s : Sc x y b) : Ev (tOp rNe ta tb) σ H (.bl (!b)) := by
  cases s with
  | int i j => exact ev_op ha hb rv_neI
  | bl i j => exact ev_op ha hb rv_neB
  | str i j => exact ev_op ha hb rv_neS
theorem ev_isB {b c : Bool} (ha : Ev ta σ H (.bl b)) (hb : Ev tb σ H (.bl c)) : Ev (tOp rIsB ta tb) σ H (.bl (decide (b = c))) := ev_op ha hb rv_isB
theorem ev_notB {b c : Bool} (ha : Ev ta σ H (.bl b)) (hb : Ev tb σ H (.bl c)) : Ev (tOp rNotB ta tb) σ H (.bl (!decide (b = c))) := ev_op ha hb rv_notB
theorem er_var {n : Nat} (h : σ[n]? = some (some (.ref a))) (hx : SqL K H a xs) : EvR K (tVar n) σ H xs := er_v (ev_var h) hx
theorem em_var {n : Nat} (h : σ[n]? = some (some (.ref a))) (hx : H a = some (.lst xs)) : EvM (tVar n) σ H xs := em_v (ev_var h) hx
theorem ev_ixTvar {n : Nat} (h : σ[n]? = some (some (.ref a))) (ht : SqT K H a xs) (hi : Ev tb σ H (.int i)) (hv : atI xs i = some v) : Ev (tOp (rIxT K) (tVar n) tb) σ H v := ev_ixTv (ev_var h) ht hi hv
end

/-! ### comprehensions of numbers, of truths -/
section
variable {K : PySem.W.Frag} {σ : L2.St} {H H' : Hp} {ta tb tc te tl : TE} {t u : TT} {ns : List Int} {j l : Nat} {vs : List Nat}
theorem el_lcIi (f : Int → Int) (h : EvR K tl σ H (il ns)) (hz : ns.length ≤ 40000) (hw : ∀ x, wipe ((wipe σ vs).set j (some x)) vs = wipe σ vs)
    (he : ∀ x H1, Ex H H1 → x ∈ ns → Ev te ((wipe σ vs).set j (some (.int x))) H1 (.int (f x))) : EvL (tLc (iList K tl) (gName j) tYes te vs) σ H (il (ns.map f)) :=
  el_is (el_lcI (fun x => .int (f x)) h hz hw he) (by unfold il; rw [List.map_map]; rfl)
theorem el_lcIb (f : Int → Bool) (h : EvR K tl σ H (il ns)) (hz : ns.length ≤ 40000) (hw : ∀ x, wipe ((wipe σ vs).set j (some x)) vs = wipe σ vs)
    (he : ∀ x H1, Ex H H1 → x ∈ ns → Ev te ((wipe σ vs).set j (some (.int x))) H1 (.bl (f x))) : EvL (tLc (iList K tl) (gName j) tYes te vs) σ H (bls (ns.map f)) :=
  el_is (el_lcI (fun x => .bl (f x)) h hz hw he) (by unfold bls; rw [List.map_map]; rfl)
theorem el_lcEi (f : Nat → Int) (h : EvR K tl σ H (il ns)) (hz : ns.length ≤ 40000) (hw : ∀ x y, wipe (((wipe σ vs).set j (some x)).set l (some y)) vs = wipe σ vs)
    (he : ∀ (i : Nat) H1, Ex H H1 → i < ns.length → Ev te (((wipe σ vs).set j (some (.int i))).set l (some (.int (g ns i)))) H1 (.int (f i))) :
    EvL (tLc (iEnum K (tCons tl tNil)) (gTup K 2 (gCons (gName j) (gCons (gName l) gNil))) tYes te vs) σ H (il ((List.range ns.length).map f)) :=
  el_is (el_lcE (fun i => .int (f i)) h hz hw he) (by unfold il; rw [List.map_map]; rfl)
theorem el_lcNi {ta' : TA} {n : Int} (f : Nat → Int) (h : EvA ta' σ H [.int n]) (hn : -40000 ≤ n ∧ n ≤ 40000) (hw : ∀ x, wipe ((wipe σ vs).set j (some x)) vs = wipe σ vs)
    (he : ∀ (i : Nat) H1, Ex H H1 → (i : Int) < n → Ev te ((wipe σ vs).set j (some (.int (i : Int)))) H1 (.int (f i))) : EvL (tLc (iRng1 ta') (gName j) tYes te vs) σ H (il ((List.range n.toNat).map f)) :=
  el_is (el_lcN (fun i => .int (f i)) h hn hw he) (by unfold il; rw [List.map_map]; rfl)
theorem el_lcRb {ta' : TA} {lo hi : Int} (f : Nat → Bool) (h : EvA ta' σ H [.int lo, .int hi]) (hn : -40000 ≤ lo ∧ lo ≤ 40000 ∧ -40000 ≤ hi ∧ hi ≤ 40000) (hz : (hi - lo).toNat ≤ 40000) (hw : ∀ x, wipe ((wipe σ vs).set j (some x)) vs = wipe σ vs)
    (he : ∀ (i : Nat) H1, Ex H H1 → lo + (i : Int) < hi → Ev te ((wipe σ vs).set j (some (.int (lo + (i : Int))))) H1 (.bl (f i))) : EvL (tLc (iRng2 ta') (gName j) tYes te vs) σ H (bls ((List.range (hi - lo).toNat).map f)) :=
  el_is (el_lcRy (fun i => .bl (f i)) h hn hz hw he) (by unfold bls; rw [List.map_map]; rfl)
theorem el_lcRbt {ta' : TA} {lo hi : Int} (ft : Nat → Bool) (f : Nat → Bool) (h : EvA ta' σ H [.int lo, .int hi]) (hn : -40000 ≤ lo ∧ lo ≤ 40000 ∧ -40000 ≤ hi ∧ hi ≤ 40000) (hz : (hi - lo).toNat ≤ 40000) (hw : ∀ x, wipe ((wipe σ vs).set j (some x)) vs = wipe σ vs)
    (ht : ∀ (i : Nat) H1, Ex H H1 → lo + (i : Int) < hi → EvT t ((wipe σ vs).set j (some (.int (lo + i)))) H1 (ft i))
    (he : ∀ (i : Nat) H1, Ex H H1 → lo + (i : Int) < hi → ft i = true → Ev te ((wipe σ vs).set j (some (.int (lo + (i : Int))))) H1 (.bl (f i))) : EvL (tLc (iRng2 ta') (gName j) t te vs) σ H (bls (((List.range (hi - lo).toNat).filter ft).map f)) :=
  el_is (el_lcR ft (fun i => .bl (f i)) h hn hz hw ht he) (by unfold given bls; rw [List.map_map]; rfl)
theorem ev_isiV {x : V} {b : Bool} {t' : Value} {n : String} (ha : Ev ta σ H x) (hty : ∀ {H1 : Hp}, Ex H H1 → TyX K H1 x t') (hk : PySem.W.kitOne K t' (.type n) = some b) : Ev (tCB (rIsi K) (tCons ta (tCons (tC (.ty n)) tNil))) σ H (.bl b) :=
  ev_isi ha (hty (Ex.refl H)) hk hty
/-- an own class's instance and an own class -/
theorem ev_isiO {a C dx C2 : Addr} {fs : List (Str × V)} {b : Bool} (ha : Ev ta σ H (.ref a)) (hi : H a = some (.ins C dx fs)) (cl : Cls K C) (h1 : PySem.W.findIn K (.ref C) "__class__" = some (some (.builtin "object.__class__")))
    (h2 : PySem.W.specialIn K (.builtin "object.__class__") "__get__" = some (some (.builtin "getset_descriptor.__get__"))) (h3 : PySem.W.takesIn K (.builtin "object.__class__") = some true) (h4 : PySem.W.mroIn K C (.type "object") = some true)
    (hk : PySem.W.kitOne K (.ref C) (.ref C2) = some b) : Ev (tCB (rIsi K) (tCons ta (tCons (tC (.ref C2)) tNil))) σ H (.bl b) := fun H1 e Q q =>
  ha H1 e _ fun H2 e2 => ⟨.ref a, .ref C2, .ref C, .ref C2, b, rfl, .own C2, .base (.ins (e2 a _ (e a _ hi)) cl h1 h2 h3 h4), hk, q H2 e2⟩
end
end RK
/-! RrTerm: the layer's terms with the written part K told, so that a reading bears K itself. -/
namespace RK
open PySem L2 Evl RR PyProof.Rows
section
variable {X : Cx} {e a b elt tg iter : Expr} {es ifs : List Expr} {ta tb te tl : TE} {tr : TA} {t u : TS} {pos cpos apos p1 p2 pos' : Pos} {x f : Str} {k : Nat}
theorem x_len (K : PySem.W.Frag) (hK : X.K = K) (hm : X.mg "len" = none) (hg : Gl X "len") (ha : PA X [e] tr)
    (he : starEach [e] X.env = (false, eval e X.env) :: starEach [] X.env := by rfl) (hpl : (backTo pos (starEach [] X.env)).any (·.1) = false := by rfl) : PE X (.Call (.Name "len" p1) [e] [] pos) (tCB (rLenS K) tr) := by
  subst hK; exact pe_callB (r := rLenS X.K) call_len_seq hg hm PySem.boot_len ha (he := he) (hpl := hpl)
theorem x_sum (K : PySem.W.Frag) (hK : X.K = K) (hc : X.calm = true) (hm : X.mg "sum" = none) (hg : Gl X "sum") (ha : PA X [e] tr)
    (he : starEach [e] X.env = (false, eval e X.env) :: starEach [] X.env := by rfl) (hpl : (backTo pos (starEach [] X.env)).any (·.1) = false := by rfl) : PE X (.Call (.Name "sum" p1) [e] [] pos) (tCB (rSum K) tr) := by
  subst hK; exact pe_callB (cr_sum hc) hg hm PyProof.Rows.boot_sum ha (he := he) (hpl := hpl)
theorem x_all (K : PySem.W.Frag) (hK : X.K = K) (hc : X.calm = true) (hm : X.mg "all" = none) (hg : Gl X "all") (ha : PA X [e] tr)
    (he : starEach [e] X.env = (false, eval e X.env) :: starEach [] X.env := by rfl) (hpl : (backTo pos (starEach [] X.env)).any (·.1) = false := by rfl) : PE X (.Call (.Name "all" p1) [e] [] pos) (tCB (rAll K) tr) := by
  subst hK; exact pe_callB (cr_all hc) hg hm (by decide +kernel) ha (he := he) (hpl := hpl)
theorem x_any (K : PySem.W.Frag) (hK : X.K = K) (hc : X.calm = true) (hm : X.mg "any" = none) (hg : Gl X "any") (ha : PA X [e] tr)
    (he : starEach [e] X.env = (false, eval e X.env) :: starEach [] X.env := by rfl) (hpl : (backTo pos (starEach [] X.env)).any (·.1) = false := by rfl) : PE X (.Call (.Name "any" p1) [e] [] pos) (tCB (rAny K) tr) := by
  subst hK; exact pe_callB (cr_any hc) hg hm (by decide +kernel) ha (he := he) (hpl := hpl)
theorem x_list (K : PySem.W.Frag) (hK : X.K = K) (hm : X.mg "list" = none) (hg : Gl X "list") (ha : PA X [e] tr)
    (he : starEach [e] X.env = (false, eval e X.env) :: starEach [] X.env := by rfl) (hpl : (backTo pos (starEach [] X.env)).any (·.1) = false := by rfl) : PE X (.Call (.Name "list" p1) [e] [] pos) (tCB (rListS K) tr) := by
  subst hK; exact pe_callTy (r := rListS X.K) call_list_of hg hm (by decide +kernel) ha (he := he) (hpl := hpl)
theorem x_max2 (hc : X.calm = true) (hm : X.mg "max" = none) (hg : Gl X "max") (ha : PA X [a, b] tr)
    (he : starEach [a, b] X.env = (false, eval a X.env) :: starEach [b] X.env := by rfl) (hpl : (backTo pos (starEach [b] X.env)).any (·.1) = false := by rfl) : PE X (.Call (.Name "max" p1) [a, b] [] pos) (tCB rMax2 tr) :=
  pe_callB (r := rMax2) (call_max2 hc) hg hm (by decide +kernel) ha (he := he) (hpl := hpl)
def rAbs : List V → Hp → VK → Prop := fun xs H Q => ∃ i, xs = [.int i] ∧ Q (.int (if i < 0 then -i else i)) H
theorem x_abs (hm : X.mg "abs" = none) (hg : Gl X "abs") (ha : PA X [e] tr)
    (he : starEach [e] X.env = (false, eval e X.env) :: starEach [] X.env := by rfl) (hpl : (backTo pos (starEach [] X.env)).any (·.1) = false := by rfl) : PE X (.Call (.Name "abs" p1) [e] [] pos) (tCB rAbs tr) :=
  pe_callB (r := rAbs) call_abs hg hm (by decide +kernel) ha (he := he) (hpl := hpl)
theorem x_isi (K : PySem.W.Frag) (hK : X.K = K) (hm : X.mg "isinstance" = none) (hg : Gl X "isinstance") (ha : PA X [a, b] tr)
    (he : starEach [a, b] X.env = (false, eval a X.env) :: starEach [b] X.env := by rfl) (hpl : (backTo pos (starEach [b] X.env)).any (·.1) = false := by rfl) : PE X (.Call (.Name "isinstance" p1) [a, b] [] pos) (tCB (rIsi K) tr) := by
  subst hK; exact pe_callB call_isi hg hm (by decide +kernel) ha (he := he) (hpl := hpl)
/-- a built-in class by its name -/
theorem x_ty (n : String) (hm : X.mg x = none) (hg : Gl X x) (hv : bootBuiltins x = some (.type n)) (hn : x ≠ "__name__" := by decide) (hd : (x == ("__debug__" : Str)) = false := by decide) : PE X (.Name x pos) (tC (.ty n)) := pe_bltn hg hm hv rfl hn hd
theorem x_ixL (K : PySem.W.Frag) (hK : X.K = K) (ha : PE X a ta) (hb : PE X b tb) (hs : PlainIx b) : PE X (.Subscript a b pos) (tOp (rIxL K) ta tb) := by subst hK; exact pe_ix ix_list ha hb hs
theorem x_ixT (K : PySem.W.Frag) (hK : X.K = K) (ha : PE X a ta) (hb : PE X b tb) (hs : PlainIx b) : PE X (.Subscript a b pos) (tOp (rIxT K) ta tb) := by subst hK; exact pe_ix ix_tup ha hb hs
theorem x_sl {lo hi : Option Expr} {t1 t2 : TO} (K : PySem.W.Frag) (hK : X.K = K) (ha : PE X a ta) (hl : PO X lo t1) (hu : PO X hi t2) : PE X (.Subscript a (.Slice lo hi none p2) pos) (tSl (rSlL K) ta t1 t2) := by subst hK; exact pe_slice sl_list ha hl hu
theorem x_rev {p3 : Pos} (K : PySem.W.Frag) (hK : X.K = K) (he : PE X e te) : PE X (.Subscript e (.Slice none none (some (.UnaryOp .USub (.Constant (.int 1) k p1) p2)) p3) pos) (tRevL K te) := by subst hK; exact pe_revL he
theorem x_eqD (K : PySem.W.Frag) (hK : X.K = K) (hu : X.A.units + 64 < cLine) (ha : PE X a ta) (hb : PE X b tb) : PE X (.Compare a [.Eq] [b] pos) (tOp (rEqD K) ta tb) := by subst hK; exact pe_cmpR (op_eqD hu) ha hb (nomark _)
theorem x_neD (K : PySem.W.Frag) (hK : X.K = K) (hu : X.A.units + 64 < cLine) (ha : PE X a ta) (hb : PE X b tb) : PE X (.Compare a [.NotEq] [b] pos) (tOp (rNeD K) ta tb) := by subst hK; exact pe_cmpR (op_neD hu) ha hb (nomark _)
theorem x_eqDt (K : PySem.W.Frag) (hK : X.K = K) (hu : X.A.units + 64 < cLine) (ha : PE X a ta) (hb : PE X b tb) : PT X (.Compare a [.Eq] [b] pos) (tTest (tOp (rEqD K) ta tb)) := by subst hK; exact pt_cmpR (op_eqD hu) ha hb (nomark _)
theorem x_neDt (K : PySem.W.Frag) (hK : X.K = K) (hu : X.A.units + 64 < cLine) (ha : PE X a ta) (hb : PE X b tb) : PT X (.Compare a [.NotEq] [b] pos) (tTest (tOp (rNeD K) ta tb)) := by subst hK; exact pt_cmpR (op_neD hu) ha hb (nomark _)
theorem x_fld (K : PySem.W.Frag) (hK : X.K = K) (he : PE X e ta) (hb : attributeBase e f X.env (eval e X.env) = eval e X.env) : PE X (.Attribute e f pos) (tFld K ta f) := by subst hK; exact pe_fld he hb
theorem x_sfld {value o : Expr} {tv : TE} (K : PySem.W.Frag) (hK : X.K = K) (ha : PE X o ta) (hv : PE X value tv) (hs : swapsWith value (some (.Attribute o f pos')) pos.line X.env = pure false) : PS X (.Assign [.Attribute o f pos'] value pos) (sFld K ta tv f) := by subst hK; exact ps_fld ha hv hs
theorem xi_list (K : PySem.W.Frag) (hK : X.K = K) (hl : PE X e te) : PI X tg e (iList K te) := by subst hK; exact pi_list hl
theorem xi_tup (K : PySem.W.Frag) (hK : X.K = K) (hl : PE X e te) : PI X tg e (iTup K te) := by subst hK; exact pi_tup hl
theorem xi_enum {elts : List Expr} {kk : Nat} {tpos : Pos} (K : PySem.W.Frag) (hK : X.K = K) (hm : X.mg "enumerate" = none) (hg : Gl X "enumerate") (ha : PA X [e] tr) (hs : starEach [e] X.env = [(false, eval e X.env)] := by rfl) :
    PI X (.Tuple elts kk tpos) (.Call (.Name "enumerate" p1) [e] [] pos) (iEnum K tr) := by subst hK; exact pi_enum hg hm ha hs
theorem xg_tup {g : TGs} (K : PySem.W.Frag) (hK : X.K = K) (n : Nat) (hc : X.calm = true) (h : PGs X es g)
    (hn : (assignEach es X.env).length = n := by rfl) (hst : (assignEach es X.env).findIdx? (·.1) = none := by rfl) : PG X (.Tuple es k pos) (gTup K n g) := by subst hK; exact pg_tup hc h hn hst
/-- a method of a list that changes it -/
theorem x_append {o : Expr} {to : TE} (K : PySem.W.Frag) (hK : X.K = K) (ho : PE X o to) (ha : PA X [e] tr)
    (hbase : attributeBase o "append" X.env (eval o X.env) = eval o X.env := by rfl)
    (hfew : ((backTo cpos (starEach (e :: []) X.env)).all (fun x => !x.1) && (backToKw cpos (keywordEach [] X.env)).all (fun x => x.1.isSome)
      && decide ((e :: ([] : List Expr)).length + ([] : List Keyword).length + (if ([] : List Keyword).isEmpty then 0 else 1) < 30)) = true := by rfl)
    (hline : (apos.endLine == cpos.line) = true := by rfl) (hs : starEach (e :: []) X.env = (false, eval e X.env) :: starEach [] X.env := by rfl) (hplain : (backTo cpos (starEach [] X.env)).any (·.1) = false := by rfl) :
    PE X (.Call (.Attribute o "append" apos) [e] [] cpos) (tBM K "list" rAppend to tr) := by
  subst hK; exact pe_bm PySem.F.plainAttrs_list PySem.F.slot_list_append PySem.F.type_list_append mt_append ho ha hbase hfew hline hs hplain
end
end RK
/-! RrKit2: slices, loops over enumerate, several targets, new instances, stores. -/
namespace RK
open PySem L2 Evl RR

/-! ### slices as they come -/
theorem cut_from {xs : List V} {k : Nat} : cutV xs (some (k : Int)) none = xs.drop k := by
  unfold cutV
  rw [HT.sIx_nat, HT.sIx_none]
  by_cases h : k ≤ xs.length
  · rw [show min k xs.length = k by omega]
    exact List.take_of_length_le (by simp)
  · rw [show min k xs.length = xs.length by omega]
    rw [List.drop_eq_nil_of_le (Nat.le_refl _), List.drop_eq_nil_of_le (by omega)]
    exact List.take_nil
theorem cut_to {xs : List V} {k : Nat} : cutV xs none (some (k : Int)) = xs.take k := by
  unfold cutV
  rw [HT.sIx_nat, HT.sIx_none]
  show List.take (min k xs.length - 0) (xs.drop 0) = _
  rw [List.drop_zero, Nat.sub_zero]
  by_cases h : k ≤ xs.length
  · rw [show min k xs.length = k by omega]
  · rw [show min k xs.length = xs.length by omega, List.take_length, List.take_of_length_le (by omega)]
theorem cut_fromI {xs : List V} {i : Int} (h : 0 ≤ i) : cutV xs (some i) none = xs.drop i.toNat := by
  rw [show i = ((i.toNat : Nat) : Int) by omega]; exact cut_from
theorem cut_toI {xs : List V} {i : Int} (h : 0 ≤ i) : cutV xs none (some i) = xs.take i.toNat := by
  rw [show i = ((i.toNat : Nat) : Int) by omega]; exact cut_to
theorem cut_but {xs : List V} : cutV xs none (some (-1)) = xs.dropLast := by
  unfold cutV
  rw [show HT.sIx xs.length xs.length (some (-1)) = xs.length - 1 by
    show (if (-1 : Int) < 0 then ((-1 : Int) + (xs.length : Int)).toNat else min (-1 : Int).toNat xs.length) = _
    rw [if_pos (by decide)]; omega, HT.sIx_none]
  show List.take (xs.length - 1 - 0) (xs.drop 0) = _
  rw [List.drop_zero, Nat.sub_zero, List.dropLast_eq_take]
theorem il_take (xs : List Int) (k : Nat) : (il xs).take k = il (xs.take k) := (List.map_take ..).symm
theorem il_drop (xs : List Int) (k : Nat) : (il xs).drop k = il (xs.drop k) := (List.map_drop ..).symm
theorem il_dropLast (xs : List Int) : (il xs).dropLast = il xs.dropLast := (List.map_dropLast ..).symm
theorem il_reverse (xs : List Int) : (il xs).reverse = il xs.reverse := List.map_reverse.symm
theorem il_append (xs ys : List Int) : il xs ++ il ys = il (xs ++ ys) := List.map_append.symm
theorem il_set (xs : List Int) (i : Nat) (v : Int) : (il xs).set i (.int v) = il (xs.set i v) := (List.map_set ..).symm
theorem il_len (xs : List Int) : (il xs).length = xs.length := List.length_map ..
theorem il_rep (n : Nat) (v : Int) : List.replicate n (V.int v) = il (List.replicate n v) := (List.map_replicate ..).symm
section
variable {K : PySem.W.Frag} {σ : L2.St} {H H' : Hp} {ta tb tc te tl : TE} {t u : TT} {x y z v : V} {xs ys : List V} {ns : List Int} {i j : Int} {a : Addr} {D : Ends} {tu tw tz : TS} {g' : TG}
theorem el_slFrom {t1 : TO} (h : EvR K te σ H (il ns)) (h1 : EvO t1 σ H (some i)) (hi : 0 ≤ i) : EvL (tSl (rSlL K) te t1 tNoPart) σ H (il (ns.drop i.toNat)) :=
  el_is (el_slR h h1 eo_none) (by rw [cut_fromI hi, il_drop])
theorem el_slTo {t1 : TO} (h : EvR K te σ H (il ns)) (h1 : EvO t1 σ H (some i)) (hi : 0 ≤ i) : EvL (tSl (rSlL K) te tNoPart t1) σ H (il (ns.take i.toNat)) :=
  el_is (el_slR h eo_none h1) (by rw [cut_toI hi, il_take])
theorem el_slBut {t1 : TO} (h : EvR K te σ H (il ns)) (h1 : EvO t1 σ H (some (-1))) : EvL (tSl (rSlL K) te tNoPart t1) σ H (il ns.dropLast) :=
  el_is (el_slR h eo_none h1) (by rw [cut_but, il_dropLast])
theorem el_revI (h : EvR K te σ H (il ns)) : EvL (tRevL K te) σ H (il ns.reverse) := el_is (el_revR h) (il_reverse ns)
theorem el_catI {ms : List Int} (ha : EvM ta σ H (il ms)) (hb : EvM tb σ H (il ns)) (hz : ms.length + ns.length ≤ 100000) : EvL (tOp rCat ta tb) σ H (il (ms ++ ns)) :=
  el_is (el_cat ha hb (by rw [il_len, il_len]; exact hz)) (il_append ms ns)
theorem ev_lenI (h : EvR K te σ H (il ns)) : Ev (tCB (rLenS K) (tCons te tNil)) σ H (.int (ns.length : Int)) := by
  have := ev_lenR h
  rw [il_len] at this
  exact this
theorem el_one {n : Int} (h : Ev te σ H (.int n)) : EvL (tLst (tCons te tNil)) σ H (il [n]) := el_lst (ea_cons h ea_nil) (by simp)
theorem el_repI {k n : Int} (h : Ev te σ H (.int n)) (hk : Ev tb σ H (.int k)) (hz : -100000 ≤ k ∧ k ≤ 100000) : EvL (tOp rRep (tLst (tCons te tNil)) tb) σ H (il (List.replicate k.toNat n)) :=
  el_is (el_rep (em_of_l (el_lst (ea_cons h ea_nil) (by simp))) hk hz) (il_rep _ _)
theorem el_nilI : EvL (tLst tNil) σ H (il []) := el_nil
theorem el_listI (h : EvR K te σ H (il ns)) : EvL (tCB (rListS K) (tCons te tNil)) σ H (il ns) := el_listR h

/-! ### for over enumerate -/
theorem s_forE {k l : Nat} (h : Ev tl σ H (.ref a)) (hx : SqL K H a (il ns)) (Pv : Nat → L2.St → Hp → Prop) (h0 : ∀ H1, Ex H H1 → Pv 0 σ H1) (hl : ∀ i σ' H', i ≤ ns.length → Pv i σ' H' → SqL K H' a (il ns))
    (hs : ∀ (i : Nat) σ' H' H'', i < ns.length → Pv i σ' H' → Ex H' H'' → tu { D with nx := Pv (i + 1), ct := Pv (i + 1), bk := D.nx } ((σ'.set k (some (.int i))).set l (some (.int (g ns i)))) H'') (hd : ∀ σ' H', Pv ns.length σ' H' → D.nx σ' H') :
    tFor (iEnum K (tCons tl tNil)) (gTup K 2 (gCons (gName k) (gCons (gName l) gNil))) tu D σ H :=
  h H (Ex.refl H) _ fun H1 e => ⟨a, _, rfl, ex_l e hx, for_it (walk_enum (xs := il ns)) Pv (h0 H1 e) (fun i σ' H' hi p => hl i σ' H' (by rw [il_len] at hi; exact hi) p) (fun i y σ' H2 H3 hi p yy => by
    rw [il_len] at hi
    obtain ⟨T, x1, x2, rfl, hT, rfl, e3, e4⟩ := yy
    have ex1 : x1 = .int (i : Int) := (Option.some.inj e3).symm
    have ex2 : x2 = .int (g ns i) := by
      have e4 : (ns.map V.int)[i]? = some x2 := e4
      rw [List.getElem?_map, g_in hi] at e4
      exact (Option.some.inj e4).symm
    subst ex1 ex2
    exact ⟨T, _, rfl, st_of upd_same, rfl, _, _, rfl, _, _, rfl, rfl, hs i σ' H2 _ hi p (Ex.new hT)⟩) (by rw [il_len]; exact hd)⟩
theorem q_forE {k l : Nat} (h : Ev tl σ H (.ref a)) (hx : SqL K H a (il ns)) (Pv : Nat → L2.St → Hp → Prop) (h0 : ∀ H1, Ex H H1 → Pv 0 σ H1) (hl : ∀ i σ' H', i ≤ ns.length → Pv i σ' H' → SqL K H' a (il ns))
    (hs : ∀ (i : Nat) σ' H' H'', i < ns.length → Pv i σ' H' → Ex H' H'' → tu { D with nx := Pv (i + 1), ct := Pv (i + 1), bk := tz D } ((σ'.set k (some (.int i))).set l (some (.int (g ns i)))) H'') (hd : ∀ σ' H', Pv ns.length σ' H' → tz D σ' H') :
    tSeq (tFor (iEnum K (tCons tl tNil)) (gTup K 2 (gCons (gName k) (gCons (gName l) gNil))) tu) tz D σ H := s_forE (D := { D with nx := tz D }) h hx Pv h0 hl hs hd

/-! ### several targets -/
theorem q_parUU {k l : Nat} (h1 : EvU ta σ H xs) (h2 : EvU tb σ H ys) (q : ∀ p p' H1, Ex H H1 → H1 p = some (.tup xs) → H1 p' = some (.tup ys) → tz D ((σ.set k (some (.ref p))).set l (some (.ref p'))) H1) :
    tSeq (tPar k l (tCons ta (tCons tb tNil))) tz D σ H :=
  h1 H (Ex.refl H) _ fun p H1 hn e1 hp => h2 H1 e1 _ fun p' H2 hn2 e2 hp2 => ⟨_, _, rfl, q p p' H2 (e1.trans e2) (e2 _ _ hp) hp2⟩
theorem s_parVU {k l : Nat} (h1 : Ev ta σ H x) (h2 : EvU tb σ H ys) (q : ∀ p' H1, Ex H H1 → H1 p' = some (.tup ys) → D.nx ((σ.set k (some x)).set l (some (.ref p'))) H1) :
    tPar k l (tCons ta (tCons tb tNil)) D σ H :=
  h1 H (Ex.refl H) _ fun H1 e1 => h2 H1 e1 _ fun p' H2 hn2 e2 hp2 => ⟨_, _, rfl, q p' H2 (e1.trans e2) hp2⟩
theorem q_parVV {k l : Nat} (h1 : Ev ta σ H x) (h2 : Ev tb σ H y) (q : ∀ H1, Ex H H1 → tz D ((σ.set k (some x)).set l (some y)) H1) :
    tSeq (tPar k l (tCons ta (tCons tb tNil))) tz D σ H :=
  h1 H (Ex.refl H) _ fun H1 e1 => h2 H1 e1 _ fun H2 e2 => ⟨_, _, rfl, q H2 (e1.trans e2)⟩
theorem q_parVM {k l : Nat} (h1 : Ev ta σ H x) (h2 : EvL tb σ H ys) (q : ∀ p' H1, H p' = none → Ex H H1 → H1 p' = some (.lst ys) → tz D ((σ.set k (some x)).set l (some (.ref p'))) H1) :
    tSeq (tPar k l (tCons ta (tCons tb tNil))) tz D σ H :=
  h1 H (Ex.refl H) _ fun H1 e1 => h2 H1 e1 _ fun p' H2 hn2 e2 hp2 => ⟨_, _, rfl, q p' H2 (fresh_back e1 hn2) (e1.trans e2) hp2⟩
theorem q_par3L {k l m : Nat} (h1 : EvL ta σ H xs) (h2 : Ev tb σ H y) (h3 : Ev tc σ H z) (q : ∀ p H1, H p = none → Ex H H1 → H1 p = some (.lst xs) → tz D (((σ.set k (some (.ref p))).set l (some y)).set m (some z)) H1) :
    tSeq (tPar3 k l m (tCons ta (tCons tb (tCons tc tNil)))) tz D σ H :=
  h1 H (Ex.refl H) _ fun p H1 hn e1 hp => h2 H1 e1 _ fun H2 e2 => h3 H2 (e1.trans e2) _ fun H3 e3 => ⟨_, _, _, rfl, q p H3 hn ((e1.trans e2).trans e3) (e3 _ _ (e2 _ _ hp))⟩
theorem s_par3V {k l m : Nat} (h1 : Ev ta σ H x) (h2 : Ev tb σ H y) (h3 : Ev tc σ H z) (q : ∀ H1, Ex H H1 → D.nx (((σ.set k (some x)).set l (some y)).set m (some z)) H1) :
    tPar3 k l m (tCons ta (tCons tb (tCons tc tNil))) D σ H :=
  h1 H (Ex.refl H) _ fun H1 e1 => h2 H1 e1 _ fun H2 e2 => h3 H2 (e1.trans e2) _ fun H3 e3 => ⟨_, _, _, rfl, q H3 ((e1.trans e2).trans e3)⟩
/-- xs[i] = e, i a whole number -/
theorem s_setI {l : Addr} {n : Int} (hl : H l = some (.lst (il ns))) (h : Ev te σ H (.int n)) (ho : Ev ta σ H (.ref l)) (hi : Ev tb σ H (.int i)) (hj : 0 ≤ i ∧ i < ns.length) (k : ∀ H1, Ex H H1 → D.nx σ (upd H1 l (.lst (il (ns.set i.toNat n))))) :
    tAsg te (gSub ta tb rSetL) D σ H := by
  have e : i = ((i.toNat : Nat) : Int) := by omega
  rw [e] at hi
  exact s_setL hl h ho hi (by rw [il_len]; omega) fun H1 e1 => by
    rw [il_set]
    exact k H1 e1
/-- an if, both ways shown at the very heap -/
theorem q_when' {b : Bool} (h : EvT t σ H b) (h1 : b = true → ∀ H1, Ex H H1 → tu { D with nx := tz D } σ H1) (h2 : b = false → ∀ H1, Ex H H1 → tz D σ H1) : tSeq (tIfS t tu tNext) tz D σ H := q_when h h1 h2
theorem q_skip {b : Bool} (h : EvT t σ H b) (hb : b = false) (h2 : ∀ H1, Ex H H1 → tz D σ H1) : tSeq (tIfS t tu tNext) tz D σ H := q_when h (fun z => by rw [hb] at z; cases z) (fun _ => h2)
theorem s_skip {b : Bool} (h : EvT t σ H b) (hb : b = false) (h2 : ∀ H1, Ex H H1 → D.nx σ H1) : tIfS t tu tNext D σ H := s_when h (fun z => by rw [hb] at z; cases z) (fun _ => h2)
/-- four names from a call that gives four things in a tuple: by the call's own promise -/
theorem tRet_ref {n : Nat} {p : Addr} (h : σ[n]? = some (some (.ref p))) (k : D.rt (.ref p) H) : tRet (tVar n) D σ H := ⟨_, h, k⟩
theorem ex_m {H H1 : Hp} {p : Addr} {o : HO} (e : Ex H H1) (h : H p = some o) : H1 p = some o := e p o h
theorem ne_new {H H1 : Hp} {p q : Addr} {o : HO} (h : H p = some o) (hq : H q = none) : p ≠ q := ne_of_none h hq
end

/-! ### instances -/
section
variable {K : PySem.W.Frag} {σ : L2.St} {H H' : Hp} {ta tb tc te tl tv : TE} {x y z v : V} {xs ys : List V} {ns : List Int} {a C dx : Addr} {fs : List (Str × V)} {f : Str} {D : Ends} {tu tw tz : TS}
theorem sq_upd {o : HO} (h : SqL K H a xs) (hx : H dx = some o) (ho : ∀ l, o ≠ .lst l) (hf : ∀ q l, o ≠ .frz q l) {u : HO} : SqL K (upd H dx u) a xs := by
  rcases h with (h | ⟨q, h⟩) | h
  · have : a ≠ dx := by
      intro z
      rw [z, hx] at h
      exact ho _ (Option.some.inj h)
    exact .inl (.inl (by rw [upd_ne this]; exact h))
  · have : a ≠ dx := by
      intro z
      rw [z, hx] at h
      exact hf _ _ (Option.some.inj h)
    exact .inl (.inr ⟨q, by rw [upd_ne this]; exact h⟩)
  · exact .inr h
theorem q_sfld (hv : Ev tv σ H v) (ho : Ev ta σ H (.ref a)) (hi : H a = some (.ins C dx fs)) (cl : Cls K C) (na : NoAttr K C f) (hl : fs.length < 1000) (k : ∀ H1, Ex H H1 → tz D σ (upd H1 a (.ins C dx (putF f v fs)))) : tSeq (sFld K ta tv f) tz D σ H :=
  hv H (Ex.refl H) _ fun H1 e1 => ho H1 e1 _ fun H2 e2 => ⟨a, C, dx, fs, rfl, e2 _ _ (e1 _ _ hi), cl, na, hl, k H2 (e1.trans e2)⟩
theorem s_sfld (hv : Ev tv σ H v) (ho : Ev ta σ H (.ref a)) (hi : H a = some (.ins C dx fs)) (cl : Cls K C) (na : NoAttr K C f) (hl : fs.length < 1000) (k : ∀ H1, Ex H H1 → D.nx σ (upd H1 a (.ins C dx (putF f v fs)))) : sFld K ta tv f D σ H :=
  hv H (Ex.refl H) _ fun H1 e1 => ho H1 e1 _ fun H2 e2 => ⟨a, C, dx, fs, rfl, e2 _ _ (e1 _ _ hi), cl, na, hl, k H2 (e1.trans e2)⟩
theorem q_sfldL (hv : EvL tv σ H xs) (ho : Ev ta σ H (.ref a)) (hi : H a = some (.ins C dx fs)) (cl : Cls K C) (na : NoAttr K C f) (hl : fs.length < 1000) (k : ∀ p H1, H p = none → Ex H H1 → H1 p = some (.lst xs) → tz D σ (upd H1 a (.ins C dx (putF f (.ref p) fs)))) : tSeq (sFld K ta tv f) tz D σ H :=
  hv H (Ex.refl H) _ fun p H1 hn e1 hp => ho H1 e1 _ fun H2 e2 => ⟨a, C, dx, fs, rfl, e2 _ _ (e1 _ _ hi), cl, na, hl, k p H2 hn (e1.trans e2) (e2 _ _ hp)⟩
theorem er_fld (h : Ev (tFld K ta f) σ H (.ref a)) (hx : SqL K H a xs) : EvR K (tFld K ta f) σ H xs := er_v h hx
theorem em_fld (h : Ev (tFld K ta f) σ H (.ref a)) (hx : H a = some (.lst xs)) : EvM (tFld K ta f) σ H xs := em_v h hx
/-- a method's call: its promise is asked at the instance -/
theorem ev_methV {m : Str} {sp : Sp} {E : XK} {ta' : TA} {gs : List Ag} (ho : Ev ta σ H (.ref a)) (hi : H a = some (.ins C dx fs)) (hm : fs.lookup m = none) (h : EvAs K ta' σ H gs)
    (hs : ∀ vs H1, Ex H H1 → AgsOk K H1 gs vs → ∀ Q : VK, (∀ H2, Ex H1 H2 → Q v H2) → sp (.ref a :: (vs ++ [])) H1 Q E) : Ev (tMeth C m sp [] E ta ta') σ H v := fun H1 e Q q =>
  ho H1 e _ fun H2 e2 => ⟨a, dx, fs, rfl, e2 _ _ (e _ _ hi), hm, h H2 (e.trans e2) _ fun vs H3 e3 ok => hs vs H3 ((e.trans e2).trans e3) ok Q fun H4 e4 => q H4 ((e2.trans e3).trans e4)⟩
/-- three attributes: a rule, a shorter one, a place -/
def fl3 (r s : Addr) (pl : Int) : List (Str × V) := putF "place" (.int pl) (putF "shorter" (.ref s) (putF "rule" (.ref r) []))
theorem fl3_rule (r s : Addr) (pl : Int) : (fl3 r s pl).lookup ("rule" : Str) = some (V.ref r) := by
  unfold fl3
  rw [lookup_putF, if_neg (by decide +kernel), lookup_putF, if_neg (by decide +kernel), lookup_putF, if_pos rfl]
theorem fl3_shorter (r s : Addr) (pl : Int) : (fl3 r s pl).lookup ("shorter" : Str) = some (V.ref s) := by
  unfold fl3
  rw [lookup_putF, if_neg (by decide +kernel), lookup_putF, if_pos rfl]
theorem fl3_place (r s : Addr) (pl : Int) : (fl3 r s pl).lookup ("place" : Str) = some (V.int pl) := by
  unfold fl3
  rw [lookup_putF, if_pos rfl]
theorem fl3_no (r s : Addr) (pl : Int) {m : Str} (h1 : ¬ m = "place") (h2 : ¬ m = "shorter") (h3 : ¬ m = "rule") : (fl3 r s pl).lookup m = none := by
  unfold fl3
  rw [lookup_putF, if_neg h1, lookup_putF, if_neg h2, lookup_putF, if_neg h3]
  rfl
theorem fl3_shows (r s : Addr) (pl : Int) : (fl3 r s pl).lookup ("shows" : Str) = none := fl3_no r s pl (by decide +kernel) (by decide +kernel) (by decide +kernel)
theorem len_putF (f : Str) (v : V) : ∀ fs : List (Str × V), (putF f v fs).length ≤ fs.length + 1
  | [] => by simp [putF]
  | (g, x) :: r => by
    unfold putF
    split
    · simp
    · simp only [List.length_cons]
      have := len_putF f v r
      omega
/-- four names from a tuple that a call gives: by an own promise -/
def gFour (K : PySem.W.Frag) (i j k l : Nat) : TG := gTup K 4 (gCons (gName i) (gCons (gName j) (gCons (gName k) (gCons (gName l) gNil))))
end
end RK
/-! RrKit3: loops over written tuples and lists, written tuples by a reckoned place, pop, if as an expression. -/
namespace RK
open PySem L2 Evl RR
section
variable {X : Cx} {e : Expr} {cpos apos : Pos}
theorem x_pop {o : Expr} {to : TE} (K : PySem.W.Frag) (hK : X.K = K) (ho : PE X o to)
    (hbase : attributeBase o "pop" X.env (eval o X.env) = eval o X.env := by rfl)
    (hline : (apos.endLine == cpos.line) = true := by rfl) :
    PE X (.Call (.Attribute o "pop" apos) [] [] cpos) (tBM0 K "list" rPop to) := by
  subst hK; exact pe_bm0 PySem.F.plainAttrs_list PySem.F.slot_list_pop PySem.F.type_list_pop mt_pop ho hbase hline
end
section
variable {K : PySem.W.Frag} {σ : L2.St} {H H' : Hp} {ta' : TA} {ta tb tc te tl : TE} {t u : TT} {x y z v : V} {xs ys : List V} {ns : List Int} {i j : Int} {a : Addr} {D : Ends} {tu tw tz : TS}
theorem ea_is {vs ws : List V} (h : EvA ta' σ H vs) (e : vs = ws) : EvA ta' σ H ws := e ▸ h
theorem eu_is (h : EvU te σ H xs) (e : xs = ys) : EvU te σ H ys := e ▸ h
theorem ev_ixTi {n : Nat} (h : σ[n]? = some (some (.ref a))) (ht : SqT K H a (il ns)) (hi : Ev tb σ H (.int i)) (hv : 0 ≤ i ∧ i < ns.length) : Ev (tOp (rIxT K) (tVar n) tb) σ H (.int (g ns i.toNat)) := ev_ixTv (ev_var h) ht hi (g_at hv)
theorem ev_ixUi (h : EvU ta σ H (il ns)) (hi : Ev tb σ H (.int i)) (hv : 0 ≤ i ∧ i < ns.length) : Ev (tOp (rIxT K) ta tb) σ H (.int (g ns i.toNat)) := ev_ixU h hi (g_at hv)
theorem ev_ifI {b : Bool} (h : EvT t σ H b) (h1 : b = true → Ev ta σ H (.int i)) (h2 : b = false → Ev tb σ H (.int j)) : Ev (tIf t ta tb) σ H (.int (if b = true then i else j)) :=
  ev_if h (fun hb => by rw [if_pos hb]; exact h1 hb) (fun hb => by rw [if_neg (by rw [hb]; decide)]; exact h2 hb)
theorem q_pop {l : Addr} (hl : H l = some (.lst (xs ++ [v]))) (ha : Ev ta σ H (.ref l)) (k : ∀ H1, Ex H H1 → tz D σ (upd H1 l (.lst xs))) : tSeq (tDrop (tBM0 K "list" rPop ta)) tz D σ H := ha H (Ex.refl H) _ fun H1 e1 =>
  ⟨.inl ⟨rfl, _, sq_of (e1 l _ hl)⟩, l, xs ++ [v], v, rfl, rfl, e1 l _ hl, by simp, by rw [List.dropLast_concat]; exact k H1 e1⟩
theorem q_appI {l : Addr} {n : Int} (hl : H l = some (.lst (il ns))) (ha : Ev ta σ H (.ref l)) (h : Ev te σ H (.int n)) (hz : ns.length < 100000) (k : ∀ H1, Ex H H1 → tz D σ (upd H1 l (.lst (il (ns ++ [n]))))) :
    tSeq (tDrop (tBM K "list" rAppend ta (tCons te tNil))) tz D σ H := q_app hl ha h (by rw [il_len]; exact hz) fun H1 e1 => by
  have := k H1 e1
  rw [← il_append] at this
  exact this
theorem s_appI {l : Addr} {n : Int} (hl : H l = some (.lst (il ns))) (ha : Ev ta σ H (.ref l)) (h : Ev te σ H (.int n)) (hz : ns.length < 100000) (k : ∀ H1, Ex H H1 → D.nx σ (upd H1 l (.lst (il (ns ++ [n]))))) :
    tDrop (tBM K "list" rAppend ta (tCons te tNil)) D σ H := s_app hl ha h (by rw [il_len]; exact hz) fun H1 e1 => by
  have := k H1 e1
  rw [← il_append] at this
  exact this
theorem q_popI {l : Addr} {n : Int} (hl : H l = some (.lst (il (ns ++ [n])))) (ha : Ev ta σ H (.ref l)) (k : ∀ H1, Ex H H1 → tz D σ (upd H1 l (.lst (il ns)))) : tSeq (tDrop (tBM0 K "list" rPop ta)) tz D σ H :=
  q_pop (xs := il ns) (v := .int n) (by rw [hl, ← il_append]; rfl) ha k
/-- for over what is written in brackets: each item as it is wanted; the items stand as they were made -/
theorem s_forAs {gs : List Ag} {k : Nat} (h : EvAs K ta' σ H gs) (hz : gs.length ≤ 100000) (Pv : Hp → Nat → L2.St → Hp → Prop) (h0 : ∀ H1, Ex H H1 → Pv H1 0 σ H1) (hE : ∀ H1 i σ' H', Pv H1 i σ' H' → Ex H1 H')
    (hs : ∀ H1 i gg y σ' H', Ex H H1 → gs[i]? = some gg → AgOk K H1 gg y → Pv H1 i σ' H' → tu { D with nx := Pv H1 (i + 1), ct := Pv H1 (i + 1), bk := D.nx } (σ'.set k (some y)) H') (hd : ∀ H1 σ' H', Ex H H1 → Pv H1 gs.length σ' H' → D.nx σ' H') :
    tFor (iTup K (tTup ta')) (gName k) tu D σ H := h H (Ex.refl H) _ fun vs H1 e1 ok => by
  have hl := ok.len
  refine ⟨sz_of (by omega), fun p hp => ⟨p, rfl, ⟨vs, st_of upd_same⟩, ?_⟩⟩
  have e2 : Ex H1 (upd H1 p (.tup vs)) := Ex.new hp
  refine for_tup (xs := vs) (Pv (upd H1 p (.tup vs))) (h0 _ (e1.trans e2)) (fun i σ' H' _ q => st_of (hE _ _ _ _ q p _ upd_same)) (fun i y σ' H' hy q => ?_) (by rw [hl]; exact fun σ' H' q => hd _ σ' H' (e1.trans e2) q)
  have ok' := ok.up e2
  have : ∀ (gs : List Ag) (vs : List V) (i : Nat), AgsOk K (upd H1 p (.tup vs)) gs vs → vs[i]? = some y → ∃ gg, gs[i]? = some gg := fun gs vs i o hy => by
    have hl := o.len
    have := (List.getElem?_eq_some_iff.mp hy).1
    exact ⟨gs[i]'(by omega), List.getElem?_eq_getElem _⟩
  have key : ∀ (H2 : Hp) (gs : List Ag) (vs : List V) (i : Nat), AgsOk K H2 gs vs → vs[i]? = some y → ∃ gg, gs[i]? = some gg ∧ AgOk K H2 gg y := fun H2 gs => by
    induction gs with
    | nil =>
      intro vs i o hy
      rw [show vs = [] from o] at hy
      simp at hy
    | cons gg gs ih =>
      intro vs i o hy
      obtain ⟨z, zs, rfl, o1, o2⟩ := o
      cases i with
      | zero =>
        have : z = y := Option.some.inj hy
        subst this
        exact ⟨gg, rfl, o1⟩
      | succ i => exact ih zs i o2 hy
  obtain ⟨gg, e3, e4⟩ := key _ gs vs i ok' hy
  exact hs _ i gg y σ' H' (e1.trans e2) e3 e4 q
theorem q_forAs {gs : List Ag} {k : Nat} (h : EvAs K ta' σ H gs) (hz : gs.length ≤ 100000) (Pv : Hp → Nat → L2.St → Hp → Prop) (h0 : ∀ H1, Ex H H1 → Pv H1 0 σ H1) (hE : ∀ H1 i σ' H', Pv H1 i σ' H' → Ex H1 H')
    (hs : ∀ H1 i gg y σ' H', Ex H H1 → gs[i]? = some gg → AgOk K H1 gg y → Pv H1 i σ' H' → tu { D with nx := Pv H1 (i + 1), ct := Pv H1 (i + 1), bk := tz D } (σ'.set k (some y)) H') (hd : ∀ H1 σ' H', Ex H H1 → Pv H1 gs.length σ' H' → tz D σ' H') :
    tSeq (tFor (iTup K (tTup ta')) (gName k) tu) tz D σ H := s_forAs (D := { D with nx := tz D }) h hz Pv h0 hE hs hd
end
/-- an own class by another one -/
theorem kit_self {K : PySem.W.Frag} {C : Addr} : PySem.W.kitOne K (.ref C) (.ref C) = some true := if_pos (beq_self_eq_true _)
theorem kit_own {K : PySem.W.Frag} {C D : Addr} {b : Bool} (h1 : PySem.W.isClsIn K D = true) (h2 : PySem.W.typeIn K (.ref D) = some (.type "type")) (h3 : PySem.W.subIn K (.ref C) (.ref D) = some b) (h4 : b = true ∨ C ≠ D) : PySem.W.kitOne K (.ref C) (.ref D) = some b := by
  unfold PySem.W.kitOne
  by_cases e : (Value.ref C == Value.ref D) = true
  · rw [if_pos e]
    have : C = D := by
      have := eq_of_beq e
      injection this
    rcases h4 with h4 | h4
    · rw [h4]
    · exact absurd this h4
  · rw [if_neg e]
    unfold PySem.W.kitCls
    have h1' : (PySem.W.clsIn K D).isSome = true := h1
    have z : ((PySem.W.clsIn K D).isSome && PySem.W.typeIn K (.ref D) == some (.type "type")) = true := by
      rw [h1', h2]
      exact beq_self_eq_true _
    simp only [z, if_true]
    exact h3
end RK
/-! RrKit4: one of two terms for an expression; four attributes; stores from behind. -/
namespace RK
open PySem L2 Evl RR
def tAlt (t u : TE) : TE := fun σ H Q => t σ H Q ∨ u σ H Q
section
variable {X : Cx} {e : Expr} {t u : TE}
theorem pe_alt (h1 : PE X e t) (h2 : PE X e u) : PE X e (tAlt t u) := ⟨fun pins s σ H Q I h => h.elim (h1.run pins s σ H Q I) (h2.run pins s σ H Q I)⟩
end
section
variable {K : PySem.W.Frag} {σ : L2.St} {H H' : Hp} {ta' : TA} {ta tb tc te tl : TE} {t u : TT} {x y z v : V} {xs ys : List V} {ns : List Int} {i j : Int} {a : Addr} {D : Ends} {tu tw tz : TS}
theorem ev_alt1 (h : Ev ta σ H v) : Ev (tAlt ta tb) σ H v := fun H1 e Q q => .inl (h H1 e Q q)
theorem ev_alt2 (h : Ev tb σ H v) : Ev (tAlt ta tb) σ H v := fun H1 e Q q => .inr (h H1 e Q q)
theorem er_ifT (h : EvT t σ H true) (h1 : EvR K ta σ H xs) : EvR K (tIf t ta tb) σ H xs := fun H1 e Q q => h H1 e _ fun H2 e2 => by
  show ta σ H2 Q
  exact h1 H2 (e.trans e2) Q fun p H3 e3 hp => q p H3 (e2.trans e3) hp
theorem er_ifF (h : EvT t σ H false) (h1 : EvR K tb σ H xs) : EvR K (tIf t ta tb) σ H xs := fun H1 e Q q => h H1 e _ fun H2 e2 => by
  show tb σ H2 Q
  exact h1 H2 (e.trans e2) Q fun p H3 e3 hp => q p H3 (e2.trans e3) hp
theorem ev_ifT (h : EvT t σ H true) (h1 : Ev ta σ H v) : Ev (tIf t ta tb) σ H v := ev_if h (fun _ => h1) (fun z => by cases z)
theorem ev_ifF (h : EvT t σ H false) (h1 : Ev tb σ H v) : Ev (tIf t ta tb) σ H v := ev_if h (fun z => by cases z) (fun _ => h1)
/-- the last number -/
theorem ev_ixLast (h : EvR K ta σ H (il ns)) (hi : Ev tb σ H (.int (-1))) (hv : 0 < ns.length) : Ev (tOp (rIxL K) ta tb) σ H (.int (g ns (ns.length - 1))) := ev_ixR h hi (by
  unfold atI ixN
  rw [if_neg (by decide), if_pos (by rw [il_len]; omega)]
  show (ns.map V.int)[((-1 : Int) + ((il ns).length : Int)).toNat]? = _
  rw [il_len, show ((-1 : Int) + (ns.length : Int)).toNat = ns.length - 1 by omega, List.getElem?_map, g_in (by omega)]
  rfl)
/-- xs[-1] = e -/
theorem s_setLast {l : Addr} {n : Int} (hl : H l = some (.lst (il ns))) (h : Ev te σ H (.int n)) (ho : Ev ta σ H (.ref l)) (hi : Ev tb σ H (.int (-1))) (hj : 0 < ns.length) (k : ∀ H1, Ex H H1 → D.nx σ (upd H1 l (.lst (il (ns.set (ns.length - 1) n))))) :
    tAsg te (gSub ta tb rSetL) D σ H := h H (Ex.refl H) _ fun H1 e1 => ho H1 e1 _ fun H2 e2 => hi H2 (e1.trans e2) _ fun H3 e3 =>
  ⟨l, _, (-1 : Int), ns.length - 1, rfl, rfl, ((e1.trans e2).trans e3) l _ hl, by
    unfold ixN
    rw [if_neg (by decide), if_pos (by rw [il_len]; omega), il_len]
    congr 1
    omega, by
    rw [il_set]
    exact k H3 ((e1.trans e2).trans e3)⟩
theorem q_setI {l : Addr} {n : Int} (hl : H l = some (.lst (il ns))) (h : Ev te σ H (.int n)) (ho : Ev ta σ H (.ref l)) (hi : Ev tb σ H (.int i)) (hj : 0 ≤ i ∧ i < ns.length) (k : ∀ H1, Ex H H1 → tz D σ (upd H1 l (.lst (il (ns.set i.toNat n))))) :
    tSeq (tAsg te (gSub ta tb rSetL)) tz D σ H := s_setI (D := { D with nx := tz D }) hl h ho hi hj k
/-- four attributes -/
def fl4 (r o s : Addr) (pl : Int) : List (Str × V) := putF "place" (.int pl) (putF "shorter" (.ref s) (putF "other" (.ref o) (putF "one" (.ref r) [])))
theorem fl4_one (r o s : Addr) (pl : Int) : (fl4 r o s pl).lookup ("one" : Str) = some (V.ref r) := by
  unfold fl4
  rw [lookup_putF, if_neg (by decide +kernel), lookup_putF, if_neg (by decide +kernel), lookup_putF, if_neg (by decide +kernel), lookup_putF, if_pos rfl]
theorem fl4_other (r o s : Addr) (pl : Int) : (fl4 r o s pl).lookup ("other" : Str) = some (V.ref o) := by
  unfold fl4
  rw [lookup_putF, if_neg (by decide +kernel), lookup_putF, if_neg (by decide +kernel), lookup_putF, if_pos rfl]
theorem fl4_shorter (r o s : Addr) (pl : Int) : (fl4 r o s pl).lookup ("shorter" : Str) = some (V.ref s) := by
  unfold fl4
  rw [lookup_putF, if_neg (by decide +kernel), lookup_putF, if_pos rfl]
theorem fl4_place (r o s : Addr) (pl : Int) : (fl4 r o s pl).lookup ("place" : Str) = some (V.int pl) := by
  unfold fl4
  rw [lookup_putF, if_pos rfl]
theorem fl4_shows (r o s : Addr) (pl : Int) : (fl4 r o s pl).lookup ("shows" : Str) = none := by
  unfold fl4
  rw [lookup_putF, if_neg (by decide +kernel), lookup_putF, if_neg (by decide +kernel), lookup_putF, if_neg (by decide +kernel), lookup_putF, if_neg (by decide +kernel)]
  rfl
theorem len_two (f g : Str) (v w : V) : (putF f v (putF g w [])).length ≤ 2 := len_putF f v (putF g w [])
theorem len_three (f g h : Str) (v w x : V) : (putF f v (putF g w (putF h x []))).length ≤ 3 := Nat.le_trans (len_putF f v _) (Nat.succ_le_succ (len_two g h w x))
end
/-! ### all but one object is kept -/
def Ko (x : Addr) (H G : Hp) : Prop := ∀ b o, H b = some o → b ≠ x → G b = some o
section
variable {K : PySem.W.Frag} {H G H' : Hp} {x p a C dx : Addr} {o : HO} {xs : List V} {fs : List (Str × V)}
theorem Ko.refl : Ko x H H := fun _ _ h _ => h
theorem Ko.step (k : Ko x H G) (e : Ex G H') : Ko x H (upd H' x o) := fun b u h hb => by rw [upd_ne hb]; exact e b u (k b u h hb)
theorem Ko.ex (k : Ko x H G) (e : Ex G H') : Ko x H H' := fun b u h hb => e b u (k b u h hb)
theorem Ko.free (k : Ko x H G) (h : G p = none) (hx : p ≠ x) : H p = none := by
  cases q : H p with
  | none => rfl
  | some u =>
    rw [k p u q hx] at h
    cases h
theorem sq_ko (h : SqL K H a xs) (hx : H x = some (.ins C dx fs)) (k : Ko x H G) : SqL K G a xs := by
  rcases h with (h | ⟨q, h⟩) | h
  · exact .inl (.inl (k _ _ h (fun z => by rw [z, hx] at h; cases h)))
  · exact .inl (.inr ⟨q, k _ _ h (fun z => by rw [z, hx] at h; cases h)⟩)
  · exact .inr h
end
end RK
/-! RrKit5: what evaluates to something of which a word holds; lists of new lists; either way of an if as a value. -/
namespace RK
open PySem L2 Evl RR
/-- a word of a value that stays when objects are added -/
abbrev Wd := V → Hp → Prop
def Mono (φ : Wd) : Prop := ∀ v H H', Ex H H' → φ v H → φ v H'
def EvP (te : TE) (σ : L2.St) (H : Hp) (φ : Wd) : Prop := ∀ H1, Ex H H1 → ∀ Q : VK, (∀ v H2, Ex H1 H2 → φ v H2 → Q v H2) → te σ H1 Q
def AllW (H : Hp) : List Wd → List V → Prop
  | [], vs => vs = []
  | φ :: φs, vs => ∃ y ys, vs = y :: ys ∧ φ y H ∧ AllW H φs ys
def EvPs (ta : TA) (σ : L2.St) (H : Hp) (φs : List Wd) : Prop := ∀ H1, Ex H H1 → ∀ Q : List V → Hp → Prop, (∀ vs H2, Ex H1 H2 → AllW H2 φs vs → Q vs H2) → ta σ H1 Q
section
variable {K : PySem.W.Frag} {σ : L2.St} {H H' : Hp} {ta' tb' : TA} {ta tb tc te tl : TE} {t u : TT} {x y z v : V} {xs ys zs : List V} {ns : List Int} {i j : Int} {a : Addr} {D : Ends} {tu tw tz : TS} {φ : Wd} {φs : List Wd}
def wIs (v : V) : Wd := fun y _ => y = v
def wL (K : PySem.W.Frag) (xs : List V) : Wd := fun y H => ∃ p, y = .ref p ∧ SqL K H p xs
def wM (xs : List V) : Wd := fun y H => ∃ p, y = .ref p ∧ H p = some (.lst xs)
def wT (φs : List Wd) : Wd := fun y H => ∃ T vs, y = .ref T ∧ H T = some (.tup vs) ∧ AllW H φs vs
theorem mono_is : Mono (wIs v) := fun _ _ _ _ h => h
theorem mono_l : Mono (wL K xs) := fun _ _ _ e ⟨p, h1, h2⟩ => ⟨p, h1, ex_l e h2⟩
theorem mono_m : Mono (wM xs) := fun _ _ _ e ⟨p, h1, h2⟩ => ⟨p, h1, e _ _ h2⟩
theorem allW_up : ∀ {φs : List Wd} {vs : List V}, (∀ φ ∈ φs, Mono φ) → AllW H φs vs → Ex H H' → AllW H' φs vs
  | [], _, _, h, _ => h
  | φ :: φs, _, m, ⟨y, ys, h1, h2, h3⟩, e => ⟨y, ys, h1, m φ List.mem_cons_self y H H' e h2, allW_up (fun ψ hψ => m ψ (List.mem_cons_of_mem _ hψ)) h3 e⟩
theorem mono_t (m : ∀ φ ∈ φs, Mono φ) : Mono (wT φs) := fun _ _ _ e ⟨T, vs, h1, h2, h3⟩ => ⟨T, vs, h1, e _ _ h2, allW_up m h3 e⟩
theorem allW_len : ∀ {φs : List Wd} {vs : List V}, AllW H φs vs → vs.length = φs.length
  | [], _, h => by rw [show _ = [] from h]; rfl
  | _ :: _, _, ⟨y, ys, h1, h2, h3⟩ => by rw [h1, List.length_cons, List.length_cons, allW_len h3]
theorem allW_at : ∀ {φs : List Wd} {vs : List V} {k : Nat} {y : V}, AllW H φs vs → vs[k]? = some y → ∃ φ, φs[k]? = some φ ∧ φ y H
  | [], _, k, y, h, e => by rw [show _ = [] from h] at e; simp at e
  | φ :: φs, _, 0, y, ⟨z, zs, h1, h2, h3⟩, e => by
    rw [h1] at e
    have : z = y := Option.some.inj e
    subst this
    exact ⟨φ, rfl, h2⟩
  | φ :: φs, _, k + 1, y, ⟨z, zs, h1, h2, h3⟩, e => by
    rw [h1] at e
    exact allW_at (k := k) h3 e
theorem ep_v (h : Ev te σ H v) : EvP te σ H (wIs v) := fun H1 e Q q => h H1 e Q fun H2 e2 => q v H2 e2 rfl
theorem ep_l (h : EvR K te σ H xs) : EvP te σ H (wL K xs) := fun H1 e Q q => h H1 e Q fun p H2 e2 hp => q _ H2 e2 ⟨p, rfl, hp⟩
theorem ep_m (h : EvM te σ H xs) : EvP te σ H (wM xs) := fun H1 e Q q => h H1 e Q fun p H2 e2 hp => q _ H2 e2 ⟨p, rfl, hp⟩
theorem eps_nil : EvPs tNil σ H [] := fun H1 _ _ q => q [] H1 (Ex.refl H1) rfl
theorem eps_cons {tr : TA} (m : Mono φ) (h : EvP te σ H φ) (hr : EvPs tr σ H φs) : EvPs (tCons te tr) σ H (φ :: φs) := fun H1 e Q q =>
  h H1 e _ fun y H2 e2 hy => hr H2 (e.trans e2) _ fun vs H3 e3 hv => q (y :: vs) H3 (e2.trans e3) ⟨y, vs, rfl, m _ _ _ e3 hy, hv⟩
theorem ep_t (m : ∀ φ ∈ φs, Mono φ) (h : EvPs ta' σ H φs) (hz : φs.length ≤ 100000) : EvP (tTup ta') σ H (wT φs) := fun H1 e Q q =>
  h H1 e _ fun vs H2 e2 hv => ⟨sz_of (by rw [allW_len hv]; exact hz), fun p hp => q (.ref p) _ (e2.trans (Ex.new hp)) ⟨p, vs, rfl, upd_same, allW_up m hv (Ex.new hp)⟩⟩
/-- a new list of such things -/
theorem q_asgLW {k : Nat} (m : ∀ φ ∈ φs, Mono φ) (h : EvPs ta' σ H φs) (hz : φs.length ≤ 100000) (q : ∀ l vs H1, H l = none → Ex H H1 → H1 l = some (.lst vs) → AllW H1 φs vs → tz D (σ.set k (some (.ref l))) H1) :
    tSeq (tAsg (tLst ta') (gName k)) tz D σ H := h H (Ex.refl H) _ fun vs H1 e1 hv => ⟨sz_of (by rw [allW_len hv]; exact hz), fun p hp => q p vs _ (fresh_back e1 hp) (e1.trans (Ex.new hp)) upd_same (allW_up m hv (Ex.new hp))⟩
/-- append of such a thing -/
theorem q_appW {l : Addr} (hl : H l = some (.lst xs)) (ha : Ev ta σ H (.ref l)) (h : EvP te σ H φ) (hz : xs.length < 100000) (k : ∀ y H1, Ex H H1 → φ y H1 → tz D σ (upd H1 l (.lst (xs ++ [y])))) :
    tSeq (tDrop (tBM K "list" rAppend ta (tCons te tNil))) tz D σ H := ha H (Ex.refl H) _ fun H1 e1 =>
  ⟨.inl ⟨rfl, _, sq_of (e1 l _ hl)⟩, h H1 e1 _ fun y H2 e2 hy => ⟨l, xs, y, rfl, rfl, e2 l _ (e1 l _ hl), sz_lt hz, k y H2 (e1.trans e2) hy⟩⟩
/-- a new list of two, of three new lists -/
theorem q_asgL2 {k : Nat} (h1 : EvL ta σ H xs) (h2 : EvL tb σ H ys) (q : ∀ l p1 p2 H1, H l = none → H p1 = none → H p2 = none → p1 ≠ p2 → l ≠ p1 → l ≠ p2 → Ex H H1 → H1 l = some (.lst [.ref p1, .ref p2]) → H1 p1 = some (.lst xs) → H1 p2 = some (.lst ys) → tz D (σ.set k (some (.ref l))) H1) :
    tSeq (tAsg (tLst (tCons ta (tCons tb tNil))) (gName k)) tz D σ H :=
  h1 H (Ex.refl H) _ fun p1 H1 n1 e1 g1 => h2 H1 e1 _ fun p2 H2 n2 e2 g2 => ⟨sz_of (by simp), fun l nl => by
    have l1 : l ≠ p1 := (ne_of_none (e2 _ _ g1) nl).symm
    have l2 : l ≠ p2 := (ne_of_none g2 nl).symm
    exact q l p1 p2 _ (fresh_back (e1.trans e2) nl) n1 (fresh_back e1 n2) (ne_of_none g1 n2) l1 l2 ((e1.trans e2).trans (Ex.new nl)) upd_same (by rw [upd_ne l1.symm]; exact e2 _ _ g1) (by rw [upd_ne l2.symm]; exact g2)⟩
theorem q_asgL3 {k : Nat} (h1 : EvL ta σ H xs) (h2 : EvL tb σ H ys) (h3 : EvL tc σ H zs) (q : ∀ l p1 p2 p3 H1, H l = none → H p1 = none → H p2 = none → H p3 = none → p1 ≠ p2 → p1 ≠ p3 → p2 ≠ p3 → l ≠ p1 → l ≠ p2 → l ≠ p3 → Ex H H1 → H1 l = some (.lst [.ref p1, .ref p2, .ref p3]) →
      H1 p1 = some (.lst xs) → H1 p2 = some (.lst ys) → H1 p3 = some (.lst zs) → tz D (σ.set k (some (.ref l))) H1) :
    tSeq (tAsg (tLst (tCons ta (tCons tb (tCons tc tNil)))) (gName k)) tz D σ H :=
  h1 H (Ex.refl H) _ fun p1 H1 n1 e1 g1 => h2 H1 e1 _ fun p2 H2 n2 e2 g2 => h3 H2 (e1.trans e2) _ fun p3 H3 n3 e3 g3 => ⟨sz_of (by simp), fun l nl => by
    have g1' := e3 _ _ (e2 _ _ g1)
    have g2' := e3 _ _ g2
    have l1 : l ≠ p1 := (ne_of_none g1' nl).symm
    have l2 : l ≠ p2 := (ne_of_none g2' nl).symm
    have l3 : l ≠ p3 := (ne_of_none g3 nl).symm
    exact q l p1 p2 p3 _ (fresh_back ((e1.trans e2).trans e3) nl) n1 (fresh_back e1 n2) (fresh_back (e1.trans e2) n3) (ne_of_none g1 n2) (ne_of_none (e2 _ _ g1) n3) (ne_of_none g2 n3) l1 l2 l3 (((e1.trans e2).trans e3).trans (Ex.new nl)) upd_same
      (by rw [upd_ne l1.symm]; exact g1') (by rw [upd_ne l2.symm]; exact g2') (by rw [upd_ne l3.symm]; exact g3)⟩
/-- x = a if t else b, the test known -/
theorem q_asgIfT {k : Nat} (h : EvT t σ H true) (q : ∀ H1, Ex H H1 → ta σ H1 fun y H2 => tz D (σ.set k (some y)) H2) : tSeq (tAsg (tIf t ta tb) (gName k)) tz D σ H := h H (Ex.refl H) _ fun H1 e1 => by
  show ta σ H1 _
  exact q H1 e1
theorem q_asgIfF {k : Nat} (h : EvT t σ H false) (q : ∀ H1, Ex H H1 → tb σ H1 fun y H2 => tz D (σ.set k (some y)) H2) : tSeq (tAsg (tIf t ta tb) (gName k)) tz D σ H := h H (Ex.refl H) _ fun H1 e1 => by
  show tb σ H1 _
  exact q H1 e1
theorem q_parLL {k l : Nat} (h1 : EvL ta σ H xs) (h2 : EvL tb σ H ys) (q : ∀ p1 p2 H1, H p1 = none → H p2 = none → p1 ≠ p2 → Ex H H1 → H1 p1 = some (.lst xs) → H1 p2 = some (.lst ys) → tz D ((σ.set k (some (.ref p1))).set l (some (.ref p2))) H1) :
    tSeq (tPar k l (tCons ta (tCons tb tNil))) tz D σ H :=
  h1 H (Ex.refl H) _ fun p1 H1 n1 e1 g1 => h2 H1 e1 _ fun p2 H2 n2 e2 g2 => ⟨_, _, rfl, q p1 p2 H2 n1 (fresh_back e1 n2) (ne_of_none g1 n2) (e1.trans e2) (e2 _ _ g1) g2⟩
theorem q_par3V {k l m : Nat} (h1 : Ev ta σ H x) (h2 : Ev tb σ H y) (h3 : Ev tc σ H z) (q : ∀ H1, Ex H H1 → tz D (((σ.set k (some x)).set l (some y)).set m (some z)) H1) :
    tSeq (tPar3 k l m (tCons ta (tCons tb (tCons tc tNil)))) tz D σ H := s_par3V (D := { D with nx := tz D }) h1 h2 h3 q
theorem q_asgB {k : Nat} {b : Bool} (h : Ev te σ H (.bl b)) (q : ∀ H1, Ex H H1 → tz D (σ.set k (some (.bl b))) H1) : tSeq (tAsg te (gName k)) tz D σ H := q_asg h q
theorem er_ix (h : EvR K ta σ H xs) (hi : Ev tb σ H (.int i)) (hv : atI xs i = some (.ref a)) (hx : SqL K H a ys) : EvR K (tOp (rIxL K) ta tb) σ H ys := er_v (ev_ixR h hi hv) hx
theorem q_asgT {k : Nat} (h : ta σ H fun y H2 => tz D (σ.set k (some y)) H2) : tSeq (tAsg ta (gName k)) tz D σ H := h
theorem q_asgEx {k : Nat} {P : Addr → Prop} (h : ∃ o, Ev te σ H (.ref o) ∧ P o) (q : ∀ o, P o → ∀ H1, Ex H H1 → tz D (σ.set k (some (.ref o))) H1) : tSeq (tAsg te (gName k)) tz D σ H := by
  obtain ⟨o, h1, h2⟩ := h
  exact q_asg h1 fun H1 e1 => q o h2 H1 e1
theorem ea_nilI : EvA tNil σ H (il []) := ea_nil
theorem ea_consI {tr : TA} {n : Int} (h : Ev te σ H (.int n)) (hr : EvA tr σ H (il ns)) : EvA (tCons te tr) σ H (il (n :: ns)) := ea_cons h hr
theorem el_lstI (h : EvA ta' σ H (il ns)) (hz : ns.length ≤ 100000) : EvL (tLst ta') σ H (il ns) := el_lst h (by rw [il_len]; exact hz)
end
end RK
/-! RrKit6: pop as a value, a range from its end, lists of two lists compared, the last bit. -/
namespace RK
open PySem L2 Evl RR
section
variable {K : PySem.W.Frag} {σ : L2.St} {H H' : Hp} {ta' : TA} {ta tb tc te tl : TE} {t u : TT} {x y z v : V} {xs ys : List V} {ns ms : List Int} {i j : Int} {a b c d : Addr} {D : Ends} {tu tw tz : TS}
theorem pop_split {n : Nat} (h : ns.length = n + 1) : il ns = il (ns.take n) ++ [.int (g ns n)] := by
  have : ns = ns.take n ++ [g ns n] := by
    refine g_ext (by simp; omega) fun k hk => ?_
    by_cases c : k < n
    · rw [g_append_left (by rw [List.length_take]; omega), g_take c]
    · have : k = n := by omega
      subst this
      rw [g_append_right (by rw [List.length_take]; omega), List.length_take, show k - min k ns.length = 0 by omega, g_cons_zero]
  rw [this, ← il_append, show (ns.take n ++ [g ns n]).take n = ns.take n by rw [← this], show g (ns.take n ++ [g ns n]) n = g ns n by rw [← this]]
  rfl
/-- x = xs.pop() -/
theorem q_asgPop {k n : Nat} {l : Addr} (hl : H l = some (.lst (il ns))) (hn : ns.length = n + 1) (ha : Ev ta σ H (.ref l)) (q : ∀ H1, Ex H H1 → tz D (σ.set k (some (.int (g ns n)))) (upd H1 l (.lst (il (ns.take n))))) :
    tSeq (tAsg (tBM0 K "list" rPop ta) (gName k)) tz D σ H := ha H (Ex.refl H) _ fun H1 e1 =>
  ⟨.inl ⟨rfl, _, sq_of (e1 l _ hl)⟩, l, il (ns.take n) ++ [.int (g ns n)], .int (g ns n), rfl, rfl, by rw [← pop_split hn]; exact e1 l _ hl, by simp, by rw [List.dropLast_concat]; exact q H1 e1⟩
/-- x = xs.pop() % m -/
theorem q_asgPopMod {k n : Nat} {l : Addr} (hl : H l = some (.lst (il ns))) (hn : ns.length = n + 1) (ha : Ev ta σ H (.ref l)) (hb : ∀ H1, Ev tb σ H1 (.int j)) (hj : 0 < j) (q : ∀ H1, Ex H H1 → ∀ H2, Ex (upd H1 l (.lst (il (ns.take n)))) H2 → tz D (σ.set k (some (.int (g ns n % j)))) H2) :
    tSeq (tAsg (tOp (rI (fun _ j => 0 < j) fun i j => .int (i % j)) (tBM0 K "list" rPop ta) tb) (gName k)) tz D σ H := ha H (Ex.refl H) _ fun H1 e1 =>
  ⟨.inl ⟨rfl, _, sq_of (e1 l _ hl)⟩, l, il (ns.take n) ++ [.int (g ns n)], .int (g ns n), rfl, rfl, by rw [← pop_split hn]; exact e1 l _ hl, by simp, by
    rw [List.dropLast_concat]
    exact hb _ _ (Ex.refl _) _ fun H2 e2 => ⟨_, _, rfl, rfl, hj, q H1 e1 H2 e2⟩⟩
/-- for i in reversed(range(n)) -/
theorem s_forRev {k : Nat} {n : Int} (h : Ev ta σ H (.int n)) (hn : 0 ≤ n ∧ n ≤ 100000) (Pv : Nat → L2.St → Hp → Prop) (h0 : ∀ H1, Ex H H1 → Pv 0 σ H1)
    (hs : ∀ (i : Nat) σ' H', (i : Int) < n → Pv i σ' H' → tu { D with nx := Pv (i + 1), ct := Pv (i + 1), bk := D.nx } (σ'.set k (some (.int (n - 1 - i)))) H') (hd : ∀ σ' H', Pv n.toNat σ' H' → D.nx σ' H') : tFor (iRevR (tRg1 ta)) (gName k) tu D σ H :=
  h H (Ex.refl H) _ fun H1 e => ⟨n, rfl, by omega, by omega, by omega, by omega, by
    rw [show (n - 0).toNat = n.toNat by omega]
    refine for_rangeC (n := n.toNat) Pv (h0 H1 e) (fun i σ' H' hi p => ?_) hd
    rw [show (0 : Int) + ((n.toNat : Nat) : Int) - 1 + (i : Nat) * (-1) = n - 1 - i by omega]
    exact hs i σ' H' (by omega) p⟩
theorem q_forRev {k : Nat} {n : Int} (h : Ev ta σ H (.int n)) (hn : 0 ≤ n ∧ n ≤ 100000) (Pv : Nat → L2.St → Hp → Prop) (h0 : ∀ H1, Ex H H1 → Pv 0 σ H1)
    (hs : ∀ (i : Nat) σ' H', (i : Int) < n → Pv i σ' H' → tu { D with nx := Pv (i + 1), ct := Pv (i + 1), bk := tz D } (σ'.set k (some (.int (n - 1 - i)))) H') (hd : ∀ σ' H', Pv n.toNat σ' H' → tz D σ' H') : tSeq (tFor (iRevR (tRg1 ta)) (gName k) tu) tz D σ H :=
  s_forRev (D := { D with nx := tz D }) h hn Pv h0 hs hd
theorem and_one {i : Int} (h : 0 ≤ i) : Builtin.bitAnd i 1 = i % 2 := Bits.bitAnd_mask (x := i) 1 h
theorem ev_band1 (ha : Ev ta σ H (.int i)) (hb : Ev tb σ H (.int 1)) (h : 0 ≤ i) : Ev (tOp (rI0 fun i j => .int (Builtin.bitAnd i j)) ta tb) σ H (.int (i % 2)) := ev_is (ev_band ha hb) (by rw [and_one h])
theorem ev_absI (ha : Ev ta σ H (.int i)) : Ev (tCB rAbs (tCons ta tNil)) σ H (.int (if i < 0 then -i else i)) := fun H1 e Q q => ha H1 e _ fun H2 e2 => ⟨i, rfl, q H2 e2⟩
/-- lists of two lists of numbers -/
def EvLL (K : PySem.W.Frag) (te : TE) (σ : L2.St) (H : Hp) (xs ys : List Int) : Prop := ∀ H1, Ex H H1 → ∀ Q : VK, (∀ l p1 p2 H2, Ex H1 H2 → SqL K H2 l [.ref p1, .ref p2] → SqL K H2 p1 (il xs) → SqL K H2 p2 (il ys) → Q (.ref l) H2) → te σ H1 Q
theorem ell_var {n : Nat} {l p1 p2 : Addr} {xs ys : List Int} (h : σ[n]? = some (some (.ref l))) (hl : SqL K H l [.ref p1, .ref p2]) (h1 : SqL K H p1 (il xs)) (h2 : SqL K H p2 (il ys)) : EvLL K (tVar n) σ H xs ys := fun H1 e Q q =>
  ⟨_, h, q l p1 p2 H1 (Ex.refl H1) (ex_l e hl) (ex_l e h1) (ex_l e h2)⟩
theorem ell_lst {xs ys : List Int} (h1 : EvR K ta σ H (il xs)) (h2 : EvR K tb σ H (il ys)) : EvLL K (tLst (tCons ta (tCons tb tNil))) σ H xs ys := fun H1 e Q q =>
  h1 H1 e _ fun p1 H2 e2 g1 => h2 H2 (e.trans e2) _ fun p2 H3 e3 g2 => ⟨sz_of (by simp), fun l nl => q l p1 p2 _ ((e2.trans e3).trans (Ex.new nl)) (sq_of upd_same) (ex_l (Ex.new nl) (ex_l e3 g1)) (ex_l (Ex.new nl) g2)⟩
theorem dpLL {H : Hp} {l p1 p2 : Addr} {xs ys : List Int} (hl : SqL K H l [.ref p1, .ref p2]) (h1 : SqL K H p1 (il xs)) (h2 : SqL K H p2 (il ys)) : Dp K H (.ref l) (.list [.list (xs.map PyData.int), .list (ys.map PyData.int)]) := .lst hl (.cons (dp_ints h1) (.cons (dp_ints h2) .nil))
theorem shapedLL (xs ys : List Int) : SeqAt.shaped (.list [.list (xs.map PyData.int), .list (ys.map PyData.int)]) = true := by
  show ((PyData.canLayAll0 (xs.map PyData.int) && (PyData.canLayAll0 (ys.map PyData.int) && true)) && decide (max (PyData.depthAll (xs.map PyData.int) + 1) (max (PyData.depthAll (ys.map PyData.int) + 1) 0) + 1 ≤ 64)) = true
  rw [canLay_ints, canLay_ints, depth_ints, depth_ints]
  rfl
theorem ev_eqLL {xs ys xs' ys' : List Int} (ha : EvLL K ta σ H xs ys) (hb : EvLL K tb σ H xs' ys') : Ev (tOp (rEqD K) ta tb) σ H (.bl (decide (xs = xs') && decide (ys = ys'))) := fun H1 e Q q =>
  ha H1 e _ fun l p1 p2 H2 e2 hl h1 h2 => hb H2 (e.trans e2) _ fun l' p1' p2' H3 e3 hl' h1' h2' => ⟨_, _, dpLL (ex_l e3 hl) (ex_l e3 h1) (ex_l e3 h2), dpLL hl' h1' h2', shapedLL _ _, shapedLL _ _, by
    show Q (.bl (PyData.eqvAll _ _ && (PyData.eqvAll _ _ && true))) H3
    rw [eqv_ints, eqv_ints, Bool.and_true]
    exact q H3 (e2.trans e3)⟩
theorem ev_neLL {xs ys xs' ys' : List Int} (ha : EvLL K ta σ H xs ys) (hb : EvLL K tb σ H xs' ys') : Ev (tOp (rNeD K) ta tb) σ H (.bl (!(decide (xs = xs') && decide (ys = ys')))) := fun H1 e Q q =>
  ha H1 e _ fun l p1 p2 H2 e2 hl h1 h2 => hb H2 (e.trans e2) _ fun l' p1' p2' H3 e3 hl' h1' h2' => ⟨_, _, dpLL (ex_l e3 hl) (ex_l e3 h1) (ex_l e3 h2), dpLL hl' h1' h2', shapedLL _ _, shapedLL _ _, by
    show Q (.bl (!(PyData.eqvAll _ _ && (PyData.eqvAll _ _ && true)))) H3
    rw [eqv_ints, eqv_ints, Bool.and_true]
    exact q H3 (e2.trans e3)⟩
end
end RK
/-! RrFar: a row gone on, and what stands at a far place, by powers of a step. -/
namespace RR
/-- the row gone on by so many numbers -/
def goF (p : Int) (rule row : List Int) : Nat → List Int
  | 0 => row
  | m + 1 => goF p rule row m ++ [due p rule (goF p rule row m) (goF p rule row m).length]
section
variable {p : Int} {rule row : List Int}
theorem goF_len : ∀ m, (goF p rule row m).length = row.length + m
  | 0 => rfl
  | m + 1 => by unfold goF; rw [List.length_append, goF_len m]; simp; omega
theorem goF_g {n m : Nat} (h : n < row.length + m) : ∀ j, g (goF p rule row (m + j)) n = g (goF p rule row m) n
  | 0 => rfl
  | j + 1 => by
    rw [← Nat.add_assoc]
    show g (goF p rule row (m + j) ++ [due p rule (goF p rule row (m + j)) (goF p rule row (m + j)).length]) n = _
    rw [g_append_left (by rw [goF_len]; omega)]
    exact goF_g h j
/-- the number at a place of the row gone on -/
def ext (p : Int) (rule row : List Int) (n : Nat) : Int := g (goF p rule row (n + 1)) n
theorem ext_go {n m : Nat} (h : n < row.length + m) : g (goF p rule row m) n = ext p rule row n := by
  unfold ext
  by_cases c : m ≤ n + 1
  · rw [show n + 1 = m + (n + 1 - m) by omega, goF_g h]
  · rw [show m = n + 1 + (m - (n + 1)) by omega, goF_g (by omega)]
theorem ext_row {n : Nat} (h : n < row.length) : ext p rule row n = g row n := (ext_go (m := 0) (by omega)).symm
theorem ext_rec {n : Nat} (hl : rule.length ≤ row.length) (h : row.length ≤ n) : ext p rule row n = S rule.length (fun k => g rule k * ext p rule row (n - 1 - k)) % p := by
  obtain ⟨m, rfl⟩ : ∃ m, n = row.length + m := ⟨n - row.length, by omega⟩
  rw [← ext_go (m := m + 1) (by omega)]
  unfold goF
  rw [g_append_right (by rw [goF_len]; omega), goF_len, show row.length + m - (row.length + m) = 0 by omega, g_cons_zero]
  unfold due
  refine cg_S fun k hk => ?_
  rw [ext_go (m := m) (by omega)]
theorem ext_rs (hp : 0 < p) (hr : Rs p row) (hl : rule.length ≤ row.length) (n : Nat) : 0 ≤ ext p rule row n ∧ ext p rule row n < p := by
  by_cases h : n < row.length
  · rw [ext_row h]; exact hr.g hp n
  · rw [ext_rec hl (by omega)]
    exact ⟨Int.emod_nonneg _ (by omega), Int.emod_lt_of_pos _ hp⟩
theorem goF_rs (hp : 0 < p) (hr : Rs p row) : ∀ m, Rs p (goF p rule row m)
  | 0 => hr
  | m + 1 => fun x hx => by
    unfold goF at hx
    rcases List.mem_append.mp hx with h | h
    · exact goF_rs hp hr m x h
    · rw [List.mem_singleton.mp h]
      exact ⟨Int.emod_nonneg _ (by omega), Int.emod_lt_of_pos _ hp⟩
end

/-! ### sums of powers, at a place -/
def F (e : Nat → Int) (f : List Int) (m : Nat) : Int := S f.length (fun k => g f k * e (m + k))
theorem S_single {n t : Nat} (h : t < n) (c : Int) : S n (fun k => if k = t then c else 0) = c := by
  induction n with
  | zero => omega
  | succ n ih =>
    simp only [S]
    by_cases e : t = n
    · subst e
      rw [if_pos rfl, S_zero (fun k hk => if_neg (by omega))]
      omega
    · rw [ih (by omega), if_neg (fun z => e z.symm)]
      omega
theorem F_set {e : Nat → Int} {f : List Int} {t : Nat} {v : Int} (h : t < f.length) (m : Nat) : F e (f.set t v) m = F e f m + (v - g f t) * e (m + t) := by
  unfold F
  rw [List.length_set, ← S_single h ((v - g f t) * e (m + t)), ← S_add]
  refine S_congr fun k hk => ?_
  by_cases c : k = t
  · subst c
    rw [if_pos rfl, g_set_self h, Int.sub_mul]
    omega
  · rw [if_neg c, g_set_ne (fun z => c z.symm)]
    omega
theorem F_last {e : Nat → Int} {f : List Int} {n : Nat} (h : f.length = n + 1) (m : Nat) : F e f m = F e (f.take n) m + g f n * e (m + n) := by
  unfold F
  rw [h, List.length_take, h, show min n (n + 1) = n by omega]
  simp only [S]
  rw [S_congr (n := n) (f := fun k => g (f.take n) k * e (m + k)) (h := fun k => g f k * e (m + k)) (fun k hk => by rw [g_take hk])]
theorem F_map {p : Int} {e : Nat → Int} {f : List Int} {r : Int → Int} (hr : ∀ x, r x % p = x % p) (m : Nat) : F e (f.map r) m % p = F e f m % p := by
  unfold F
  rw [List.length_map]
  refine cg_S fun k hk => cg_mul ?_ rfl
  rw [g_map hk]
  exact hr _

/-! ### multiplied -/
/-- one power of the one by all of the other -/
def inn (r : Int → Int) (a : Int) (other l : List Int) (i : Nat) : Nat → List Int
  | 0 => l
  | j + 1 => (inn r a other l i j).set (i + j) (r (g (inn r a other l i j) (i + j) + a * g other j))
theorem inn_len (r : Int → Int) (a : Int) (other l : List Int) (i : Nat) : ∀ j, (inn r a other l i j).length = l.length
  | 0 => rfl
  | j + 1 => by unfold inn; rw [List.length_set, inn_len r a other l i j]
theorem inn_F {p : Int} {r : Int → Int} (hr : ∀ x, r x % p = x % p) {e : Nat → Int} {a : Int} {other l : List Int} {i : Nat} (m : Nat) : ∀ j, i + j ≤ l.length → F e (inn r a other l i j) m % p = (F e l m + a * S j (fun k => g other k * e (m + i + k))) % p
  | 0, _ => by simp [inn, S]
  | j + 1, h => by
    unfold inn
    rw [F_set (by rw [inn_len]; omega)]
    have ih := inn_F (p := p) hr (e := e) (a := a) (other := other) (l := l) (i := i) m j (by omega)
    obtain ⟨x, hx⟩ : ∃ x, g (inn r a other l i j) (i + j) = x := ⟨_, rfl⟩
    rw [hx]
    have h2 : ((r (x + a * g other j) - x) * e (m + (i + j))) % p = (a * g other j * e (m + (i + j))) % p := by
      refine cg_mul ?_ rfl
      have := cg_sub (hr (x + a * g other j)) (rfl : x % p = x % p)
      rw [this, show x + a * g other j - x = a * g other j by omega]
    rw [cg_add ih h2]
    simp only [S]
    rw [Int.mul_add, Int.add_assoc, ← Nat.add_assoc, Int.mul_assoc]
def outF (r : Int → Int) (one other : List Int) (len : Nat) : Nat → List Int
  | 0 => List.replicate len 0
  | i + 1 => inn r (g one i) other (outF r one other len i) i other.length
theorem outF_len (r : Int → Int) (one other : List Int) (len : Nat) : ∀ i, (outF r one other len i).length = len
  | 0 => by simp [outF]
  | i + 1 => by unfold outF; rw [inn_len, outF_len r one other len i]
theorem outF_F {p : Int} {r : Int → Int} (hr : ∀ x, r x % p = x % p) {e : Nat → Int} {one other : List Int} {len : Nat} (m : Nat) : ∀ i, (i = 0 ∨ i + other.length ≤ len + 1) → F e (outF r one other len i) m % p = S i (fun k => g one k * F e other (m + k)) % p
  | 0, _ => by
    unfold outF F
    rw [S_zero (fun k _ => by rw [g_replicate, Int.zero_mul])]
    rfl
  | i + 1, h => by
    unfold outF
    rw [inn_F hr m other.length (by rw [outF_len]; omega), cg_add (outF_F hr m i (by omega)) rfl]
    rfl
theorem F_nil (e : Nat → Int) (m : Nat) : F e [] m = 0 := rfl
/-- two lists of rests multiplied, as the program does -/
def timesF (p : Int) (one other : List Int) : List Int := if one.length = 0 ∨ other.length = 0 then [] else outF (· % p) one other (one.length + other.length - 1) one.length
theorem timesF_len (p : Int) (one other : List Int) : (timesF p one other).length ≤ one.length + other.length := by
  unfold timesF
  split
  · simp
  · rw [outF_len]; omega
theorem timesF_F {p : Int} {e : Nat → Int} (one other : List Int) (m : Nat) : F e (timesF p one other) m % p = S one.length (fun k => g one k * F e other (m + k)) % p := by
  unfold timesF
  split
  · rename_i h
    rcases h with h | h
    · rw [h]; rfl
    · rw [F_nil, S_zero (fun k _ => by rw [show other = [] from List.eq_nil_of_length_eq_zero h, F_nil, Int.mul_zero])]
  · exact outF_F (fun x => mm) m _ (by omega)
theorem inn_rs {p : Int} (hp : 0 < p) {a : Int} {other l : List Int} {i : Nat} (h : Rs p l) : ∀ j, Rs p (inn (· % p) a other l i j)
  | 0 => h
  | j + 1 => fun x hx => by
    unfold inn at hx
    rcases List.mem_or_eq_of_mem_set hx with w | w
    · exact inn_rs hp h j x w
    · rw [w]; exact ⟨Int.emod_nonneg _ (by omega), Int.emod_lt_of_pos _ hp⟩
theorem outF_rs {p : Int} (hp : 0 < p) {one other : List Int} {len : Nat} : ∀ i, Rs p (outF (· % p) one other len i)
  | 0 => fun x hx => by
    have := (List.mem_replicate.mp hx).2
    omega
  | i + 1 => by unfold outF; exact inn_rs hp (outF_rs hp i) _
theorem timesF_rs {p : Int} (hp : 0 < p) (one other : List Int) : Rs p (timesF p one other) := by
  unfold timesF
  split
  · exact Rs.nil
  · exact outF_rs hp _

/-! ### brought down -/
/-- the highest power is due by the rule of those beneath -/
def bin (r : Int → Int) (most : Int) (rule l : List Int) (n : Nat) : Nat → List Int
  | 0 => l
  | k + 1 => (bin r most rule l n k).set (n - 1 - k) (r (g (bin r most rule l n k) (n - 1 - k) + most * g rule k))
theorem bin_len (r : Int → Int) (most : Int) (rule l : List Int) (n : Nat) : ∀ k, (bin r most rule l n k).length = l.length
  | 0 => rfl
  | k + 1 => by unfold bin; rw [List.length_set, bin_len r most rule l n k]
theorem bin_F {p : Int} {r : Int → Int} (hr : ∀ x, r x % p = x % p) {e : Nat → Int} {most : Int} {rule l : List Int} {n : Nat} (hl : l.length = n) (m : Nat) : ∀ k, k ≤ n → F e (bin r most rule l n k) m % p = (F e l m + most * S k (fun j => g rule j * e (m + n - 1 - j))) % p
  | 0, _ => by simp [bin, S]
  | k + 1, h => by
    unfold bin
    rw [F_set (by rw [bin_len]; omega)]
    have ih := bin_F (p := p) hr (e := e) (most := most) (rule := rule) hl m k (by omega)
    obtain ⟨x, hx⟩ : ∃ x, g (bin r most rule l n k) (n - 1 - k) = x := ⟨_, rfl⟩
    rw [hx]
    have h2 : ((r (x + most * g rule k) - x) * e (m + (n - 1 - k))) % p = (most * g rule k * e (m + (n - 1 - k))) % p := by
      refine cg_mul ?_ rfl
      have := cg_sub (hr (x + most * g rule k)) (rfl : x % p = x % p)
      rw [this, show x + most * g rule k - x = most * g rule k by omega]
    rw [cg_add ih h2]
    simp only [S]
    rw [Int.mul_add, Int.add_assoc, show m + (n - 1 - k) = m + n - 1 - k by omega, Int.mul_assoc]
/-- one step down: the last is taken away -/
def bdStep (r rm : Int → Int) (rule l : List Int) : List Int := bin r (rm (g l (l.length - 1))) rule (l.take (l.length - 1)) (l.length - 1) rule.length
theorem bdStep_len (r rm : Int → Int) (rule l : List Int) : (bdStep r rm rule l).length = l.length - 1 := by
  unfold bdStep
  rw [bin_len, List.length_take]
  omega
def bdF (r rm : Int → Int) (rule l : List Int) : Nat → List Int
  | 0 => l
  | t + 1 => bdStep r rm rule (bdF r rm rule l t)
theorem bdF_len (r rm : Int → Int) (rule l : List Int) : ∀ t, (bdF r rm rule l t).length = l.length - t
  | 0 => rfl
  | t + 1 => by unfold bdF; rw [bdStep_len, bdF_len r rm rule l t]; omega
theorem bdStep_F {p : Int} {r rm : Int → Int} (hr : ∀ x, r x % p = x % p) (hrm : ∀ x, rm x % p = x % p) {rule row l : List Int} (hl : rule.length ≤ row.length) {m : Nat} (h : rule.length < l.length) (hm : row.length ≤ m + rule.length) :
    F (ext p rule row) (bdStep r rm rule l) m % p = F (ext p rule row) l m % p := by
  obtain ⟨n, hn⟩ : ∃ n, l.length = n + 1 := ⟨l.length - 1, by omega⟩
  unfold bdStep
  rw [hn, show n + 1 - 1 = n by omega, bin_F hr (by rw [List.length_take, hn]; omega) m rule.length (by omega), F_last hn]
  refine cg_add rfl (cg_mul (hrm _) ?_)
  rw [ext_rec hl (by omega), mm]
theorem bdF_F {p : Int} {r rm : Int → Int} (hr : ∀ x, r x % p = x % p) (hrm : ∀ x, rm x % p = x % p) {rule row l : List Int} (hl : rule.length ≤ row.length) {m : Nat} (hm : row.length ≤ m + rule.length) : ∀ t, rule.length + t ≤ l.length →
    F (ext p rule row) (bdF r rm rule l t) m % p = F (ext p rule row) l m % p
  | 0, _ => rfl
  | t + 1, h => by
    unfold bdF
    rw [bdStep_F hr hrm hl (by rw [bdF_len]; omega) hm]
    exact bdF_F hr hrm hl hm t (by omega)
theorem bin_rs {p : Int} (hp : 0 < p) {most : Int} {rule l : List Int} {n : Nat} (h : Rs p l) : ∀ k, Rs p (bin (· % p) most rule l n k)
  | 0 => h
  | k + 1 => fun x hx => by
    unfold bin at hx
    rcases List.mem_or_eq_of_mem_set hx with w | w
    · exact bin_rs hp h k x w
    · rw [w]; exact ⟨Int.emod_nonneg _ (by omega), Int.emod_lt_of_pos _ hp⟩
theorem bdF_rs {p : Int} (hp : 0 < p) {rm : Int → Int} {rule l : List Int} (h : Rs p l) : ∀ t, Rs p (bdF (· % p) rm rule l t)
  | 0 => h
  | t + 1 => by
    unfold bdF bdStep
    exact bin_rs hp (fun x hx => bdF_rs hp h t x (List.mem_of_mem_take hx)) _
/-- as the program does it -/
def down (p : Int) (rule l : List Int) : List Int := bdF (· % p) id rule l (l.length - rule.length)
theorem down_len (p : Int) (rule l : List Int) : (down p rule l).length ≤ rule.length ∨ (down p rule l).length = l.length ∧ l.length ≤ rule.length := by
  unfold down
  rw [bdF_len]
  omega
theorem down_F {p : Int} {rule row l : List Int} (hl : rule.length ≤ row.length) {m : Nat} (hm : row.length ≤ m + rule.length) : F (ext p rule row) (down p rule l) m % p = F (ext p rule row) l m % p := by
  unfold down
  by_cases h : rule.length ≤ l.length
  · exact bdF_F (fun x => mm) (fun x => rfl) hl hm _ (by omega)
  · rw [show l.length - rule.length = 0 by omega]; rfl
theorem down_rs {p : Int} (hp : 0 < p) {rule l : List Int} (h : Rs p l) : Rs p (down p rule l) := bdF_rs hp h _

/-! ### what stands for a power of a step -/
structure Rep (p : Int) (rule row f : List Int) (t : Nat) : Prop where
  len : f.length ≤ rule.length
  rs : Rs p f
  at_ : ∀ m, row.length ≤ m + rule.length → F (ext p rule row) f m % p = ext p rule row (m + t) % p
section
variable {p : Int} {rule row : List Int}
theorem rep_mul {f h : List Int} {t u : Nat} {fh : List Int} (hf : Rep p rule row f t) (hh : Rep p rule row h u) (hl : fh.length ≤ rule.length) (hrs : Rs p fh)
    (e : ∀ m, row.length ≤ m + rule.length → F (ext p rule row) fh m % p = S f.length (fun k => g f k * F (ext p rule row) h (m + k)) % p) : Rep p rule row fh (t + u) := ⟨hl, hrs, fun m hm => by
  rw [e m hm, cg_S (h := fun k => g f k * ext p rule row (m + u + k)) (fun k hk => cg_mul rfl (by rw [hh.at_ (m + k) (by omega), show m + k + u = m + u + k by omega]))]
  have := hf.at_ (m + u) (by omega)
  unfold F at this
  rw [this, show m + u + t = m + (t + u) by omega]⟩
theorem rep_times {f h : List Int} {t u : Nat} (hp : 0 < p) (hl : rule.length ≤ row.length) (h0 : 0 < rule.length) (hf : Rep p rule row f t) (hh : Rep p rule row h u) : Rep p rule row (down p rule (timesF p f h)) (t + u) :=
  rep_mul hf hh (by have := down_len p rule (timesF p f h); omega) (down_rs hp (timesF_rs hp f h)) fun m hm => by
    rw [down_F hl hm, timesF_F]
theorem F_one (e : Nat → Int) (m : Nat) : F e [1] m = e m := by
  show 0 + (1 : Int) * e (m + 0) = e m
  rw [Int.one_mul, Int.zero_add, Nat.add_zero]
theorem F_step (e : Nat → Int) (m : Nat) : F e [0, 1] m = e (m + 1) := by
  show 0 + (0 : Int) * e (m + 0) + (1 : Int) * e (m + 1) = e (m + 1)
  rw [Int.one_mul, Int.zero_mul]
  omega
theorem rs_one (hp : 1 < p) : Rs p [1] := fun x hx => by
  simp only [List.mem_cons, List.mem_nil_iff, or_false] at hx
  omega
theorem rs_step (hp : 1 < p) : Rs p [0, 1] := fun x hx => by
  simp only [List.mem_cons, List.mem_nil_iff, or_false] at hx
  omega
theorem rep_one (hp : 1 < p) (hl : rule.length ≤ row.length) (h0 : 0 < rule.length) : Rep p rule row (down p rule [1]) 0 :=
  ⟨by have h := down_len p rule [1]; simp at h; omega, down_rs (by omega) (rs_one hp), fun m hm => by rw [down_F hl hm, F_one]; rfl⟩
theorem rep_step (hp : 1 < p) (hl : rule.length ≤ row.length) (h0 : 0 < rule.length) : Rep p rule row (down p rule [0, 1]) 1 :=
  ⟨by have h := down_len p rule [0, 1]; simp at h; omega, down_rs (by omega) (rs_step hp), fun m hm => by rw [down_F hl hm, F_step]⟩
/-- the number, from what stands for the power -/
theorem rep_far {f : List Int} {t : Nat} (hp : 0 < p) (hr : Rs p row) (hl : rule.length ≤ row.length) (hf : Rep p rule row f t) :
    S f.length (fun k => g f k * g row (row.length - rule.length + k)) % p = ext p rule row (row.length - rule.length + t) := by
  have h := hf.at_ (row.length - rule.length) (by omega)
  unfold F at h
  have hlen := hf.len
  rw [S_congr (h := fun k => g f k * g row (row.length - rule.length + k)) (fun k hk => by rw [ext_row (by omega)])] at h
  rw [h]
  exact emod_small (ext_rs hp hr hl _)
/-! ### as law 3 does it: the highest figure first, rests at the end alone -/
def lawTimes (p : Int) (rule one other : List Int) : List Int :=
  (bdF id (· % p) rule (outF id one other (one.length + other.length) one.length) (one.length + other.length - (if (rule.length : Int) > 1 then rule.length else 1))).map (· % p)
theorem lawTimes_len (rule one other : List Int) (h0 : 0 < rule.length) : (lawTimes p rule one other).length ≤ rule.length := by
  unfold lawTimes
  rw [List.length_map, bdF_len, outF_len]
  split <;> omega
theorem rep_lawTimes {f h : List Int} {t u : Nat} (hp : 0 < p) (hl : rule.length ≤ row.length) (h0 : 0 < rule.length) (hf : Rep p rule row f t) (hh : Rep p rule row h u) : Rep p rule row (lawTimes p rule f h) (t + u) :=
  rep_mul hf hh (lawTimes_len rule f h h0) (Rs.mod hp) fun m hm => by
    unfold lawTimes
    rw [F_map (fun x => mm)]
    by_cases c : rule.length ≤ f.length + h.length
    · rw [bdF_F (r := id) (fun x => rfl) (fun x => mm) hl hm _ (by rw [outF_len]; split <;> omega)]
      exact outF_F (r := id) (fun x => rfl) m _ (by omega)
    · rw [show f.length + h.length - (if (rule.length : Int) > 1 then rule.length else 1) = 0 by split <;> omega]
      exact outF_F (r := id) (fun x => rfl) m _ (by omega)
/-- by the step itself, however long the rule: [0, 1] may be longer than it -/
theorem rep_lawStep {f : List Int} {t : Nat} (hp : 0 < p) (hl : rule.length ≤ row.length) (h0 : 0 < rule.length) (hf : Rep p rule row f t) : Rep p rule row (lawTimes p rule f [0, 1]) (t + 1) := ⟨lawTimes_len rule f [0, 1] h0, Rs.mod hp, fun m hm => by
  have key : F (ext p rule row) (lawTimes p rule f [0, 1]) m % p = S f.length (fun k => g f k * F (ext p rule row) [0, 1] (m + k)) % p := by
    unfold lawTimes
    rw [F_map (fun x => mm)]
    by_cases c : rule.length ≤ f.length + ([0, 1] : List Int).length
    · rw [bdF_F (r := id) (fun x => rfl) (fun x => mm) hl hm _ (by rw [outF_len]; split <;> omega)]
      exact outF_F (r := id) (fun x => rfl) m _ (by omega)
    · rw [show f.length + ([0, 1] : List Int).length - (if (rule.length : Int) > 1 then rule.length else 1) = 0 by split <;> omega]
      exact outF_F (r := id) (fun x => rfl) m _ (by omega)
  rw [key, S_congr (h := fun k => g f k * ext p rule row (m + 1 + k)) (fun k hk => by rw [F_step, show m + k + 1 = m + 1 + k by omega])]
  have := hf.at_ (m + 1) (by omega)
  unfold F at this
  rw [this, show m + 1 + t = m + (t + 1) by omega]⟩
theorem rep_lawOne (hp : 1 < p) (h0 : 0 < rule.length) : Rep p rule row [1] 0 := ⟨by simp; omega, rs_one hp, fun m hm => by rw [F_one]; rfl⟩
end
/-! ### law 3's own row and what it asks of it -/
theorem makes_tail {p : Int} {rule row : List Int} (hl : rule.length ≤ row.length) (m : Nat) : Makes p rule ((goF p rule row m).drop (row.length - rule.length)) := fun n h1 h2 => by
  rw [List.length_drop, goF_len] at h2
  rw [g_drop, ext_go (by omega), ext_rec hl (by omega)]
  unfold due
  refine cg_S fun k hk => ?_
  rw [g_drop, ext_go (by omega), show row.length - rule.length + n - 1 - k = row.length - rule.length + (n - 1 - k) by omega]
theorem half_step (s k : Nat) : s / 2 ^ k = s / 2 ^ (k + 1) + s / 2 ^ (k + 1) + s / 2 ^ k % 2 := by
  rw [Nat.pow_succ, ← Nat.div_div_eq_div_mul]
  omega
theorem int_shift (s k : Nat) : (s : Int) / 2 ^ k = ((s / 2 ^ k : Nat) : Int) := by
  rw [Int.natCast_ediv]
  simp
end RR
/-! RrLaw: what the laws draw out of a script: a prime, rests, a row. -/
namespace RR
def PR : List Int := [1000003, 1000033, 1000037, 1000039, 1000081, 1000099, 1000117, 1000121, 1000133, 1000151, 1000159, 1000171, 1000183, 1000187, 1000193, 1000199]
theorem PR_pos (k : Int) : 0 < g PR (k % 16).toNat := by
  have h1 : 0 ≤ k % 16 := Int.emod_nonneg _ (by decide)
  have h2 : k % 16 < 16 := Int.emod_lt_of_pos _ (by decide)
  have : ∀ i : Nat, i < 16 → 0 < g PR i := by decide
  exact this _ (by omega)
def draw (c k m : Int) : Int := (c * 48271 + k * 69621) % g PR (k % 16).toNat % m
theorem draw_in {c k m : Int} (h : 0 < m) : 0 ≤ draw c k m ∧ draw c k m < m := ⟨Int.emod_nonneg _ (by omega), Int.emod_lt_of_pos _ h⟩
def PL : List Int := [2, 3, 2, 5, 7, 2, 997, 11, 31, 3]
def lawPrime (ns : List Int) : Int := g PL (draw (g ns 0) 6 10).toNat
/-- a prime, by trying -/
def good (n : Nat) : Bool := decide (2 ≤ n) && decide (n ≤ 997) && (List.range (n + 1)).all fun e => decide (e = 0) || decide (e = 1) || decide (e = n) || decide (n % e ≠ 0)
theorem good_of {n : Nat} (h : good n = true) : Good (n : Int) := by
  unfold good at h
  simp only [Bool.and_eq_true, decide_eq_true_eq, List.all_eq_true, List.mem_range, Bool.or_eq_true] at h
  obtain ⟨⟨h1, h2⟩, h3⟩ := h
  refine ⟨by omega, by omega, fun e he hd => ?_⟩
  have hle : e ≤ n := Int.le_of_dvd (by omega) hd
  obtain ⟨m, rfl⟩ : ∃ m : Nat, e = m := ⟨e.toNat, by omega⟩
  rcases h3 m (by omega) with ((w | w) | w) | w
  · omega
  · left; omega
  · right; omega
  · exact absurd (Nat.mod_eq_zero_of_dvd (Int.natCast_dvd_natCast.mp hd)) w
theorem PL_good : ∀ i : Nat, i < 10 → Good (g PL i) := fun i hi => by
  have h2 : Good 2 := good_of (n := 2) (by decide +kernel)
  have h3 : Good 3 := good_of (n := 3) (by decide +kernel)
  have h5 : Good 5 := good_of (n := 5) (by decide +kernel)
  have h7 : Good 7 := good_of (n := 7) (by decide +kernel)
  have h11 : Good 11 := good_of (n := 11) (by decide +kernel)
  have h31 : Good 31 := good_of (n := 31) (by decide +kernel)
  have h997 : Good 997 := good_of (n := 997) (by decide +kernel)
  match i, hi with
  | 0, _ => exact h2
  | 1, _ => exact h3
  | 2, _ => exact h2
  | 3, _ => exact h5
  | 4, _ => exact h7
  | 5, _ => exact h2
  | 6, _ => exact h997
  | 7, _ => exact h11
  | 8, _ => exact h31
  | 9, _ => exact h3
theorem lawPrime_good (ns : List Int) : Good (lawPrime ns) := by
  have := draw_in (c := g ns 0) (k := 6) (m := 10) (by decide)
  exact PL_good _ (by omega)
def lawRests (ns : List Int) (by_ p m : Int) : List Int := (List.range m.toNat).map fun k => draw (g ns k) ((k : Int) % 5 + by_) p
theorem lawRests_len (ns : List Int) (by_ p m : Int) : (lawRests ns by_ p m).length = m.toNat := by simp [lawRests]
theorem lawRests_rs {ns : List Int} {by_ p m : Int} (hp : 0 < p) : Rs p (lawRests ns by_ p m) := fun x hx => by
  obtain ⟨k, _, rfl⟩ := List.mem_map.mp hx
  exact draw_in hp
/-- numbers made by a rule set in their places, from lo on -/
def fillF (p : Int) (rule l : List Int) (lo : Nat) : Nat → List Int
  | 0 => l
  | i + 1 => (fillF p rule l lo i).set (lo + i) (due p rule (fillF p rule l lo i) (lo + i))
theorem fillF_len (p : Int) (rule l : List Int) (lo : Nat) : ∀ i, (fillF p rule l lo i).length = l.length
  | 0 => rfl
  | i + 1 => by unfold fillF; rw [List.length_set, fillF_len p rule l lo i]
theorem fillF_rs {p : Int} (hp : 0 < p) {rule l : List Int} (hl : Rs p l) (lo : Nat) : ∀ i, Rs p (fillF p rule l lo i)
  | 0 => hl
  | i + 1 => fun x hx => by
    unfold fillF at hx
    rcases List.mem_or_eq_of_mem_set hx with h | h
    · exact fillF_rs hp hl lo i x h
    · rw [h]
      exact ⟨Int.emod_nonneg _ (by omega), Int.emod_lt_of_pos _ hp⟩
def OFF : List Int := [0, 0, 0, 2]
def lawKind (ns : List Int) : Int := draw (g ns 1) 7 5
def lawRule (ns : List Int) (p : Int) : List Int := lawRests (ns.drop 1) 3 p (1 + draw (g ns 2) 8 6)
def lawRow (ns : List Int) (p : Int) : List Int :=
  if decide (lawKind ns = 0) = true then (List.range ns.length).map fun k => if decide (draw (g ns k) 9 5 = 0) = true then g (lawRests ns 1 p ns.length) k else 0
  else if decide (lawKind ns < 4) = true then fillF p (lawRule ns p) (lawRests ns 1 p ns.length) (lawRule ns p).length (ns.length - g OFF (lawKind ns).toNat - (lawRule ns p).length).toNat
  else lawRests ns 1 p ns.length
theorem lawRow_len (ns : List Int) (p : Int) : (lawRow ns p).length = ns.length := by
  unfold lawRow
  split
  · simp
  · split
    · rw [fillF_len, lawRests_len]; simp
    · rw [lawRests_len]; simp
theorem lawRow_rs {ns : List Int} {p : Int} (hp : 0 < p) : Rs p (lawRow ns p) := by
  have h1 : Rs p (lawRests ns 1 p ns.length) := lawRests_rs hp
  unfold lawRow
  split
  · intro x hx
    obtain ⟨k, _, rfl⟩ := List.mem_map.mp hx
    split
    · exact h1.g hp k
    · omega
  · split
    · exact fillF_rs hp h1 _ _
    · exact h1
theorem Rs.reverse {p : Int} {l : List Int} (h : Rs p l) : Rs p l.reverse := fun x hx => h x (List.mem_reverse.mp hx)
theorem Rs.drop {p : Int} {l : List Int} (h : Rs p l) (n : Nat) : Rs p (l.drop n) := fun x hx => h x (List.mem_of_mem_drop hx)
theorem Rs.take {p : Int} {l : List Int} (h : Rs p l) (n : Nat) : Rs p (l.take n) := fun x hx => h x (List.mem_of_mem_take hx)
/-- the two ends of law 1 -/
theorem shortest_nil (p : Int) : (shortest p []).rule = [] := rfl
theorem shortest_two {p : Int} (hp : Good p) : (shortest p [0, 0, 1]).place = 2 := by
  have h1 := hp.two
  have e0 : (0 : Int) % p = 0 := Int.zero_emod p
  have e1 : (1 : Int) % p = 1 := Int.emod_eq_of_lt (by omega) (by omega)
  have s1 : bm p [0, 0, 1] 1 = ⟨[], [], -1, 1⟩ := by
    show bmStep p [0, 0, 1] ⟨[], [], -1, 1⟩ 0 = _
    unfold bmStep
    rw [if_neg]
    rintro ⟨_, h⟩
    exact h (by show (0 - 0 % p) % p = 0; rw [e0]; exact e0)
  have s2 : bm p [0, 0, 1] 2 = ⟨[], [], -1, 1⟩ := by
    show bmStep p [0, 0, 1] (bm p [0, 0, 1] 1) 1 = _
    rw [s1]
    unfold bmStep
    rw [if_neg]
    rintro ⟨_, h⟩
    exact h (by show (0 - 0 % p) % p = 0; rw [e0]; exact e0)
  show (bmStep p [0, 0, 1] (bm p [0, 0, 1] 2) 2).place = 2
  rw [s2]
  unfold bmStep
  rw [if_pos ⟨by show 0 ≤ 2; omega, by show (1 - 0 % p) % p ≠ 0; rw [e0, Int.sub_zero, e1]; decide⟩]
  rw [if_pos (by show 2 + 1 - 0 > 0; decide)]
  rfl
/-! ### law 5: rests with something changed -/
def bentAt (l : List Int) (c : Int) : Int := draw c 2 (if (l.length : Int) > 1 then (l.length : Int) else 1)
theorem bentAt_in {l : List Int} {c : Int} : 0 ≤ bentAt l c ∧ (l ≠ [] → bentAt l c < l.length) := by
  unfold bentAt
  have h : 0 < (if (l.length : Int) > 1 then (l.length : Int) else 1) := by split <;> omega
  have := draw_in (c := c) (k := 2) h
  refine ⟨this.1, fun hn => ?_⟩
  have hl : 0 < l.length := List.length_pos_iff.mpr hn
  have h2 : (if (l.length : Int) > 1 then (l.length : Int) else 1) = l.length := by split <;> omega
  rw [h2] at this ⊢
  exact this.2
def bent (l : List Int) (c p : Int) : List Int :=
  if (decide (draw c 1 9 = 1) && !decide (l = [])) = true then l.take (bentAt l c).toNat ++ [(g l (bentAt l c).toNat + 1) % p] ++ l.drop (bentAt l c + 1).toNat
  else if decide (draw c 1 9 = 2) = true then l ++ [draw c 3 2]
  else if decide (draw c 1 9 = 3) = true then l.dropLast
  else if decide (draw c 1 9 = 4) = true then l.reverse
  else if (decide (draw c 1 9 = 5) && !decide (l = [])) = true then l.take (bentAt l c).toNat ++ [g l (bentAt l c).toNat + g [p, -p] (draw c 4 2).toNat] ++ l.drop (bentAt l c + 1).toNat
  else if decide (draw c 1 9 = 6) = true then []
  else l
theorem bent_len (l : List Int) (c p : Int) : (bent l c p).length ≤ l.length + 1 := by
  unfold bent
  repeat' split
  all_goals (try simp only [List.length_append, List.length_take, List.length_drop, List.length_cons, List.length_nil, List.length_dropLast, List.length_reverse])
  all_goals omega
def SPOT : List Int := [0, 0, 0, 1, -1]
end RR
/-! RrExc: own words for errors: a list asked within an except suite, a caught error's class, defs that raise with no context. -/
namespace PySem
namespace HotL
open PySem PySem.Spec PyProof.Rows
variable {prog : Program} {w : World} {A : Around} {E : Value → Shared → Prop} {s : Shared}
/-- the end of a list's walk while an exception without context is handled -/
theorem list_end_hot {it l x1 : Addr} {i : Nat} {items : Array Value} {Q : Option Value → Shared → Prop} (hot : HotX.HotAt A x1 s.heap) (hxi : x1 ≠ it)
    (hit : s.heap.IsListIter it l i) (hl : s.heap.IsList l items) (hx : items[i]? = none)
    (hQ : ∀ h', Heap.ExtBut it s.heap h' → Q none { s with heap := h' }) : wpAny (model prog w) A (pyNext (.ref it)) Q E s := by
  obtain ⟨hh, o1, vs1, h1, d1, c1⟩ := hot
  obtain ⟨o, ho, hc, hd⟩ := id hit
  obtain ⟨ol, hol, _, nl, hdl⟩ := hl
  unfold pyNext
  refine wpAny_bind (wpAny_attempt (wpAny_callSpecial?_slot (name := Str.ofString "__next__") hit.typeIs slot_listiter_next
    (wpAny_call_entry slot_listiter_next hit.typeIs entry_listiter_next ?_ (args_listiter_next _))))
  show wpAny _ _ (field (.ref it) 0 >>= _) _ _ s
  refine wpAny_bind (wpAny_field ho hd (x := .ref l) rfl ?_)
  show wpAny _ _ (if (Value.ref l == Value.none) = true then _ else _) _ _ s
  rw [if_neg (show ¬ ((Value.ref l == Value.none) = true) from Bool.false_ne_true)]
  show wpAny _ _ (field (.ref it) 1 >>= _) _ _ s
  refine wpAny_bind (wpAny_field ho hd (x := .int i 0) rfl ?_)
  show wpAny _ _ (seqItems? (.ref l) >>= _) _ _ s
  refine wpAny_bind (wpAny_seqItems hol hdl ?_)
  simp only [Int.toNat_natCast, hx]
  refine wpAny_bind (wpAny_rule (wpAny_bind (wpAny_setField ho hd (by simp) ?_)))
  show wpAny _ _ (newExc (.type "StopIteration") [] >>= _) _ _ _
  refine wpAny_bind ?_
  simp only [newExc, newTuple]
  refine wpAny_bind (wpAny_newObj_type ?_ (by size_fits))
  refine wpAny_bind (m := firstArgMember _ _) (wpAny_of_eq (a := Value.none) (by first | rfl | (simp only [firstArgMember]; rfl)) ?_)
  refine wpAny_newObj_type ?_ (by size_fits)
  have h1' := (Heap.get?_update_other s.heap (Obj.mapFields (·.setIfInBounds 0 Value.none)) (Ne.symm hxi)).trans h1
  refine HotX.raiseNew_hot ⟨hh, o1, vs1, Heap.get?_push_of_some _ (Heap.get?_push_of_some _ h1'), d1, c1⟩ (Nat.ne_of_lt (Heap.lt_size (Heap.get?_push_of_some _ h1'))) (Heap.get?_push_size _ rfl) rfl (by first | (simp; done) | (simp; omega) | (simp only [Array.size_append]; simp; omega)) ?_
  refine wpAny_bind (wpAny_isInstance (T := "StopIteration") (b := true) ⟨_, Heap.get?_update_self _ (Heap.get?_push_size _ rfl) rfl, rfl⟩ isSubtype_stop ?_)
  refine wpAny_pure (hQ _ fun b o hb e => ?_)
  have e1 := (Heap.get?_update_other s.heap (Obj.mapFields (·.setIfInBounds 0 Value.none)) (Ne.symm hb)).trans e
  rw [Heap.get?_update_other _ _ (Nat.ne_of_gt (Heap.lt_size (Heap.get?_push_of_some _ e1)))]
  exact Heap.get?_push_of_some _ (Heap.get?_push_of_some _ e1)
theorem walks_hot {x1 : Addr} {o1 : Obj} {vs1 : Array Value} (hh : A.handled = some (.ref x1)) (d1 : o1.data = .fields vs1) (c1 : vs1[2]? = some .none) (I ax : Addr) (hne : ax ≠ I) (hx : x1 ≠ I) (items : Array Value) :
    Walks prog w A I [I, ax, x1] [I] items.size (fun i v => items[i]? = some v) (fun i h => h.IsListIter I ax i ∧ h.IsList ax items ∧ h.get? x1 = some o1) where
  sub := fun b hb => by simp at hb; simp [hb]
  frame := fun _ _ _ st hk => ⟨st.1.at fun o e => hk I (by simp) o e, st.2.1.at fun o e => hk ax (by simp) o e, hk x1 (by simp) _ st.2.2⟩
  item := fun i s Q E hi st hQ => by
    refine wpAny_pyNext_list_item st.1 st.2.1 (x := items[i]) (by simp [hi]) fun h' hit' hs' => ?_
    exact hQ _ h' s.toks (by simp [hi]) ⟨hit', st.2.1.extBut hs'.extBut hne, hs'.extBut x1 _ hx st.2.2⟩ fun b o hb e => hs'.extBut b o (fun h => hb (by simp [h])) e
  done := fun s Q E st hQ => list_end_hot ⟨hh, o1, vs1, st.2.2, d1, c1⟩ hx st.1 st.2.1 (by simp) fun h' he' => hQ h' s.toks fun b o hb e => he' b o (fun h => hb (by simp [h])) e
  self := fun _ _ _ _ st hQ => wpAny_pyIter_listiter st.1 hQ
end HotL
end PySem
namespace L2
open PySem PySem.Spec PyProof.Rows
section
variable {X : Cx}
/-- any(list) within an except suite: the caught error has no context -/
theorem cr_anyE {a : Addr} {oe : Obj} {pn : List (Addr × Obj)} {cls : Value} {d : Option Addr} (hz : L2N.Zn cls d oe) (hf : ∃ vs, oe.data = .fields vs) : CallR (X.suite a ((a, oe) :: pn)) (.builtin "any") (rAny X.K) := by
  intro pins s σ H vs us Q I r h
  obtain ⟨b, bs, rfl, hs, q⟩ := h
  obtain ⟨its, rv, hl, _⟩ := I.list hs
  rw [Vals.ref1 r]
  have hb := rv.bls
  obtain ⟨vs1, d1⟩ := hf
  have c1 := hz.2.2 vs1 d1
  obtain ⟨hget, _⟩ := I.pin (a, oe) (List.mem_append.mpr (.inl List.mem_cons_self))
  refine call_any_walk (iter_any hl.isList fun s₂ e2 st hne => ?_)
  subst e2
  have hxa : a ≠ s.heap.objs.size := Nat.ne_of_lt (Heap.lt_size hget)
  refine ⟨_, _, _, _, _, _, _, rfl, HotL.walks_hot (A := (X.suite a ((a, oe) :: pn)).A.in1) (o1 := oe) rfl d1 c1 _ b hne hxa its.toArray, ⟨st.1, st.2, Heap.get?_push_of_some _ hget⟩, truth_bools hb, fun h' tk hk => ?_⟩
  refine ⟨.bl _, H, I.kept fun b o eo => hk b o (fun hmem => ?_) (Heap.get?_push_of_some _ eo), ?_, q⟩
  · rcases List.mem_cons.mp hmem with e1 | hmem
    · exact absurd (e1 ▸ Heap.lt_size eo) (Nat.lt_irrefl _)
    · cases hmem
  · show Value.bool _ = Value.bool _
    rw [← any_range, hb, List.size_toArray, List.length_map]
/-- isinstance(e, c), e the error that the suite holds, of an own class told at the reading -/
def rIsX (K : PySem.W.Frag) (a : Addr) (cls : Value) (d : Option Addr) : List V → Hp → VK → Prop := fun xs H Q => ∃ D : Addr, cls = .ref D ∧ d = none ∧ ExcC K D ∧ rIsE K D a xs H Q
theorem call_isX {a : Addr} {oe : Obj} {pn : List (Addr × Obj)} {cls : Value} {d : Option Addr} (hz : Zc cls d oe) (hf : ∃ vs, oe.data = .fields vs) : CallR (X.suite a ((a, oe) :: pn)) (.builtin "isinstance") (rIsX X.K a cls d) := by
  intro pins s σ H xs us Q I r h
  obtain ⟨D, rfl, rfl, C, h⟩ := h
  exact call_isE C hz hf pins s σ H xs us Q I r h
theorem x_isX {a : Addr} {oe : Obj} {pn : List (Addr × Obj)} {cls : Value} {d : Option Addr} {e1 e2 : Expr} {tr : TA} {p1 pos : Pos} (K : PySem.W.Frag) (hK : X.K = K) (hz : L2N.Zn cls d oe) (hf : ∃ vs, oe.data = .fields vs) (hm : X.mg "isinstance" = none) (hg : Gl X "isinstance") (ha : PA (X.suite a ((a, oe) :: pn)) [e1, e2] tr)
    (he : starEach [e1, e2] X.env = (false, eval e1 X.env) :: starEach [e2] X.env := by rfl) (hpl : (backTo pos (starEach [e2] X.env)).any (·.1) = false := by rfl) : PE (X.suite a ((a, oe) :: pn)) (.Call (.Name "isinstance" p1) [e1, e2] [] pos) (tCB (rIsX K a cls d) tr) := by
  subst hK; exact pe_callB (call_isX hz.zc hf) hg hm (by decide +kernel) ha (he := he) (hpl := hpl)
theorem x_anyE {a : Addr} {oe : Obj} {pn : List (Addr × Obj)} {cls : Value} {d : Option Addr} {e : Expr} {tr : TA} {p1 pos : Pos} (K : PySem.W.Frag) (hK : X.K = K) (hz : L2N.Zn cls d oe) (hf : ∃ vs, oe.data = .fields vs) (hm : X.mg "any" = none) (hg : Gl X "any") (ha : PA (X.suite a ((a, oe) :: pn)) [e] tr)
    (he : starEach [e] X.env = (false, eval e X.env) :: starEach [] X.env := by rfl) (hpl : (backTo pos (starEach [] X.env)).any (·.1) = false := by rfl) : PE (X.suite a ((a, oe) :: pn)) (.Call (.Name "any" p1) [e] [] pos) (tCB (rAny K) tr) := by
  subst hK; exact pe_callB (cr_anyE hz hf) hg hm (by decide +kernel) ha (he := he) (hpl := hpl)
end
theorem passN {X : Cx} : Passes (L2N.CX X.prog X.w) X E0 := fun _ _ _ _ _ _ _ h => by
  obtain ⟨_, _, _, _, _, _, _, _, _, _, _, _, z⟩ := h
  exact z.elim
theorem takesN0 {X : Cx} : L2N.Takes X (fun _ _ _ _ => False) := fun _ _ x => by
  obtain ⟨_, _, _, _, _, _, _, _, _, _, _, _, _, _, _, _, z⟩ := x
  exact z.elim
section
variable {P : Program} {w : World} {K : PySem.W.Frag} {mg : Str → Option Value} {base : Heap}
/-- a def that may raise, its errors without context -/
theorem Fun.okN {x qual : Str} {st : Stmt} {f : Addr} {fd : FuncData} {N ps : List Str} {k : Nat} {sp : Sp} (F : Fun K x qual st f fd) (S : FnScope N ps (defScope st)) (len : ∀ vs H Q E, sp vs H Q E → vs.length = ps.length)
    (hbody : ∀ (cdv : Value) (A : Around) (outer : List Env) (s : Shared) (H : Hp) (vs : List V) (Q : VK) (E : XK), Room k (A.deeper (envOfC qual (defScope st) s.heap.objs.size f cdv)) → sp vs H Q E →
      ∃ t, PSs (cxOf (L2N.CX P w) P w K mg base N qual (defScope st) f cdv A outer s H E) (defBody st) t ∧ t { nx := fun _ H' => Q .non H', rt := Q } (start N vs) H) : FnOk P w K mg base (L2N.CX P w) (k + 1) f fd ps sp := by
  obtain ⟨oc, od, kV, doc, pm, an, cdv, ct, osl, rfl, lk, hcd⟩ := F.ex
  exact fn_of lk hcd S len fun A outer s H vs Q E hr hsp => hbody cdv A outer s H vs Q E hr hsp
end
end L2
namespace RK
open PySem L2 Evl RR PyProof.Rows
section
variable {K : PySem.W.Frag} {σ : L2.St} {H : Hp} {ta tb te : TE}
/-- isinstance of the caught error -/
theorem ev_isX {a D : Addr} {cls : Value} {d : Option Addr} {b : Bool} {c : V} {cv : Value} (ha : Ev ta σ H (.ref a)) (hb : Ev tb σ H c) (hcls : cls = .ref D) (hd : d = none) (hC : ExcC K D) (hcv : ∀ u, RelV c u → u = cv) (hk : PySem.W.kitOne K (.ref D) cv = some b) :
    Ev (tCB (rIsX K a cls d) (tCons ta (tCons tb tNil))) σ H (.bl b) := fun H1 e Q q =>
  ha H1 e _ fun H2 e2 => hb H2 (e.trans e2) _ fun H3 e3 => ⟨D, hcls, hd, hC, c, cv, b, rfl, hcv, hk, q H3 (e2.trans e3)⟩
theorem ev_isNref {a : Addr} (ha : Ev ta σ H (.ref a)) (hb : Ev tb σ H .non) : Ev (tOp rIsN ta tb) σ H (.bl false) := ev_op ha hb fun H1 e Q q => (show V.non = V.non ∧ Q (.bl (decide (V.ref a = V.non))) H1 from ⟨rfl, by rw [decide_eq_false (fun z => by cases z)]; exact q H1 (Ex.refl H1)⟩)
theorem ev_isNnon (ha : Ev ta σ H .non) (hb : Ev tb σ H .non) : Ev (tOp rIsN ta tb) σ H (.bl true) := ev_op ha hb fun H1 e Q q => (show V.non = V.non ∧ Q (.bl (decide (V.non = V.non))) H1 from ⟨rfl, by rw [decide_eq_true rfl]; exact q H1 (Ex.refl H1)⟩)
end
/-- a built-in class above an own one -/
theorem kit_blt {K : PySem.W.Frag} {C : Addr} {n : String} {b : Bool} (h1 : PySem.W.kitMeta n = true) (h2 : PySem.W.subIn K (.ref C) (.type n) = some b) : PySem.W.kitOne K (.ref C) (.type n) = some b := by
  unfold PySem.W.kitOne
  rw [if_neg (show ¬ (Value.ref C == Value.type n) = true from fun z => nomatch (beq_iff_eq.mp z))]
  show (if PySem.W.kitMeta n = true then PySem.W.subIn K (.ref C) (.type n) else none) = some b
  rw [if_pos h1]
  exact h2
end RK
/-! RrRef: what is handed in is any thing: whether it is whole, a prime, a list of rests; calls that never come back. -/
namespace RK
open PySem L2 Evl RR PyProof.Rows
section
variable {K : PySem.W.Frag} {H H' : Hp} {σ : L2.St} {ta tb te tl : TE} {t : TT} {x : V} {D : Ends} {tz : TS}
/-- what is no list -/
inductive NoL (K : PySem.W.Frag) (H : Hp) : V → Prop
  | non : NoL K H .non
  | bl (b : Bool) : NoL K H (.bl b)
  | int (i : Int) : NoL K H (.int i)
  | str (s : Str) : NoL K H (.str s)
  | tup {a : Addr} {xs : List V} (h : H a = some (.tup xs)) : NoL K H (.ref a)
  | dct {a : Addr} {kvs : List (Key × V)} (h : H a = some (.dK kvs)) : NoL K H (.ref a)
theorem NoL.up (h : NoL K H x) (e : Ex H H') : NoL K H' x := by
  cases h with
  | non => exact .non
  | bl b => exact .bl b
  | int i => exact .int i
  | str s => exact .str s
  | tup h => exact .tup (e _ _ h)
  | dct h => exact .dct (e _ _ h)
/-- anything that is handed in -/
inductive Thing (K : PySem.W.Frag) (H : Hp) : V → Prop
  | no {x : V} (h : NoL K H x) : Thing K H x
  | lst {a : Addr} {xs : List V} (h : SqL K H a xs) : Thing K H (.ref a)
theorem Thing.up (h : Thing K H x) (e : Ex H H') : Thing K H' x := by
  cases h with
  | no h => exact .no (h.up e)
  | lst h => exact .lst (ex_l e h)
def whole : V → Bool
  | .int _ => true
  | _ => false
def isIntV : V → Bool
  | .int _ => true
  | .bl _ => true
  | _ => false
def isBlV : V → Bool
  | .bl _ => true
  | _ => false
theorem isi_any {n : String} {b : Bool} {tn : String} (ha : Ev ta σ H x) (hty : ∀ H1, Ex H H1 → TyX K H1 x (.type tn)) (hk : PySem.W.kitOne K (.type tn) (.type n) = some b) : Ev (tCB (rIsi K) (tCons ta (tCons (tC (.ty n)) tNil))) σ H (.bl b) :=
  ev_isi ha (hty H (Ex.refl H)) hk fun e => hty _ e
theorem ev_tInt (h : Thing K H x) (ha : Ev ta σ H x) : Ev (tCB (rIsi K) (tCons ta (tCons (tC (.ty "int")) tNil))) σ H (.bl (isIntV x)) := by
  cases h with
  | no h =>
    cases h with
    | non => exact isi_any (b := false) ha (fun _ _ => .base .non) (kit_ty (by decide +kernel))
    | bl b => exact isi_any (b := true) ha (fun _ _ => .base (.bl b)) (kit_ty (by decide +kernel))
    | int i => exact isi_any (b := true) ha (fun _ _ => .base (.int i)) (kit_ty (by decide +kernel))
    | str s => exact isi_any (b := false) ha (fun _ _ => .base (.str s)) (kit_ty (by decide +kernel))
    | tup h => exact isi_any (b := false) ha (fun _ e => .base (.tup (e _ _ h))) (kit_ty (by decide +kernel))
    | dct h => exact isi_any (b := false) ha (fun _ e => .base (.dK (e _ _ h))) (kit_ty (by decide +kernel))
  | lst h => exact isi_any (b := false) ha (fun _ e => tyx_sql (ex_l e h)) (kit_ty (by decide +kernel))
theorem ev_tBool (h : Thing K H x) (ha : Ev ta σ H x) : Ev (tCB (rIsi K) (tCons ta (tCons (tC (.ty "bool")) tNil))) σ H (.bl (isBlV x)) := by
  cases h with
  | no h =>
    cases h with
    | non => exact isi_any (b := false) ha (fun _ _ => .base .non) (kit_ty (by decide +kernel))
    | bl b => exact isi_any (b := true) ha (fun _ _ => .base (.bl b)) (kit_ty (by decide +kernel))
    | int i => exact isi_any (b := false) ha (fun _ _ => .base (.int i)) (kit_ty (by decide +kernel))
    | str s => exact isi_any (b := false) ha (fun _ _ => .base (.str s)) (kit_ty (by decide +kernel))
    | tup h => exact isi_any (b := false) ha (fun _ e => .base (.tup (e _ _ h))) (kit_ty (by decide +kernel))
    | dct h => exact isi_any (b := false) ha (fun _ e => .base (.dK (e _ _ h))) (kit_ty (by decide +kernel))
  | lst h => exact isi_any (b := false) ha (fun _ e => tyx_sql (ex_l e h)) (kit_ty (by decide +kernel))
theorem ev_tNoL (h : NoL K H x) (ha : Ev ta σ H x) : Ev (tCB (rIsi K) (tCons ta (tCons (tC (.ty "list")) tNil))) σ H (.bl false) := by
  cases h with
  | non => exact isi_any ha (fun _ _ => .base .non) (kit_ty (by decide +kernel))
  | bl b => exact isi_any ha (fun _ _ => .base (.bl b)) (kit_ty (by decide +kernel))
  | int i => exact isi_any ha (fun _ _ => .base (.int i)) (kit_ty (by decide +kernel))
  | str s => exact isi_any ha (fun _ _ => .base (.str s)) (kit_ty (by decide +kernel))
  | tup h => exact isi_any ha (fun _ e => .base (.tup (e _ _ h))) (kit_ty (by decide +kernel))
  | dct h => exact isi_any ha (fun _ e => .base (.dK (e _ _ h))) (kit_ty (by decide +kernel))
theorem whole_is (h : Thing K H x) : whole x = (isIntV x && !isBlV x) := by
  cases h with
  | no h => cases h <;> rfl
  | lst h => rfl
/-- a rest by p -/
def okRest (p : Int) : V → Bool
  | .int i => decide (0 ≤ i) && decide (i < p)
  | _ => false
theorem okRest_not {p : Int} (h : whole x = false) : okRest p x = false := by
  cases x <;> first | rfl | cases h
/-- what are_rests says of it -/
def RestsAre (K : PySem.W.Frag) (H : Hp) (p : Int) (x : V) (b : Bool) : Prop := (NoL K H x ∧ b = false) ∨ (∃ a xs, x = .ref a ∧ SqL K H a xs ∧ xs.length ≤ 30000 ∧ (∀ y ∈ xs, Thing K H y) ∧ b = xs.all (okRest p))
theorem RestsAre.up {p : Int} {b : Bool} (h : RestsAre K H p x b) (e : Ex H H') : RestsAre K H' p x b := by
  rcases h with ⟨h, hb⟩ | ⟨a, xs, h1, h2, h3, h4, h5⟩
  · exact .inl ⟨h.up e, hb⟩
  · exact .inr ⟨a, xs, h1, ex_l e h2, h3, fun y hy => (h4 y hy).up e, h5⟩
theorem rests_il {p : Int} {a : Addr} {ns : List Int} (h : SqL K H a (il ns)) (hl : ns.length ≤ 2000) (hr : Rs p ns) : RestsAre K H p (.ref a) true := .inr ⟨a, il ns, rfl, h, by rw [il_len]; exact Nat.le_trans hl (by decide), fun y hy => by
  obtain ⟨n, _, rfl⟩ := List.mem_map.mp hy
  exact .no (.int n), by
  symm
  rw [List.all_eq_true]
  intro y hy
  obtain ⟨n, hn, rfl⟩ := List.mem_map.mp hy
  have := hr n hn
  show (decide (0 ≤ n) && decide (n < p)) = true
  rw [decide_eq_true this.1, decide_eq_true this.2]
  rfl⟩
/-- what check_prime says of it -/
def primeOk : V → Bool
  | .int p => decide (2 ≤ p) && decide (p ≤ 997) && !((List.range 30).any fun (i : Nat) => decide ((2 : Int) + (i : Int) < p) && decide (p % ((2 : Int) + (i : Int)) = 0))
  | _ => false
/-- what never comes back -/
def Nv (te : TE) (σ : L2.St) (H : Hp) : Prop := ∀ H1, Ex H H1 → ∀ Q : VK, te σ H1 Q
theorem s_retNv (h : Nv te σ H) : tRet te D σ H := h H (Ex.refl H) _
theorem s_dropNv (h : Nv te σ H) : tDrop te D σ H := h H (Ex.refl H) _
theorem q_dropNv (h : Nv te σ H) : tSeq (tDrop te) tz D σ H := h H (Ex.refl H) _
theorem q_asgNv {k : Nat} (h : Nv te σ H) : tSeq (tAsg te (gName k)) tz D σ H := h H (Ex.refl H) _
theorem nv_ifT (c : EvT t σ H true) (h : Nv ta σ H) : Nv (tIf t ta tb) σ H := fun H1 e Q => c H1 e _ fun H2 e2 => by
  show (if true = true then ta σ H2 Q else tb σ H2 Q)
  rw [if_pos rfl]
  exact h H2 (e.trans e2) Q
theorem nv_ifF (c : EvT t σ H false) (h : Nv tb σ H) : Nv (tIf t ta tb) σ H := fun H1 e Q => c H1 e _ fun H2 e2 => by
  show (if false = true then ta σ H2 Q else tb σ H2 Q)
  rw [if_neg Bool.false_ne_true]
  exact h H2 (e.trans e2) Q
/-- a call that never comes back: at every heap onwards its promise is met without a word of what comes behind -/
theorem nv_call {sp : Sp} {E : XK} {ta : TA} {vs : List V} (h : EvA ta σ H vs) (k : ∀ H1, Ex H H1 → ∀ Q : VK, sp vs H1 Q E) : Nv (tCall sp [] E ta) σ H := fun H1 e Q =>
  h H1 e _ fun H2 e2 => by
    show sp (vs ++ []) H2 Q E
    rw [List.append_nil]
    exact k H2 (e.trans e2) Q
theorem nv_if {b : Bool} (c : EvT t σ H b) (h1 : b = true → Nv ta σ H) (h2 : b = false → Nv tb σ H) : Nv (tIf t ta tb) σ H := by
  cases b with
  | true => exact nv_ifT c (h1 rfl)
  | false => exact nv_ifF c (h2 rfl)
theorem nv_callP {sp : Sp} {E : XK} {ta : TA} {φs : List Wd} (h : EvPs ta σ H φs) (k : ∀ vs H1, Ex H H1 → AllW H1 φs vs → ∀ Q : VK, sp vs H1 Q E) : Nv (tCall sp [] E ta) σ H := fun H1 e Q =>
  h H1 e _ fun vs H2 e2 hw => by
    show sp (vs ++ []) H2 Q E
    rw [List.append_nil]
    exact k vs H2 (e.trans e2) hw Q
/-- a comprehension over a list of things -/
theorem el_lcV {xs : List V} {j : Nat} {vs : List Nat} (f : V → V) (h : EvR K tl σ H xs) (hz : xs.length ≤ 40000) (hw : ∀ x, wipe ((wipe σ vs).set j (some x)) vs = wipe σ vs)
    (he : ∀ x H1, Ex H H1 → x ∈ xs → Ev te ((wipe σ vs).set j (some x)) H1 (f x)) : EvL (tLc (iList K tl) (gName j) tYes te vs) σ H (xs.map f) := fun H0 e Q q => h H0 e _ fun a H1 e1 hx => ⟨a, rfl, ⟨_, hx⟩, fun Dl hD =>
  lc_list (xs := xs) (Cw H1 (fun _ => true) (fun i => f (xs.getD i .non)) Dl) ⟨hD, Ex.new hD, upd_same⟩ (fun i H' _ p => ex_l p.2.1 hx) (fun i x H' hi p => by
      have hi2 : i < xs.length := (List.getElem?_eq_some_iff.mp hi).1
      have ex : x = xs.getD i .non := by
        rw [List.getD_eq_getElem?_getD, hi]
        rfl
      rw [ex]
      exact ⟨hw _, cw_turn p (by omega) (fun H2 _ Q q => q H2 (Ex.refl H2)) (fun _ => he _ H1 (e.trans e1) (ex ▸ List.mem_of_getElem? hi))⟩) (fun H' p => q Dl H' (fresh_back e1 p.1) (e1.trans p.2.1) (by
      have := p.2.2
      rw [given_all] at this
      rw [this]
      congr 2
      apply List.ext_getElem?
      intro i
      rw [List.getElem?_map, List.getElem?_map]
      by_cases hi : i < xs.length
      · rw [List.getElem?_range hi, List.getElem?_eq_getElem hi]
        show some (f (xs.getD i .non)) = some (f xs[i])
        rw [List.getD_eq_getElem?_getD, List.getElem?_eq_getElem hi]
        rfl
      · rw [List.getElem?_eq_none (by simp; omega), List.getElem?_eq_none (by omega)]
        rfl))⟩
/-! ### what is refused at a door, and by which class -/
section
variable (K) (H) (cP cR cW cF cB : Addr)
inductive Ref3 : V → V → V → Addr → Prop
  | prime {P R W : V} (h : Thing K H P) (hb : primeOk P = false) : Ref3 P R W cP
  | rule {p : Int} {R W : V} (hp : primeOk (.int p) = true) (h : RestsAre K H p R false) : Ref3 (.int p) R W cR
  | row {p : Int} {R W : V} (hp : primeOk (.int p) = true) (h : RestsAre K H p R true) (h2 : RestsAre K H p W false) : Ref3 (.int p) R W cW
inductive Ref2 : V → V → Addr → Prop
  | prime {P W : V} (h : Thing K H P) (hb : primeOk P = false) : Ref2 P W cP
  | row {p : Int} {W : V} (hp : primeOk (.int p) = true) (h2 : RestsAre K H p W false) : Ref2 (.int p) W cW
def placeOk : V → Bool
  | .int m => decide (0 ≤ m)
  | _ => false
/-- a prime, a rule, a row that may go on -/
structure Goes (p : Int) (a b : Addr) (ns ms : List Int) : Prop where
  hp : primeOk (.int p) = true
  h1 : SqL K H a (il ns)
  r1 : Rs p ns
  l1 : ns.length ≤ 2000
  h2 : SqL K H b (il ms)
  r2 : Rs p ms
  l2 : ms.length ≤ 2000
inductive GoX : V → V → V → V → Addr → Prop
  | three {P R W M : V} {C : Addr} (h : Ref3 K H cP cR cW P R W C) : GoX P R W M C
  | few {p : Int} {a b : Addr} {ns ms : List Int} {M : V} (g : Goes K H p a b ns ms) (h : ms.length < ns.length) : GoX (.int p) (.ref a) (.ref b) M cF
  | place {p : Int} {a b : Addr} {ns ms : List Int} {M : V} (g : Goes K H p a b ns ms) (h : ns.length ≤ ms.length) (hM : Thing K H M) (hb : placeOk M = false) : GoX (.int p) (.ref a) (.ref b) M cB
end
section
variable {cP cR cW cF cB C : Addr} {P R W M : V}
theorem Ref3.up (h : Ref3 K H cP cR cW P R W C) (e : Ex H H') : Ref3 K H' cP cR cW P R W C := by
  cases h with
  | prime h hb => exact .prime (h.up e) hb
  | rule hp h => exact .rule hp (h.up e)
  | row hp h h2 => exact .row hp (h.up e) (h2.up e)
theorem Ref2.up (h : Ref2 K H cP cW P W C) (e : Ex H H') : Ref2 K H' cP cW P W C := by
  cases h with
  | prime h hb => exact .prime (h.up e) hb
  | row hp h2 => exact .row hp (h2.up e)
theorem Goes.up {p : Int} {a b : Addr} {ns ms : List Int} (g : Goes K H p a b ns ms) (e : Ex H H') : Goes K H' p a b ns ms := ⟨g.hp, ex_l e g.h1, g.r1, g.l1, ex_l e g.h2, g.r2, g.l2⟩
theorem Goes.rule {p : Int} {a b : Addr} {ns ms : List Int} (g : Goes K H p a b ns ms) : RestsAre K H p (.ref a) true := rests_il g.h1 g.l1 g.r1
theorem Goes.row {p : Int} {a b : Addr} {ns ms : List Int} (g : Goes K H p a b ns ms) : RestsAre K H p (.ref b) true := rests_il g.h2 g.l2 g.r2
theorem GoX.up (h : GoX K H cP cR cW cF cB P R W M C) (e : Ex H H') : GoX K H' cP cR cW cF cB P R W M C := by
  cases h with
  | three h => exact .three (h.up e)
  | few g h => exact .few (g.up e) h
  | place g h hM hb => exact .place (g.up e) h (hM.up e) hb
end
end
end RK
/-! RrSeven: bags (lists of mixed things that grow), list(range(n)), range with a step. -/
namespace RK
open PySem L2 Evl RR PyProof.Rows
section
variable {K : PySem.W.Frag} {σ : L2.St} {H H' G : Hp} {ta' tb' : TA} {ta tb tc te tl : TE} {t u : TT} {x y z v : V} {xs ys zs : List V} {ns : List Int} {i j : Int} {a d p : Addr} {D : Ends} {tu tw tz : TS} {φ ψ : Wd} {φs : List Wd}
/-- all but one object -/
def hide (H : Hp) (d : Addr) : Hp := fun b => if b = d then none else H b
theorem hide_no : hide H d d = none := if_pos rfl
theorem hide_at (h : p ≠ d) : hide H d p = H p := if_neg h
theorem hide_ex : Ex (hide H d) H := fun b o h => by
  by_cases c : b = d
  · rw [c, hide_no] at h
    cases h
  · rw [hide_at c] at h
    exact h
theorem hide_up (e : Ex G H) (h : G d = none) : Ex G (hide H d) := fun b o hb => by
  rw [hide_at (ne_of_none hb h)]
  exact e b o hb
/-- a list of things of which words hold, ahead of it -/
structure Bag (φs : List Wd) (G : Hp) (d : Addr) (H : Hp) (xs : List V) : Prop where
  no : G d = none
  up : Ex G H
  at_ : H d = some (.lst xs)
  all : AllW G φs xs
theorem Bag.mono (b : Bag φs G d H xs) (e : Ex H H') : Bag φs G d H' xs := ⟨b.no, b.up.trans e, e _ _ b.at_, b.all⟩
theorem allW_snoc : ∀ {φs : List Wd} {xs : List V}, AllW H φs xs → φ y H → AllW H (φs ++ [φ]) (xs ++ [y])
  | [], _, h, k => by
    rw [show _ = [] from h]
    exact ⟨y, [], rfl, k, rfl⟩
  | _ :: _, _, ⟨z, zs, h1, h2, h3⟩, k => by
    rw [h1]
    exact ⟨z, zs ++ [y], rfl, h2, allW_snoc h3 k⟩
theorem allW_all {P : V → Prop} : ∀ {φs : List Wd} {xs : List V}, AllW H φs xs → (∀ φ ∈ φs, ∀ y, φ y H → P y) → ∀ x ∈ xs, P x
  | [], _, h, _, x, hx => by
    rw [show _ = [] from h] at hx
    cases hx
  | φ :: φs, _, ⟨z, zs, h1, h2, h3⟩, k, x, hx => by
    rw [h1] at hx
    cases hx with
    | head => exact k φ List.mem_cons_self _ h2
    | tail _ hx => exact allW_all h3 (fun ψ hψ => k ψ (List.mem_cons_of_mem _ hψ)) x hx
theorem EvP.imp (h : EvP te σ H φ) (k : ∀ v H1, φ v H1 → ψ v H1) : EvP te σ H ψ := fun H1 e Q q => h H1 e Q fun v H2 e2 hv => q v H2 e2 (k v H2 hv)
/-- a new bag -/
theorem q_asgBag {k : Nat} (m : ∀ φ ∈ φs, Mono φ) (h : EvPs ta' σ H φs) (hz : φs.length ≤ 100000) (q : ∀ l vs G, G l = none → Ex H G → Bag φs G l (upd G l (.lst vs)) vs → tz D (σ.set k (some (.ref l))) (upd G l (.lst vs))) :
    tSeq (tAsg (tLst ta') (gName k)) tz D σ H := h H (Ex.refl H) _ fun vs H1 e1 hv => ⟨sz_of (by rw [allW_len hv]; exact hz), fun p hp => q p vs H1 hp e1 ⟨hp, Ex.new hp, upd_same, hv⟩⟩
/-- a bag grows by a new list, by a value -/
theorem bag_snoc (m : ∀ φ ∈ φs, Mono φ) (b : Bag φs G d H xs) (e : Ex H H') (hy : φ y (hide H' d)) : Bag (φs ++ [φ]) (hide H' d) d (upd H' d (.lst (xs ++ [y]))) (xs ++ [y]) where
  no := hide_no
  up := Ex.mut hide_ex hide_no
  at_ := upd_same
  all := allW_snoc (allW_up m b.all (hide_up (b.up.trans e) b.no)) hy
theorem s_appBagL (m : ∀ φ ∈ φs, Mono φ) (b : Bag φs G d H xs) (hz : φs.length < 100000) (ha : Ev ta σ H (.ref d)) (h : EvL te σ H ys) (hφ : ∀ p H1, H1 p = some (.lst ys) → φ (.ref p) H1) (k : ∀ G' H' zs, Ex G G' → Bag (φs ++ [φ]) G' d H' zs → D.nx σ H') :
    tDrop (tBM K "list" rAppend ta (tCons te tNil)) D σ H := ha H (Ex.refl H) _ fun H1 e1 =>
  ⟨.inl ⟨rfl, _, sq_of (e1 d _ b.at_)⟩, h H1 e1 _ fun p H2 np e2 hp => ⟨d, xs, .ref p, rfl, rfl, e2 d _ (e1 d _ b.at_), sz_lt (by rw [allW_len b.all]; exact hz),
    k _ _ _ (hide_up (b.up.trans (e1.trans e2)) b.no) (bag_snoc m b (e1.trans e2) (hφ p _ (by rw [hide_at (ne_of_none (e1 d _ b.at_) np).symm]; exact hp)))⟩⟩
theorem q_appBagV (m : ∀ φ ∈ φs, Mono φ) (b : Bag φs G d H xs) (hz : φs.length < 100000) (ha : Ev ta σ H (.ref d)) (h : Ev te σ H v) (hφ : ∀ H1, φ v H1) (k : ∀ G' H' zs, Ex G G' → Bag (φs ++ [φ]) G' d H' zs → tz D σ H') :
    tSeq (tDrop (tBM K "list" rAppend ta (tCons te tNil))) tz D σ H := ha H (Ex.refl H) _ fun H1 e1 =>
  ⟨.inl ⟨rfl, _, sq_of (e1 d _ b.at_)⟩, h H1 e1 _ fun H2 e2 => ⟨d, xs, v, rfl, rfl, e2 d _ (e1 d _ b.at_), sz_lt (by rw [allW_len b.all]; exact hz),
    k _ _ _ (hide_up (b.up.trans (e1.trans e2)) b.no) (bag_snoc m b (e1.trans e2) (hφ _))⟩⟩
/-- list(range(n)) -/
theorem el_listRg {n : Int} (h : Ev te σ H (.int n)) (hn : 0 ≤ n ∧ n ≤ 1000) : EvL (tLstRg (tRg1 te)) σ H (il ((List.range n.toNat).map fun (k : Nat) => (k : Int))) := fun H1 e Q q =>
  h H1 e _ fun H2 e2 => ⟨n, rfl, RgOk.of_le (by omega) (by omega) (by omega) (by omega), fun p hp => by
    refine q p _ (fresh_back e2 hp) (e2.trans (Ex.new hp)) ?_
    rw [upd_same]
    congr 2
    unfold rgV il
    rw [List.map_map, show n - 0 = n by omega]
    apply List.map_congr_left
    intro k _
    show V.int (0 + (k : Int)) = V.int (k : Int)
    rw [Int.zero_add]⟩
/-- for i in range(0, n, c) -/
theorem q_forR3 {k : Nat} {n c : Int} {m : Nat} (h : EvA ta' σ H [.int 0, .int n, .int c]) (hr : RgC 0 n c m) (Pv : Nat → L2.St → Hp → Prop) (h0 : ∀ H1, Ex H H1 → Pv 0 σ H1)
    (hs : ∀ (i : Nat) σ' H', i < m → Pv i σ' H' → tu { D with nx := Pv (i + 1), ct := Pv (i + 1), bk := tz D } (σ'.set k (some (.int ((i : Int) * c)))) H') (hd : ∀ σ' H', Pv m σ' H' → tz D σ' H') : tSeq (tFor (iRng3 ta') (gName k) tu) tz D σ H :=
  h H (Ex.refl H) _ fun H1 e => ⟨0, n, c, m, rfl, hr, for_rangeC (D := { D with nx := tz D }) Pv (h0 H1 e) (fun i σ' H' hi p => by
    rw [Int.zero_add]
    exact hs i σ' H' hi p) hd⟩
theorem q_parLV {k l : Nat} (h1 : EvL ta σ H xs) (h2 : Ev tb σ H y) (q : ∀ p H1, H p = none → Ex H H1 → H1 p = some (.lst xs) → tz D ((σ.set k (some (.ref p))).set l (some y)) H1) :
    tSeq (tPar k l (tCons ta (tCons tb tNil))) tz D σ H :=
  h1 H (Ex.refl H) _ fun p H1 n1 e1 g1 => h2 H1 e1 _ fun H2 e2 => ⟨_, _, rfl, q p H2 n1 (e1.trans e2) (e2 _ _ g1)⟩
end
/-! ### what the law draws -/
/-- the steps of law 7 -/
def stepsN (m : Nat) : Nat := (m + m / 6) / (1 + m / 6)
theorem rgc_steps {m : Nat} (h : m ≤ 63) : RgC 0 (m : Int) (1 + (m : Int) / 6) (stepsN m) := by
  have : ∀ m : Nat, m < 64 → Builtin.Range.small 0 (m : Int) (1 + (m : Int) / 6) = true ∧ Builtin.Range.rangeSize 0 (m : Int) (1 + (m : Int) / 6) = (stepsN m : Int) := by decide +kernel
  have t := this m (by omega)
  exact ⟨by omega, by omega, t.1, t.2⟩
theorem steps_at {m k : Nat} (h : m ≤ 63) (hk : k < stepsN m) : (k : Int) * (1 + (m : Int) / 6) < m := by
  have : ∀ m : Nat, m < 64 → ∀ k : Nat, k < stepsN m → (k : Int) * (1 + (m : Int) / 6) < m := by decide +kernel
  exact this m (by omega) k hk
theorem steps_le {m : Nat} (h : m ≤ 63) : stepsN m ≤ 63 := by
  have : ∀ m : Nat, m < 64 → stepsN m ≤ 63 := by decide +kernel
  exact this m (by omega)
/-- no prime: a product -/
theorem prod_no {a b : Int} (ha : 2 ≤ a ∧ a ≤ 30) (hb : 2 ≤ b) : primeOk (.int (a * b)) = false := by
  have hlt : a < a * b := by
    have : a * 2 ≤ a * b := Int.mul_le_mul_of_nonneg_left hb (by omega)
    omega
  show (decide (2 ≤ a * b) && decide (a * b ≤ 997) && !((List.range 30).any _)) = false
  rw [Bool.and_eq_false_iff]
  right
  rw [Bool.not_eq_false', List.any_eq_true]
  refine ⟨(a - 2).toNat, List.mem_range.mpr (by omega), ?_⟩
  have e : (2 : Int) + ((a - 2).toNat : Int) = a := by omega
  rw [e, Bool.and_eq_true, decide_eq_true_eq, decide_eq_true_eq]
  exact ⟨hlt, Int.mul_emod_right a b⟩
theorem big_no {p : Int} (h : 997 < p) : primeOk (.int p) = false := by
  show (decide (2 ≤ p) && decide (p ≤ 997) && _) = false
  rw [decide_eq_false (show ¬ p ≤ 997 by omega), Bool.and_false, Bool.false_and]
theorem small_no {p : Int} (h : p < 2) : primeOk (.int p) = false := by
  show (decide (2 ≤ p) && decide (p ≤ 997) && _) = false
  rw [decide_eq_false (show ¬ 2 ≤ p by omega), Bool.false_and, Bool.false_and]
/-- what the class with this number is told as -/
def dueB (k : Nat) : List Bool := [decide ((k : Int) = 0), decide ((k : Int) = 1), decide ((k : Int) = 2), decide ((k : Int) = 3), decide ((k : Int) = 4), decide ((k : Int) = 5), false, true]
/-- words of what is handed in -/
def wNoPrime (K : PySem.W.Frag) : Wd := fun y H => Thing K H y ∧ primeOk y = false
def wBad (K : PySem.W.Frag) : Wd := fun y H => RestsAre K H 5 y false
def wNoPlace (K : PySem.W.Frag) : Wd := fun y H => Thing K H y ∧ placeOk y = false
def wFew (K : PySem.W.Frag) : Wd := fun y H => ∃ (b : Addr) (ms : List Int), y = .ref b ∧ SqL K H b (il ms) ∧ Rs 5 ms ∧ ms.length < 3
section
variable {K : PySem.W.Frag} {σ : L2.St} {H H' G : Hp} {te : TE} {ta : TA} {v : V} {xs : List V}
theorem mono_np : Mono (wNoPrime K) := fun _ _ _ e h => ⟨h.1.up e, h.2⟩
theorem mono_bad : Mono (wBad K) := fun _ _ _ e h => h.up e
theorem mono_npl : Mono (wNoPlace K) := fun _ _ _ e h => ⟨h.1.up e, h.2⟩
theorem mono_few : Mono (wFew K) := fun _ _ _ e ⟨b, ms, h1, h2, h3, h4⟩ => ⟨b, ms, h1, ex_l e h2, h3, h4⟩
/-- a list of things, one of which is no rest -/
theorem bad_list {a : Addr} (h : SqL K H a xs) (hl : xs.length ≤ 2000) (ht : ∀ y ∈ xs, Thing K H y) (hb : xs.all (okRest 5) = false) : RestsAre K H 5 (.ref a) false := .inr ⟨a, xs, rfl, h, Nat.le_trans hl (by decide), ht, hb.symm⟩
theorem ep_bad (h : EvL te σ H xs) (hl : xs.length ≤ 2000) (ht : ∀ y ∈ xs, ∀ H, NoL K H y) (hb : xs.all (okRest 5) = false) : EvP te σ H (wBad K) := (ep_m (em_of_l h)).imp fun v H1 ⟨p, e, hp⟩ => by
  subst e
  exact bad_list (sq_of hp) hl (fun y hy => .no (ht y hy H1)) hb
theorem ep_badV (h : Ev te σ H v) (hn : ∀ H, NoL K H v) : EvP te σ H (wBad K) := (ep_v h).imp fun y H1 e => by
  rw [show y = v from e]
  exact .inl ⟨hn H1, rfl⟩
theorem ep_badT {ta : TA} {φs : List Wd} (m : ∀ φ ∈ φs, Mono φ) (h : EvPs ta σ H φs) (hz : φs.length ≤ 100000) : EvP (tTup ta) σ H (wBad K) := (ep_t m h hz).imp fun y H1 ⟨T, vs, e, hT, _⟩ => by
  subst e
  exact .inl ⟨.tup hT, rfl⟩
theorem ep_badD : EvP tDNewK σ H (wBad K) := fun H1 e Q q => fun p hp => q (.ref p) _ (Ex.new hp) (.inl ⟨.dct upd_same, rfl⟩)
/-- [[1]] -/
theorem ep_badLL {ta : TE} (h : EvL ta σ H xs) : EvP (tLst (tCons ta tNil)) σ H (wBad K) := fun H1 e Q q =>
  h H1 e _ fun p H2 np e2 hp => ⟨sz_of (by simp), fun l nl => q (.ref l) _ (e2.trans (Ex.new nl)) (bad_list (xs := [.ref p]) (sq_of upd_same) (by simp) (fun y hy => by
    cases hy with
    | head => exact .lst (sq_of (Ex.new nl _ _ hp))
    | tail _ hy => cases hy) rfl)⟩
theorem ep_npV (h : Ev te σ H v) (hn : ∀ H, NoL K H v) (hb : primeOk v = false) : EvP te σ H (wNoPrime K) := (ep_v h).imp fun y H1 e => by
  rw [show y = v from e]
  exact ⟨.no (hn H1), hb⟩
theorem ep_npL (h : EvL te σ H xs) : EvP te σ H (wNoPrime K) := (ep_m (em_of_l h)).imp fun v H1 ⟨p, e, hp⟩ => by
  subst e
  exact ⟨.lst (sq_of hp), rfl⟩
theorem ep_nplV (h : Ev te σ H v) (hn : ∀ H, NoL K H v) (hb : placeOk v = false) : EvP te σ H (wNoPlace K) := (ep_v h).imp fun y H1 e => by
  rw [show y = v from e]
  exact ⟨.no (hn H1), hb⟩
theorem ep_nplL (h : EvL te σ H xs) : EvP te σ H (wNoPlace K) := (ep_m (em_of_l h)).imp fun v H1 ⟨p, e, hp⟩ => by
  subst e
  exact ⟨.lst (sq_of hp), rfl⟩
theorem ep_few {ms : List Int} (h : EvL te σ H (il ms)) (hr : rs 5 ms = true) (hl : ms.length < 3) : EvP te σ H (wFew K) := (ep_m (em_of_l h)).imp fun v H1 ⟨p, e, hp⟩ => by
  subst e
  exact ⟨p, ms, rfl, sq_of hp, rs_iff.mp hr, hl⟩
theorem bent_bad {ms : List Int} {v : V} {at_ : Nat} (hv : okRest 5 v = false) : (il (ms.take at_) ++ [v] ++ il (ms.drop (at_ + 1))).all (okRest 5) = false := by
  rw [List.all_append, List.all_append]
  show (_ && (okRest 5 v && true) && _) = false
  rw [hv, Bool.false_and, Bool.and_false, Bool.false_and]
/-- a list of things, of each of which a word holds -/
def wThings (K : PySem.W.Frag) (φ : Wd) : Wd := fun y H => ∃ p xs, y = .ref p ∧ SqL K H p xs ∧ xs.length ≤ 1000 ∧ ∀ x ∈ xs, φ x H
theorem mono_things {φ : Wd} (m : Mono φ) : Mono (wThings K φ) := fun _ _ _ e ⟨p, xs, h1, h2, h3, h4⟩ => ⟨p, xs, h1, ex_l e h2, h3, fun x hx => m _ _ _ e (h4 x hx)⟩
theorem ep_things {φ : Wd} {φs : List Wd} (m : ∀ ψ ∈ φs, Mono ψ) (h : EvPs ta σ H φs) (hz : φs.length ≤ 1000) (k : ∀ ψ ∈ φs, ∀ y H, ψ y H → φ y H) : EvP (tLst ta) σ H (wThings K φ) := fun H1 e Q q =>
  h H1 e _ fun vs H2 e2 hv => ⟨sz_of (by rw [allW_len hv]; omega), fun p hp => q (.ref p) _ (e2.trans (Ex.new hp)) ⟨p, vs, rfl, sq_of upd_same, by rw [allW_len hv]; exact hz, allW_all (allW_up m hv (Ex.new hp)) fun ψ hψ y => k ψ hψ y _⟩⟩
theorem ep_bag {φ : Wd} {φs : List Wd} {n : Nat} {d : Addr} (hn : σ[n]? = some (some (.ref d))) (m : ∀ ψ ∈ φs, Mono ψ) (b : Bag φs G d H xs) (hz : φs.length ≤ 1000) (k : ∀ ψ ∈ φs, ∀ y H, ψ y H → φ y H) : EvP (tVar n) σ H (wThings K φ) := fun H1 e Q q =>
  ⟨_, hn, q _ H1 (Ex.refl H1) ⟨d, xs, rfl, sq_of (e _ _ b.at_), by rw [allW_len b.all]; exact hz, allW_all (allW_up m b.all (b.up.trans e)) fun ψ hψ y => k ψ hψ y _⟩⟩
theorem rep_mem {φ ψ : Wd} {n : Nat} (h : ψ ∈ List.replicate n φ) : ψ = φ := List.eq_of_mem_replicate h
/-- what is due of each class -/
def Dues (K : PySem.W.Frag) (H : Hp) (d : Addr) : Prop := ∃ xs, H d = some (.lst xs) ∧ ∀ k : Nat, k < 6 → ∃ p, atI xs (k : Int) = some (.ref p) ∧ SqL K H p (bls (dueB k))
theorem Dues.up {d : Addr} (h : Dues K H d) (e : Ex H H') : Dues K H' d := by
  obtain ⟨xs, h1, h2⟩ := h
  exact ⟨xs, e _ _ h1, fun k hk => by
    obtain ⟨p, h3, h4⟩ := h2 k hk
    exact ⟨p, h3, ex_l e h4⟩⟩
theorem dues_of {d : Addr} (b : Bag ((List.range 6).map fun k => wL K (bls (dueB k))) G d H xs) : Dues K H d := by
  refine ⟨xs, b.at_, fun k hk => ?_⟩
  have hl : xs.length = 6 := by rw [allW_len b.all]; rfl
  have hx : xs[k]? = some (xs[k]'(by omega)) := List.getElem?_eq_getElem _
  obtain ⟨φ, h1, h2⟩ := allW_at b.all hx
  rw [List.getElem?_map, List.getElem?_range (by omega)] at h1
  have : (wL K (bls (dueB k))) = φ := Option.some.inj h1
  subst this
  obtain ⟨p, h3, h4⟩ := h2
  refine ⟨p, ?_, ex_l b.up h4⟩
  rw [h3] at hx
  exact atI_nat hx
theorem er_due {d : Addr} {n k : Nat} (hn : σ[n]? = some (some (.ref d))) (h : Dues K H d) (hk : k < 6) : EvR K (tOp (rIxL K) (tVar n) (tC (.int (k : Int)))) σ H (bls (dueB k)) := by
  obtain ⟨xs, h1, h2⟩ := h
  obtain ⟨p, h3, h4⟩ := h2 k hk
  exact er_ix (er_var hn (sq_of h1)) ev_c h3 h4
theorem ev_neBs {tb : TE} {ms ns : List Bool} (ha : EvR K te σ H (bls ms)) (hb : EvR K tb σ H (bls ns)) : Ev (tOp (rNeD K) te tb) σ H (.bl (!decide (ms = ns))) := fun H1 e Q q =>
  ha H1 e _ fun p H2 e2 hp => hb H2 (e.trans e2) _ fun p2 H3 e3 hp2 => ⟨_, _, dp_bools (ex_l e3 hp), dp_bools hp2, shaped_bools _, shaped_bools _, by
    show Q (.bl (!(PyData.eqvAll _ _))) H3
    rw [eqv_bools]
    exact q H3 (e2.trans e3)⟩
theorem ep_bad1 {v : V} (h : Ev te σ H v) (hn : ∀ H, NoL K H v) (hb : okRest 5 v = false) : EvP (tLst (tCons te tNil)) σ H (wBad K) := ep_bad (el_lst (ea_cons h ea_nil) (by simp)) (by simp) (fun y hy H => by
    rw [List.mem_singleton.mp hy]
    exact hn H) (by
    show (okRest 5 v && true) = false
    rw [hb]
    rfl)
theorem okR_big {i : Int} (h : 5 ≤ i) : okRest 5 (.int i) = false := by
  show (decide (0 ≤ i) && decide (i < 5)) = false
  rw [decide_eq_false (show ¬ i < 5 by omega), Bool.and_false]
theorem okR_neg {i : Int} (h : i < 0) : okRest 5 (.int i) = false := by
  show (decide (0 ≤ i) && decide (i < 5)) = false
  rw [decide_eq_false (show ¬ 0 ≤ i by omega), Bool.false_and]
/-- the thing that is set in -/
theorem spot_at {F i : Int} (hF : 0 ≤ F) (h : 0 ≤ i ∧ i < 5) : ∃ v, atI [.non, .str "1", .bl true, .int (5 + F), .int (-1)] i = some v ∧ okRest 5 v = false ∧ ∀ H, NoL K H v := by
  rcases (show i = 0 ∨ i = 1 ∨ i = 2 ∨ i = 3 ∨ i = 4 by omega) with e | e | e | e | e
  · rw [e]; exact ⟨_, rfl, rfl, fun _ => .non⟩
  · rw [e]; exact ⟨_, rfl, rfl, fun _ => .str _⟩
  · rw [e]; exact ⟨_, rfl, rfl, fun _ => .bl _⟩
  · rw [e]; exact ⟨_, rfl, okR_big (by omega), fun _ => .int _⟩
  · rw [e]; exact ⟨_, rfl, okR_neg (by omega), fun _ => .int _⟩
end
end RK
/-! RrCtx: errors that are raised while another one is handled: what is known of their context goes with them. -/
namespace L2K
open PySem PySem.Spec PyProof.Rows L2 HotX
/-- at x stands an error's record whose context is None -/
def Bare (x : Addr) (h : Heap) : Prop := ∃ (o : Obj) (vs : Array Value), h.get? x = some o ∧ o.data = .fields vs ∧ vs[2]? = some .none
/-- .. as a tracked thing -/
def noCtx (x : Addr) : HO := .ext (Bare x)
theorem noCtx_ok {P : Program} {w : World} {H : Hp} {h : Heap} {x : Addr} (b : Bare x h) : ObjOk P w H h x (noCtx x) := by
  refine ⟨b, ?_, fun h1 h2 p k => ?_⟩
  · obtain ⟨o, _, e, _⟩ := b
    exact ⟨o, e⟩
  · obtain ⟨o, vs, e, r⟩ := p
    exact ⟨o, vs, k o e, r⟩
theorem bare_of {P : Program} {w : World} {H : Hp} {h : Heap} {x : Addr} (k : HOk P w H h) (e : H x = some (noCtx x)) : Bare x h := (k x _ e).1
def ctxV : Option Addr → Value
  | none => .none
  | some x => .ref x
/-- class, dict and context of an error's record -/
def Zk (c : Option Addr) (cls : Value) (d : Option Addr) : Obj → Prop := fun o => o.cls = cls ∧ o.dict = d ∧ ∀ vs : Array Value, o.data = .fields vs → vs[2]? = some (ctxV c)
theorem Zk.steady {c : Option Addr} {cls : Value} {d : Option Addr} : PXN.Steady1 (Zk c cls d) := fun o v h => by
  refine ⟨PXN.steady_cls o v h.1, PXN.steady_dict o v h.2.1, fun vs e => ?_⟩
  obtain ⟨oc, od, dt, sl⟩ := o
  cases dt with
  | fields ws =>
    have e2 : ws.setIfInBounds 1 v = vs := Data.fields.inj e
    rw [← e2]
    have e3 := h.2.2 ws rfl
    simp only [Array.getElem?_setIfInBounds]
    simpa using e3
  | _ =>
    first
    | cases e
    | exact Data.noConfusion e
theorem Zk.zc {c : Option Addr} {cls : Value} {d : Option Addr} {o : Obj} (h : Zk c cls d o) : Zc cls d o := ⟨h.1, h.2.1⟩
theorem zk_n {cls : Value} {d : Option Addr} {o : Obj} (h : L2N.Zn cls d o) : Zk none cls d o := ⟨h.1, h.2.1, h.2.2⟩
/-- the context is none, or stands tracked -/
def CtxOk (H : Hp) (c : Option Addr) : Prop := ∀ x, c = some x → H x = some (noCtx x)
/-- an error in the air, and behind a call: the same words, of any knowledge Zf of its record -/
def XEz (Zf : Value → Option Addr → Obj → Prop) (X : Cx) (W : WX) (u : Value) (s' : Shared) : Prop :=
  ∃ (a : Addr) (B : Heap) (sI : Shared) (pins : List (Addr × Obj)) (σ : L2.St) (H : Hp) (cls : Value) (d : Option Addr), u = .ref a ∧ Inv X pins σ H sI ∧ (∀ b o, sI.heap.get? b = some o → b ∉ frs X.stack → B.get? b = some o) ∧
    sI.heap.UpToSlots s'.heap ∧ Sky B X.stack a (Zf cls d) X.env.locals s'.heap ∧ H a = none ∧ s'.os = sI.os ∧ AllBare s'.gens ∧ W cls d σ H
def CXz (Zf : Value → Option Addr → Obj → Prop) (P : Program) (w : World) (outer : List Env) (H : Hp) (s : Shared) (E : XK) (u : Value) (s' : Shared) : Prop :=
  ∃ (a : Addr) (B : Heap) (H' : Hp) (cls : Value) (d : Option Addr), u = .ref a ∧ HandSPX.FlyingZ B outer a (Zf cls d) s'.heap ∧ HOk P w H' B ∧ UB (frs outer) H H' s.heap B s'.heap ∧ H' a = none ∧ s'.os = s.os ∧ AllBare s'.gens ∧ E cls d H'
def XEk (X : Cx) (W : WX) (u : Value) (s' : Shared) : Prop := ∃ c : Option Addr, XEz (Zk c) X (fun cls d σ H => CtxOk H c ∧ W cls d σ H) u s'
def CXk (P : Program) (w : World) : CXT := fun outer H s E u s' => ∃ c : Option Addr, CXz (Zk c) P w outer H s (fun cls d H' => CtxOk H' c ∧ E cls d H') u s'
def TakesK (X : Cx) (W : WX) : Prop := ∀ u s', XEk X W u s' → X.xe u s'
section
variable {X : Cx} {pins : List (Addr × Obj)} {σ : L2.St} {H : Hp} {sI s s' : Shared} {B : Heap} {W : WX} {E : XK} {Zf : Value → Option Addr → Obj → Prop}
theorem sky_imp {l : List Env} {a L : Addr} {h : Heap} {Z Z' : Obj → Prop} (z : ∀ o, Z o → Z' o) (k : Sky B l a Z L h) : Sky B l a Z' L h := by
  rcases k with ⟨k1, k2, k3, oe, vs, k4, k5, k6⟩ | k | ⟨k1, k2, k3, k4⟩
  · exact .inl ⟨k1, k2, k3, oe, vs, k4, z _ k5, k6⟩
  · exact .inr (.inl (L2H.flyingZ_imp z k))
  · exact .inr (.inr ⟨k1, k2, k3, L2H.tracedZ_imp z k4⟩)
theorem xek_of_n {u : Value} (x : L2N.XE X W u s') : XEk X W u s' := by
  obtain ⟨a, B, sI, pins, σ, H, cls, d, e, I, gr, ut, sky, fr, ho, hb, q⟩ := x
  exact ⟨none, a, B, sI, pins, σ, H, cls, d, e, I, gr, ut, sky_imp (fun _ => zk_n) sky, fr, ho, hb, ⟨fun _ z => (by cases z), q⟩⟩
theorem TakesK.toN (t : TakesK X W) : L2N.Takes X W := fun u s' x => t u s' (xek_of_n x)
/-- the ground at a def's end -/
theorem ground (I : Inv X pins σ H sI) (gr : ∀ b o, sI.heap.get? b = some o → b ∉ frs X.stack → B.get? b = some o) (hex : X.ex = []) {h1 : Heap} (ut : sI.heap.UpToSlots h1) : UB X.fs X.H_0 H X.s_0.heap B h1 := by
  have noX : ∀ b, b ∉ X.ex := fun b z => by rw [hex] at z; cases z
  have away : ∀ b o, X.s_0.heap.get? b = some o → b ∉ X.fs → b ∉ frs X.stack := fun b o e hb hm => by
    rcases List.mem_cons.mp (I.stkSub b hm) with z | z
    · have l1 := Heap.lt_size e
      have l2 := I.ok.above
      rw [z] at l1
      exact absurd l1 (Nat.not_lt.mpr l2)
    · exact hb z
  constructor
  · exact fun b o e n hb => gr b o (I.base.keep b o e n hb (noX b)) (away b o e hb)
  · intro b o e hb
    obtain ⟨_, o₁, e₁, nf⟩ := I.ok.funs.mem hb
    rw [e] at e₁
    cases e₁
    obtain ⟨q1, t1⟩ := I.base.slot b o e (I.ok.frf b hb) hb (noX b)
    obtain ⟨q2, t2⟩ := ut b _ t1 nf
    exact ⟨q2, t2⟩
  · exact fun b o e n => I.base.free b o e n (noX b)
  · intro b o e hb
    obtain ⟨o', t1⟩ := I.base.there b o e (noX b)
    exact ⟨o', gr b o' t1 (away b o e hb)⟩
  · exact I.base.tups
  · exact I.base.frzs
  · exact I.base.tbls
/-- it leaves the def -/
theorem leavesZ (st : ∀ cls d, PXN.Steady1 (Zf cls d)) (hs : X.stack = X.env :: X.outer) (hf : X.env.frame = some X.env.locals) (hex : X.ex = []) {E₁ : Value → Shared → Prop} {u : Value} (x : XEz Zf X (fun cls d _ H => E cls d H) u s') :
    wpAny (model X.prog X.w) X.A (leaving X.env u) (fun _ t => CXz Zf X.prog X.w X.outer X.H_0 X.s_0 E u t) E₁ s' := by
  obtain ⟨a, B, sI, pins, σ, H, cls, d, rfl, I, gr, ut, sky, fr, ho, hb, q⟩ := x
  have frm : X.A.frames = some (X.env :: X.outer) := I.ok.frames.trans (congrArg some hs)
  have done : ∀ h1, HandSPX.FlyingZ B X.outer a (Zf cls d) h1 → s'.heap.UpToSlots h1 → CXz Zf X.prog X.w X.outer X.H_0 X.s_0 E (.ref a) { s' with heap := h1 } := fun h1 fl u1 =>
    ⟨a, B, H, cls, d, rfl, fl, I.inGround gr, ground I gr hex (ut.trans u1), fr, ho.trans I.os, hb, q⟩
  rw [hs] at sky
  rcases sky with ⟨k1, k2, k3, oe, vs, k4, k5, k6, k7⟩ | fl | held
  · exact PXN.leaving_firstZ (st cls d) frm k3 hf k4 k1 k2 k6 k7 k5 done
  · exact PXN.leaves_onZ (st cls d) frm hf fl done
  · exact HandSPX.leaves_heldZ hf held done
theorem takes_ofK (hs : X.stack = X.env :: X.outer) (hf : X.env.frame = some X.env.locals) (hex : X.ex = []) {E₁ : Value → Shared → Prop}
    (hx : X.xe = fun e s' => wpAny (model X.prog X.w) X.A (leaving X.env e) (fun _ t => CXk X.prog X.w X.outer X.H_0 X.s_0 E e t) E₁ s') : TakesK X (fun cls d _ H => E cls d H) := fun u s' ⟨c, x⟩ => by
  rw [hx]
  exact wpAny_mono (leavesZ (E := fun cls d H => CtxOk H c ∧ E cls d H) (fun _ _ => Zk.steady) hs hf hex x) (fun _ t y => ⟨c, y⟩) fun _ _ z => z
/-- a call's error is in our air -/
theorem airZ (I : Inv X pins σ H s) {u : Value} (c : CXz Zf X.prog X.w X.stack H s E u s') : XEz Zf X (fun cls d τ G => τ = σ ∧ E cls d G) u s' := by
  obtain ⟨a, B, H', cls, d, rfl, fl, hok, ub, fr, ho, hb, q⟩ := c
  obtain ⟨G, in1, in2⟩ := restrict s'.heap fun b => (B.get? b).isSome || decide (b ∈ frs X.stack)
  have fB : ∀ b o, B.get? b = some o → G.get? b = some o := fun b o e => (in1 b (by rw [e]; rfl)).trans (fl.1 b o e)
  have fF : ∀ b, b ∈ frs X.stack → G.get? b = s'.heap.get? b := fun b hb => in1 b (by rw [decide_eq_true hb, Bool.or_true])
  have back : ∀ b o, G.get? b = some o → s'.heap.get? b = some o ∧ ((∃ o', B.get? b = some o') ∨ b ∈ frs X.stack) := fun b o e => by
    by_cases k : b ∈ frs X.stack
    · exact ⟨(fF b k).symm.trans e, .inr k⟩
    · cases q : B.get? b with
      | some o' => exact ⟨(in1 b (by rw [q]; rfl)).symm.trans e, .inl ⟨o', rfl⟩⟩
      | none =>
        rw [in2 b (by rw [q, decide_eq_false k]; rfl)] at e
        cases e
  refine ⟨a, B, { s with heap := G, gens := s'.gens, drawn := s'.drawn, toks := s'.toks }, pins, σ, H', cls, d, rfl, ?_, fun b o e k => ?_, Heap.UpToSlots.of_keeps fun b o e => (back b o e).1, .inr (.inl fl), fr, ho, hb, rfl, q⟩
  · refine I.call (ch := []) ⟨?_, ?_, fun b o e n _ => ub.free b o e n, ?_, ub.tups, ub.frzs, ub.tbls⟩ (hok.kept fB) hb (fun _ z => nomatch z)
    · exact fun b o e n k _ => fB b o (ub.keep b o e n k)
    · intro b o e n k _
      obtain ⟨sl, t⟩ := ub.slot b o e k
      exact ⟨sl, (fF b k).trans t⟩
    · intro b o e _
      by_cases k : b ∈ frs X.stack
      · obtain ⟨sl, t⟩ := ub.slot b o e k
        exact ⟨_, (fF b k).trans t⟩
      · obtain ⟨o', t⟩ := ub.there b o e k
        exact ⟨o', fB b o' t⟩
  · obtain ⟨e1, ⟨o', e2⟩ | k2⟩ := back b o e
    · have z := fl.1 b o' e2
      rw [e1] at z
      cases z
      exact e2
    · exact absurd k2 k
theorem passAtK {tk : TakesK X W} (σ : L2.St) : PassesAt (CXk X.prog X.w) X σ (WE W σ) := fun pins H s e s' I ⟨c, x⟩ => by
  obtain ⟨a, B, sI, pins', τ, G, cls, d, r1, r2, r3, r4, r5, r6, r7, r8, rfl, r9, r10⟩ := airZ I x
  exact tk e s' ⟨c, a, B, sI, pins', _, G, cls, d, r1, r2, r3, r4, r5, r6, r7, r8, r9, r10⟩
theorem passK : Passes (CXk X.prog X.w) X E0 := fun _ _ _ _ _ _ _ h => by
  obtain ⟨_, _, _, _, _, _, _, _, _, _, _, _, _, _, z⟩ := h
  exact z.elim
/-- back on the ground, the error itself tracked -/
theorem landedT (I : Inv X pins σ H sI) (gr : ∀ b o, sI.heap.get? b = some o → b ∉ frs X.stack → B.get? b = some o) (st : B.StaysIn s'.heap) (ut : sI.heap.UpToSlots s'.heap) (ho : s'.os = sI.os) (hb : AllBare s'.gens) {a : Addr} {o : HO}
    (nB : B.get? a = none) (fr : H a = none) (nF : a ∉ frs X.stack) (new : ObjOk X.prog X.w (upd H a o) s'.heap a o) : Inv X pins σ (upd H a o) s' := by
  have gone : ∀ b u, sI.heap.get? b = some u → b ≠ a := fun b u e z => by
    rw [z] at e
    rw [gr a u e nF] at nB
    cases nB
  refine I.call' (ch := []) ho ⟨?_, ?_, ?_, ?_, ?_, ?_, ?_⟩ (fun b u e => ?_) hb (fun _ z => nomatch z)
  · exact fun b u e _ k _ => st b u (gr b u e k)
  · intro b u e _ k _
    obtain ⟨_, o', e', hd⟩ := I.stack.mem k
    rw [e] at e'
    cases e'
    exact ut b u e hd
  · intro b u e n _
    rw [upd_ne (gone b u e)]
    exact n
  · intro b u e _
    by_cases k : b ∈ frs X.stack
    · obtain ⟨_, o', e', hd⟩ := I.stack.mem k
      rw [e] at e'
      cases e'
      obtain ⟨sl, t⟩ := ut b u e hd
      exact ⟨_, t⟩
    · exact ⟨u, st b u (gr b u e k)⟩
  · intro b xs e
    rw [upd_ne (ne_of_none e fr)]
    exact e
  · intro b u xs e
    rw [upd_ne (ne_of_none e fr)]
    exact e
  · intro b ps e
    exact ⟨#[], by rw [upd_ne (ne_of_none e fr), e]; simp⟩
  · by_cases k : b = a
    · subst k
      rw [upd_same] at e
      cases e
      exact new
    · rw [upd_ne k] at e
      exact ((I.inGround gr).kept st b u e).stay (fun c v _ q => q) (fun c q => by rw [upd_ne (ne_of_none q fr)]; exact q) fun c xs q => by rw [upd_ne (ne_of_none q fr)]; exact q
end
end L2K
/-! RrTurn: an except clause of two classes that raises a new error; a clause that holds an error with a context; any(list) within it. -/
namespace L2K
open PySem PySem.Spec PyProof.Rows L2 HotX
section
variable {X : Cx} {pins : List (Addr × Obj)} {σ : L2.St} {H : Hp} {s s' : Shared} {W : WX}
theorem flying_kept {B h h1 : Heap} {l : List Env} {a : Addr} {Z : Obj → Prop} (k : ∀ b o, h.get? b = some o → h1.get? b = some o) (x : HandSPX.FlyingZ B l a Z h) : HandSPX.FlyingZ B l a Z h1 := by
  obtain ⟨x1, x2, x3, oe, vs, T, oT, ts, t1, t2, t3, t4, t5, t6, t7, t8⟩ := x
  exact ⟨fun b o e => k b o (x1 b o e), x2, x3.of_keeps fun b o e _ => ⟨o, k b o e, rfl⟩, oe, vs, T, oT, ts, k _ _ t1, t2, t3, t4, t5, t6, k _ _ t7, t8⟩
/-- raise C('..') where an error is handled that stands tracked -/
theorem ps_raiseT {e : Expr} {t : L2.St → Hp → XK → Prop} {rp : Pos} {a : Addr} (ok : X.Ok) (tk : TakesK X W) (he : L2N.PMk (L2H.suiteX X a (X.pn ++ pins)) e t) :
    PS (L2H.suiteX X a (X.pn ++ pins)) (.Raise (some e) none rp) (fun _ σ H => t σ H fun cls d H' => H' a = some (noCtx a) ∧ W cls d σ H') := by
  refine ⟨fun pins' s σ H D I h => ?_⟩
  show wpAny _ _ (standAt rp >>= fun _ => raiseStmt X.env (some (eval e X.env >>= fun v => standAt rp >>= fun _ => pure v)) none) _ _ _
  refine wpAny_bind (wpAny_standAt (raise_made_hot (x1 := a) (wpAny_bind (wpAny_mono (he pins' s σ H _ I h) (fun u s1 mk => wpAny_bind (wpAny_standAt (wpAny_pure ?_))) fun _ _ z => z))))
  obtain ⟨n, on, vs, sI, G, cls, d, rfl, J, k, new, hn, zn, dn, v1, fr, ho, hb, rs, ha, q⟩ := mk
  obtain ⟨l1, l2⟩ := rs (model X.prog X.w) s1.heap (J.kIn.keeps k)
  obtain ⟨o1, w1, b1, b2, b3⟩ := bare_of J.hok ha
  have ne : a ≠ n := fun z => by
    rw [z, new] at b1
    cases b1
  have c2 := zn.2.2 vs dn
  have sz : 2 < vs.size := (Array.getElem?_eq_some_iff.mp c2).1
  refine ⟨n, on, vs, cls, rfl, hn, zn.1, dn, v1, sz, ne, ⟨rfl, o1, w1, k _ _ b1, b2, b3⟩, l1, l2, ?_⟩
  have I1 : Inv X pins σ G sI := ⟨ok, J.os, J.bare, J.base, J.loc, J.cell, J.free, J.freeC, fun p hp => J.pin p (List.mem_append_left _ hp), J.hok, J.len⟩
  have kk : ∀ b o, sI.heap.get? b = some o → (s1.heap.update n (Obj.mapFields (·.setIfInBounds 2 (.ref a)))).get? b = some o := fun b o e => by
    rw [Heap.get?_update_other _ _ (fun z => by rw [z, e] at new; cases new)]
    exact k b o e
  have dm := Obj.data_mapFields dn (·.setIfInBounds 2 (Value.ref a))
  refine tk _ _ ⟨some a, n, PySem.W.hideAll sI.heap (frs X.stack), sI, pins, σ, G, cls, d, rfl, I1, fun b o e z => PySem.W.hideAll_get _ e z, Heap.UpToSlots.of_keeps kk, .inl ⟨fun b o e => kk b o (PySem.W.of_hideAll _ e), ?_, ?_, on.mapFields (·.setIfInBounds 2 (Value.ref a)), vs.setIfInBounds 2 (Value.ref a), ?_, ⟨?_, ?_, ?_⟩, dm, ?_⟩, fr, ho, hb, fun x z => ?_, q⟩
  · cases z : (PySem.W.hideAll sI.heap (frs X.stack)).get? n with
    | none => rfl
    | some o =>
      have := PySem.W.of_hideAll _ z
      rw [new] at this
      cases this
  · exact Heap.FunFrames.of_keeps (fun b o e _ => ⟨o, kk b o e, rfl⟩) (funFrames_none I1.stack fun b hb => PySem.W.hideAll_none _ hb)
  · exact Heap.get?_update_self _ hn (Obj.isFreed_of_fields dm)
  · rw [Obj.cls_mapFields]
    exact zn.1
  · rw [HandSPX.dict_mapFields]
    exact zn.2.1
  · intro ws e
    rw [dm] at e
    cases e
    simp only [Array.getElem?_setIfInBounds]
    simp [sz, ctxV]
  · simp only [Array.getElem?_setIfInBounds]
    simpa using v1
  · cases z
    exact ha
/-- what the clause of two classes wishes of an error of the body -/
def wTurn (K : PySem.W.Frag) (c1 c2 : Value) (t : L2.St → Hp → XK → Prop) (W : WX) : WX := fun cls _ σ H => PySem.W.exmAny K cls [c1, c2] = some true ∧ ∀ a, H a = none → t σ (upd H a (noCtx a)) fun cls' d' H' => H' a = some (noCtx a) ∧ W cls' d' σ H'
/-- try: body except (A, B): raise C('..') -/
theorem ps_turn {x1 x2 : Str} {c1 c2 : Value} {e : Expr} {body : List Stmt} {k : Nat} {p1 p2 tp rp pos' pos : Pos} {tb : WX → TS} {t : L2.St → Hp → XK → Prop} (hs : X.stack = X.env :: X.outer) (hf : X.env.frame = some X.env.locals) (n1 : Names X x1 c1) (n2 : Names X x2 c2)
    (hpa : ∀ hd : Option Value, PassesOwnAt (model X.prog X.w) (X.A.mark hd) X.A X.env X.xe) (tk : TakesK X W)
    (hb : ∀ (V : WX) (pn : List (Addr × Obj)) (xe : Value → Shared → Prop), L2N.Takes (X.tr pn xe) V → PassesOwn (model X.prog X.w) X.A X.env xe → PSs (X.tr pn xe) body (tb V)) (he : ∀ (a : Addr) (pn : List (Addr × Obj)), L2N.PMk (L2H.suiteX X a pn) e t) :
    PS X (.Try body [.ExceptHandler (some (.Tuple [.Name x1 p1, .Name x2 p2] k tp)) none [.Raise (some e) none rp] pos'] [] [] pos) (fun D σ H => tb (wTurn X.K c1 c2 t W) D σ H) := by
  refine ⟨fun pins s σ H D I h => ?_⟩
  have ok := I.ok
  have frm : X.A.frames = some (X.env :: X.outer) := ok.frames.trans (congrArg some hs)
  refine wpAny_Try_except (wpAny_mono ((hb (wTurn X.K c1 c2 t W) (X.pn ++ pins) (fun u s1 => wpAny (model X.prog X.w) X.A (noteFrame u X.env) (fun _ s2 => wpAny (model X.prog X.w) X.A (setFlight u none) (fun _ s3 => wpAny (model X.prog X.w) X.A
    (handleBy u X.env [.ExceptHandler (some (.Tuple [.Name x1 p1, .Name x2 p2] k tp)) none [.Raise (some e) none rp] pos']) (SP X pins D) X.xe s3) X.xe s2) X.xe s1) (fun u s' air => ?_) PassesOwn.looking).run [] s σ H D (I.toTry _) h) (fun f s1 sp => ?_) (fun _ _ z => z))
  · -- an error of the body
    obtain ⟨a, B, sI, pn', τ, G, cls, d, rfl, J', gr, ut, sky, fr, ho, hbr, hx, hw⟩ := air
    have J : Inv X pins τ G sI := J'.ofTry ok
    have sky : Sky B (X.env :: X.outer) a (L2N.Zn cls d) X.env.locals s'.heap := hs ▸ sky
    refine L2N.Sky.land L2N.Zn.steady frm hf sky fun h3 fl u3 => ?_
    have J3 : Inv X pins τ G { s' with heap := h3 } := J.landed gr fl.1 (ut.trans u3) ho hbr
    obtain ⟨o3, v3, g3, z3, d3⟩ := fl.there
    have nF0 : a ∉ frs (X.env :: X.outer) := fun m => by
      obtain ⟨_, o', g', nf⟩ := fl.2.2.1.mem m
      rw [g3] at g'
      cases g'
      exact nf _ d3
    have nL : a ≠ X.env.locals := fun z => nF0 (List.mem_filterMap.mpr ⟨X.env, List.mem_cons_self, hf.trans (congrArg some z.symm)⟩)
    have nF : a ∉ X.fs := fun m => by
      obtain ⟨v, m1, m2⟩ := List.mem_filterMap.mp m
      exact nF0 (List.mem_filterMap.mpr ⟨v, List.mem_cons_of_mem _ m1, m2⟩)
    have S3 := J3.suite g3 d3 fr nL nF
    have LT : PySem.W.Looks (model X.prog X.w) h3 (typeOf (.ref a)) cls := fun A Q E s k q => wpAny_typeOf_ref (k _ _ g3) (by rw [z3.1]; exact q)
    have named : ∀ {x : Str} {c : Value} {np : Pos} {Q : Value → Shared → Prop} {E : Value → Shared → Prop}, Names X x c → Q c { s' with heap := h3 } → wpAny (model X.prog X.w) (X.A.mark (some (.ref a))) (eval (.Name x np) X.env) Q E { s' with heap := h3 } := fun {x c np Q E} n q => by
      obtain ⟨hg, hdb, hm | ⟨hm, hv, hnn⟩⟩ := n
      · exact ld_glob (X := X.suite a ((a, o3) :: (X.pn ++ pins))) S3 hg hm q hdb
      · exact ld_blt (X := X.suite a ((a, o3) :: (X.pn ++ pins))) S3 hg hm hv q hnn hdb
    refine wpAny_handleBy_cons (codeAny_handlers_test ?_) (by intro q; cases q)
    refine wpAny_Tuple (wpAny_items_cons (named n1 (wpAny_items_cons (named n2 (wpAny_items_nil ⟨by size_fits, ?_⟩)))))
    have kp : ∀ b o, h3.get? b = some o → (h3.push { cls := .type "tuple", data := .seq [c1, c2].toArray }).get? b = some o := fun _ _ z => Heap.get?_push_of_some _ z
    refine (PySem.W.exm_tup2 (M := model X.prog X.w) (K := X.K) (fun b o e => kp b o (J3.kIn b o e)) (LT.keeps kp) (Heap.get?_push_size h3 rfl) hx).here ?_
    -- the suite
    refine codeAny_handlers_suite ?_
    have fl' := flying_kept kp fl
    refine HandSPX.lands_againZ fl' fun h4 fl4 u4 => ?_
    obtain ⟨o4, v4, g4, z4, d4⟩ := fl4.there
    have U4 : sI.heap.UpToSlots h4 := (ut.trans u3).trans ((Heap.UpToSlots.of_keeps kp).trans u4)
    have T4 : Inv X pins τ (upd G a (noCtx a)) { s' with heap := h4 } := landedT (s' := { s' with heap := h4 }) J gr fl4.1 U4 ho hbr fl4.2.1 fr (by rw [hs]; exact nF0) (noCtx_ok ⟨o4, v4, g4, d4, z4.2.2 v4 d4⟩)
    have S4 : Inv (L2H.suiteX X a (X.pn ++ pins)) [] τ (upd G a (noCtx a)) { s' with heap := h4 } :=
      ⟨⟨ok.mod, ok.kind, ok.glob, ok.blt, ok.above, ok.inj, ok.has, ok.cab, fun z => (by cases z), ok.frames, ok.stk, ok.exf, ok.bs, ok.bsz, ok.noex, ok.exfs, ok.funs, ok.frf⟩, T4.os, T4.bare, T4.base, T4.loc, T4.cell, T4.free, T4.freeC, fun p hp => T4.pin p (by rw [List.append_nil] at hp; exact hp), T4.hok, T4.len⟩
    have rz : PSs (L2H.suiteX X a (X.pn ++ pins)) [.Raise (some e) none rp] _ := pss_one (ps_raiseT (pins := pins) ok tk (he a (X.pn ++ pins)))
    refine wpAny_mono (rz.run [] _ _ _ ⟨fun _ _ => False, fun _ _ => False, fun _ _ => False, fun _ _ => False⟩ S4 (hw a fr)) (fun f s6 sp => ?_) (fun u s6 z => hpa (some (.ref a)) u s6 z)
    cases f with
    | next =>
      obtain ⟨_, _, _, z⟩ := sp
      exact z.elim
    | brk =>
      obtain ⟨_, _, _, z⟩ := sp
      exact z.elim
    | cont =>
      obtain ⟨_, _, _, z⟩ := sp
      exact z.elim
    | ret v =>
      obtain ⟨_, _, _, _, _, z⟩ := sp
      exact z.elim
  · cases f with
    | next =>
      obtain ⟨τ, G, J, q⟩ := sp
      exact wpAny_execs_nil ⟨τ, G, J.ofTry ok, q⟩
    | brk =>
      obtain ⟨τ, G, J, q⟩ := sp
      exact ⟨τ, G, J.ofTry ok, q⟩
    | cont =>
      obtain ⟨τ, G, J, q⟩ := sp
      exact ⟨τ, G, J.ofTry ok, q⟩
    | ret v =>
      obtain ⟨x, τ, G, J, r, q⟩ := sp
      exact ⟨x, τ, G, J.ofTry ok, r, q⟩
/-- what 'except C as n' wishes of an error that C names, whatever its context -/
def wAsK (K : PySem.W.Frag) (c : Value) (i : Nat) (ts : Option Addr → Addr → Value → Option Addr → TS) (D : Ends) : WX := fun cls d σ H => PySem.W.exmOne K cls c = some true ∧ ∀ (x : Option Addr) (a : Addr), H a = none → CtxOk H x →
  ts x a cls d { nx := fun τ G => D.nx (τ.set i none) G, rt := D.rt, bk := fun τ G => D.bk (τ.set i none) G, ct := fun τ G => D.ct (τ.set i none) G } (σ.set i (some (.ref a))) H
/-- try: body except C as n: suite -/
theorem ps_try_asK {x n : Str} {c : Value} {i : Nat} {body suite : List Stmt} {b₀ : Stmt} {np pos' pos : Pos} {tb : WX → TS} {ts : Option Addr → Addr → Value → Option Addr → TS} (hs : X.stack = X.env :: X.outer) (hf : X.env.frame = some X.env.locals) (hN : X.N.Nodup) (hi : X.N[i]? = some n)
    (hln : X.env.kindOf n = some .local) (hc : Names X x c) (hb : ∀ (V : WX) (pn : List (Addr × Obj)) (xe : Value → Shared → Prop), TakesK (X.tr pn xe) V → PassesOwn (model X.prog X.w) X.A X.env xe → PSs (X.tr pn xe) body (tb V))
    (hsu : ∀ (x : Option Addr) (a : Addr) (oe : Obj) (cls : Value) (d : Option Addr) (pn : List (Addr × Obj)), Zk x cls d oe → (∃ vs, oe.data = .fields vs) → PSs (X.suite a ((a, oe) :: pn)) (b₀ :: suite) (ts x a cls d)) :
    PS X (.Try body [.ExceptHandler (some (.Name x np)) (some n) (b₀ :: suite) pos'] [] [] pos) (fun D σ H => tb (wAsK X.K c i ts D) D σ H) := by
  refine ⟨fun pins s σ H D I h => ?_⟩
  have ok := I.ok
  have frm : X.A.frames = some (X.env :: X.outer) := ok.frames.trans (congrArg some hs)
  refine wpAny_Try_except (wpAny_mono ((hb (wAsK X.K c i ts D) (X.pn ++ pins) (fun u s1 => wpAny (model X.prog X.w) X.A (noteFrame u X.env) (fun _ s2 => wpAny (model X.prog X.w) X.A (setFlight u none) (fun _ s3 => wpAny (model X.prog X.w) X.A
    (handleBy u X.env [.ExceptHandler (some (.Name x np)) (some n) (b₀ :: suite) pos']) (SP X pins D) X.xe s3) X.xe s2) X.xe s1) (fun u s' air => ?_) PassesOwn.looking).run [] s σ H D (I.toTry _) h) (fun f s1 sp => ?_) (fun _ _ z => z))
  · obtain ⟨cc, a, B, sI, pn', τ, G, cls, d, rfl, J', gr, ut, sky, fr, ho, hbr, hcc, hx, hw⟩ := air
    have J : Inv X pins τ G sI := J'.ofTry ok
    have sky : Sky B (X.env :: X.outer) a (Zk cc cls d) X.env.locals s'.heap := hs ▸ sky
    refine L2N.Sky.land Zk.steady frm hf sky fun h3 fl u3 => ?_
    have J3 : Inv X pins τ G { s' with heap := h3 } := J.landed gr fl.1 (ut.trans u3) ho hbr
    obtain ⟨o3, v3, g3, z3, d3⟩ := fl.there
    have nF0 : a ∉ frs (X.env :: X.outer) := fun m => by
      obtain ⟨_, o', g', nf⟩ := fl.2.2.1.mem m
      rw [g3] at g'
      cases g'
      exact nf _ d3
    have nL : a ≠ X.env.locals := fun z => nF0 (List.mem_filterMap.mpr ⟨X.env, List.mem_cons_self, hf.trans (congrArg some z.symm)⟩)
    have nF : a ∉ X.fs := fun m => by
      obtain ⟨v, m1, m2⟩ := List.mem_filterMap.mp m
      exact nF0 (List.mem_filterMap.mpr ⟨v, List.mem_cons_of_mem _ m1, m2⟩)
    have S3 := J3.suite g3 d3 fr nL nF
    have LT : PySem.W.Looks (model X.prog X.w) h3 (typeOf (.ref a)) cls := fun A Q E s k q => wpAny_typeOf_ref (k _ _ g3) (by rw [z3.1]; exact q)
    have named : ∀ {Q : Value → Shared → Prop} {E : Value → Shared → Prop}, Q c { s' with heap := h3 } → wpAny (model X.prog X.w) (X.A.mark (some (.ref a))) (eval (.Name x np) X.env) Q E { s' with heap := h3 } := fun {Q E} q => by
      obtain ⟨hg, hdb, hm | ⟨hm, hv, hnn⟩⟩ := hc
      · exact ld_glob (X := X.suite a ((a, o3) :: (X.pn ++ pins))) S3 hg hm q hdb
      · exact ld_blt (X := X.suite a ((a, o3) :: (X.pn ++ pins))) S3 hg hm hv q hnn hdb
    refine wpAny_handleBy_cons (codeAny_handlers_test (named ((PySem.W.exm_one (M := model X.prog X.w) J3.kIn LT hx).here ?_))) (by intro q; cases q)
    refine codeAny_handlers_suite_as (HandSPX.lands_againZ fl fun h4 fl4 u4 => ?_)
    obtain ⟨o4, v4, g4, z4, d4⟩ := fl4.there
    have J4 : Inv X pins τ G { s' with heap := h4 } := J.landed gr fl4.1 ((ut.trans u3).trans u4) ho hbr
    have S4 := J4.suite g4 d4 fr nL nF
    refine store_ok (X := X.suite a ((a, o4) :: (X.pn ++ pins))) (v := .ref a) S4 hN hi (.inl hln) rfl (fun s5 S5 => ?_) (.inr hln)
    refine wpAny_mono ((hsu cc a o4 cls d (X.pn ++ pins) z4 ⟨_, d4⟩).run [] s5 _ G _ S5 (hw cc a fr hcc)) (fun f s6 sp => ?_) (fun _ _ z => z.elim)
    have out : ∀ {τ6 : L2.St} {G6 : Hp} {Q : Shared → Prop}, Inv (X.suite a ((a, o4) :: (X.pn ++ pins))) [] τ6 G6 s6 → (∀ s7, Inv X pins (τ6.set i none) G6 s7 → Q s7) → wpAny (model X.prog X.w) X.A (do bindName X.env n .none; unbindBehindTheSuite X.env n pos') (fun _ s7 => Q s7) X.xe s6 :=
      fun S6 k => gone_ok (S6.unsuite ok) hN hi hln k
    cases f with
    | next =>
      obtain ⟨τ6, G6, S6, q⟩ := sp
      exact out S6 fun s7 J7 => ⟨_, _, J7, q⟩
    | brk =>
      obtain ⟨τ6, G6, S6, q⟩ := sp
      exact out S6 fun s7 J7 => ⟨_, _, J7, q⟩
    | cont =>
      obtain ⟨τ6, G6, S6, q⟩ := sp
      exact out S6 fun s7 J7 => ⟨_, _, J7, q⟩
    | ret v =>
      obtain ⟨y, τ6, G6, S6, r, q⟩ := sp
      exact out S6 fun s7 J7 => ⟨_, _, _, J7, r, q⟩
  · cases f with
    | next =>
      obtain ⟨τ, G, J, q⟩ := sp
      exact wpAny_execs_nil ⟨τ, G, J.ofTry ok, q⟩
    | brk =>
      obtain ⟨τ, G, J, q⟩ := sp
      exact ⟨τ, G, J.ofTry ok, q⟩
    | cont =>
      obtain ⟨τ, G, J, q⟩ := sp
      exact ⟨τ, G, J.ofTry ok, q⟩
    | ret v =>
      obtain ⟨x, τ, G, J, r, q⟩ := sp
      exact ⟨x, τ, G, J.ofTry ok, r, q⟩
end
/-! ### any(list) where the handled error has a context -/
section
variable {prog : Program} {w : World} {A : Around} {E : Value → Shared → Prop} {s : Shared} {x1 x2 : Addr}
/-- the handled error and the one behind it -/
structure Two (x1 x2 : Addr) (o1 o2 : Obj) (v1 v2 : Array Value) : Prop where
  d1 : o1.data = .fields v1
  c1 : v1[2]? = some (.ref x2)
  d2 : o2.data = .fields v2
  c2 : v2[2]? = some .none
  ne : x1 ≠ x2
theorem unchain2 {o1 o2 : Obj} {v1 v2 : Array Value} {n : Addr} {Q : Value → Shared → Prop} (k : Two x1 x2 o1 o2 v1 v2) (g1 : s.heap.get? x1 = some o1) (g2 : s.heap.get? x2 = some o2) (hn : x2 ≠ n) (q : Q .none s) :
    wpAny (model prog w) A (holding [Value.ref n] (runValue (.builtin "proto.unchain" ⟨[.ref n, .ref x1, .ref x1, .bool false], []⟩))) Q E s := by
  refine wpAny_holding (wpAny_runValue (codeAny_builtin entry_unchain ?_))
  show wpAny _ _ (field (.ref x1) 2 >>= _) _ _ s
  refine wpAny_bind (wpAny_field g1 k.d1 k.c1 ?_)
  rw [if_neg (show ¬ (Value.ref x2 == Value.none) = true from fun z => nomatch (beq_iff_eq.mp z))]
  show wpAny _ _ (if (Value.ref x2 == Value.ref n) = true then _ else _) _ _ s
  rw [if_neg (show ¬ (Value.ref x2 == Value.ref n) = true from fun z => hn (Value.ref.inj (beq_iff_eq.mp z)))]
  show wpAny _ _ (if (Value.ref x2 == Value.ref x1) = true then _ else _) _ _ s
  rw [if_neg (show ¬ (Value.ref x2 == Value.ref x1) = true from fun z => k.ne (Value.ref.inj (beq_iff_eq.mp z)).symm)]
  show wpAny _ _ (again (.builtin "proto.unchain" ⟨[.ref n, .ref x2, .ref x1, .bool true], []⟩)) _ _ s
  refine wpAny_pure ⟨Code.quiet_builtin _ (by decide +kernel), ?_⟩
  refine codeAny_builtin entry_unchain ?_
  show wpAny _ _ (field (.ref x2) 2 >>= _) _ _ s
  refine wpAny_bind (wpAny_field g2 k.d2 k.c2 ?_)
  rw [if_pos (show (Value.none == Value.none) = true from rfl)]
  first
  | exact wpAny_bind (wpAny_pure (wpAny_pure q))
  | exact wpAny_pure q
/-- a new error is raised there -/
theorem raiseNew2 {α : Type} {o1 o2 on : Obj} {v1 v2 vn : Array Value} {n : Addr} {Q : α → Shared → Prop} (hh : A.handled = some (.ref x1)) (k : Two x1 x2 o1 o2 v1 v2) (g1 : s.heap.get? x1 = some o1) (g2 : s.heap.get? x2 = some o2) (m1 : x1 ≠ n) (m2 : x2 ≠ n) (gn : s.heap.get? n = some on) (dn : on.data = .fields vn) (sz : 2 < vn.size)
    (q : E (.ref n) { s with heap := s.heap.update n (Obj.mapFields (·.setIfInBounds 2 (.ref x1))) }) : wpAny (model prog w) A (raiseNew (.ref n) : Sem α) Q E s := by
  have b : (Value.ref x1 != Value.ref n) = true := ref_bne m1
  unfold raiseNew
  refine wpAny_bind (wpAny_handled ?_)
  rw [hh]
  first
  | (show wpAny _ _ (if (Value.ref x1 != Value.ref n) = true then _ else _) _ _ _
     rw [if_pos b]
     first
     | exact wpAny_bind (unchain2 k g1 g2 m2 (wpAny_bind (chained gn dn sz (wpAny_throw q))))
     | exact wpAny_bind (wpAny_bind (unchain2 k g1 g2 m2 (chained gn dn sz (wpAny_throw q)))))
  | (refine wpAny_bind ?_
     show wpAny _ _ (if (Value.ref x1 != Value.ref n) = true then _ else _) _ _ _
     rw [if_pos b]
     exact wpAny_bind (unchain2 k g1 g2 m2 (chained gn dn sz (wpAny_throw q))))
theorem list_end2 {it l : Addr} {i : Nat} {items : Array Value} {o1 o2 : Obj} {v1 v2 : Array Value} {Q : Option Value → Shared → Prop} (hh : A.handled = some (.ref x1)) (k : Two x1 x2 o1 o2 v1 v2) (g1 : s.heap.get? x1 = some o1) (g2 : s.heap.get? x2 = some o2) (m1 : x1 ≠ it) (m2 : x2 ≠ it)
    (hit : s.heap.IsListIter it l i) (hl : s.heap.IsList l items) (hx : items[i]? = none) (hQ : ∀ h', Heap.ExtBut it s.heap h' → Q none { s with heap := h' }) : wpAny (model prog w) A (pyNext (.ref it)) Q E s := by
  obtain ⟨o, ho, hc, hd⟩ := id hit
  obtain ⟨ol, hol, _, nl, hdl⟩ := hl
  unfold pyNext
  refine wpAny_bind (wpAny_attempt (wpAny_callSpecial?_slot (name := Str.ofString "__next__") hit.typeIs slot_listiter_next (wpAny_call_entry slot_listiter_next hit.typeIs entry_listiter_next ?_ (args_listiter_next _))))
  show wpAny _ _ (field (.ref it) 0 >>= _) _ _ s
  refine wpAny_bind (wpAny_field ho hd (x := .ref l) rfl ?_)
  show wpAny _ _ (if (Value.ref l == Value.none) = true then _ else _) _ _ s
  rw [if_neg (show ¬ ((Value.ref l == Value.none) = true) from Bool.false_ne_true)]
  show wpAny _ _ (field (.ref it) 1 >>= _) _ _ s
  refine wpAny_bind (wpAny_field ho hd (x := .int i 0) rfl ?_)
  show wpAny _ _ (seqItems? (.ref l) >>= _) _ _ s
  refine wpAny_bind (wpAny_seqItems hol hdl ?_)
  simp only [Int.toNat_natCast, hx]
  refine wpAny_bind (wpAny_rule (wpAny_bind (wpAny_setField ho hd (by simp) ?_)))
  show wpAny _ _ (newExc (.type "StopIteration") [] >>= _) _ _ _
  refine wpAny_bind ?_
  simp only [newExc, newTuple]
  refine wpAny_bind (wpAny_newObj_type ?_ (by size_fits))
  refine wpAny_bind (m := firstArgMember _ _) (wpAny_of_eq (a := Value.none) (by first | rfl | (simp only [firstArgMember]; rfl)) ?_)
  refine wpAny_newObj_type ?_ (by size_fits)
  have t1 := Heap.get?_push_of_some { cls := .type "tuple", data := .seq ([] : List Value).toArray } ((Heap.get?_update_other s.heap (Obj.mapFields (·.setIfInBounds 0 Value.none)) (Ne.symm m1)).trans g1)
  have t2 := Heap.get?_push_of_some { cls := .type "tuple", data := .seq ([] : List Value).toArray } ((Heap.get?_update_other s.heap (Obj.mapFields (·.setIfInBounds 0 Value.none)) (Ne.symm m2)).trans g2)
  refine raiseNew2 hh k (Heap.get?_push_of_some _ t1) (Heap.get?_push_of_some _ t2) (Nat.ne_of_lt (Heap.lt_size t1)) (Nat.ne_of_lt (Heap.lt_size t2)) (Heap.get?_push_size _ rfl) rfl (by first | (simp; done) | (simp; omega) | (simp only [Array.size_append]; simp; omega)) ?_
  refine wpAny_bind (wpAny_isInstance (T := "StopIteration") (b := true) ⟨_, Heap.get?_update_self _ (Heap.get?_push_size _ rfl) rfl, rfl⟩ isSubtype_stop ?_)
  refine wpAny_pure (hQ _ fun b o hb e => ?_)
  have e1 := (Heap.get?_update_other s.heap (Obj.mapFields (·.setIfInBounds 0 Value.none)) (Ne.symm hb)).trans e
  rw [Heap.get?_update_other _ _ (Nat.ne_of_gt (Heap.lt_size (Heap.get?_push_of_some _ e1)))]
  exact Heap.get?_push_of_some _ (Heap.get?_push_of_some _ e1)
theorem walks2 {o1 o2 : Obj} {v1 v2 : Array Value} (hh : A.handled = some (.ref x1)) (k : Two x1 x2 o1 o2 v1 v2) (I ax : Addr) (hne : ax ≠ I) (m1 : x1 ≠ I) (m2 : x2 ≠ I) (items : Array Value) :
    Walks prog w A I [I, ax, x1, x2] [I] items.size (fun i v => items[i]? = some v) (fun i h => h.IsListIter I ax i ∧ h.IsList ax items ∧ h.get? x1 = some o1 ∧ h.get? x2 = some o2) where
  sub := fun b hb => by simp at hb; simp [hb]
  frame := fun _ _ _ st hk => ⟨st.1.at fun o e => hk I (by simp) o e, st.2.1.at fun o e => hk ax (by simp) o e, hk x1 (by simp) _ st.2.2.1, hk x2 (by simp) _ st.2.2.2⟩
  item := fun i s Q E hi st hQ => by
    refine wpAny_pyNext_list_item st.1 st.2.1 (x := items[i]) (by simp [hi]) fun h' hit' sb => ?_
    exact hQ _ h' s.toks (by simp [hi]) ⟨hit', st.2.1.extBut sb.extBut hne, sb.extBut x1 _ m1 st.2.2.1, sb.extBut x2 _ m2 st.2.2.2⟩ fun b o hb e => sb.extBut b o (fun h => hb (by simp [h])) e
  done := fun s Q E st hQ => list_end2 hh k st.2.2.1 st.2.2.2 m1 m2 st.1 st.2.1 (by simp) fun h' eb => hQ h' s.toks fun b o hb e => eb b o (fun h => hb (by simp [h])) e
  self := fun _ _ _ _ st hQ => wpAny_pyIter_listiter st.1 hQ
end
section
variable {X : Cx} {a : Addr} {oe : Obj} {pn : List (Addr × Obj)} {cls : Value} {d c : Option Addr}
/-- any(list) there -/
def rAnyK (K : PySem.W.Frag) (c : Option Addr) : List V → Hp → VK → Prop := fun xs H Q => CtxOk H c ∧ rAny K xs H Q
theorem cr_anyK (hz : Zk c cls d oe) (hf : ∃ vs, oe.data = .fields vs) : CallR (X.suite a ((a, oe) :: pn)) (.builtin "any") (rAnyK X.K c) := by
  intro pins s σ H vs us Q I r h
  obtain ⟨hc, h⟩ := h
  cases c with
  | none => exact cr_anyE (cls := cls) (d := d) ⟨hz.1, hz.2.1, hz.2.2⟩ hf pins s σ H vs us Q I r h
  | some x2 =>
    obtain ⟨b, bs, rfl, hs, q⟩ := h
    obtain ⟨its, rv, hl, _⟩ := I.list hs
    rw [Vals.ref1 r]
    have hb := rv.bls
    obtain ⟨v1, d1⟩ := hf
    have c1 : v1[2]? = some (.ref x2) := hz.2.2 v1 d1
    obtain ⟨g1, _⟩ := I.pin (a, oe) (List.mem_append.mpr (.inl List.mem_cons_self))
    obtain ⟨o2, v2, g2, d2, c2⟩ := bare_of I.hok (hc x2 rfl)
    have ne : a ≠ x2 := fun z => by
      rw [← z, g1] at g2
      cases g2
      rw [d1] at d2
      cases d2
      rw [c1] at c2
      cases c2
    refine call_any_walk (iter_any hl.isList fun s₂ e2 st hne => ?_)
    subst e2
    refine ⟨_, _, _, _, _, _, _, rfl, walks2 (A := (X.suite a ((a, oe) :: pn)).A.in1) (o1 := oe) (o2 := o2) rfl ⟨d1, c1, d2, c2, ne⟩ _ b hne (Nat.ne_of_lt (Heap.lt_size g1)) (Nat.ne_of_lt (Heap.lt_size g2)) its.toArray, ⟨st.1, st.2, Heap.get?_push_of_some _ g1, Heap.get?_push_of_some _ g2⟩, truth_bools hb, fun h' tk hk => ?_⟩
    refine ⟨.bl _, H, I.kept fun b o eo => hk b o (fun hmem => ?_) (Heap.get?_push_of_some _ eo), ?_, q⟩
    · rcases List.mem_cons.mp hmem with e1 | hmem
      · exact absurd (e1 ▸ Heap.lt_size eo) (Nat.lt_irrefl _)
      · cases hmem
    · show Value.bool _ = Value.bool _
      rw [← L2.any_range, hb, List.size_toArray, List.length_map]
variable {e e1 e2 : Expr} {tr : TA} {p1 pos : Pos}
theorem x_anyK (K : PySem.W.Frag) (hK : X.K = K) (hz : Zk c cls d oe) (hf : ∃ vs, oe.data = .fields vs) (hm : X.mg "any" = none) (hg : Gl X "any") (ha : PA (X.suite a ((a, oe) :: pn)) [e] tr)
    (he : starEach [e] X.env = (false, eval e X.env) :: starEach [] X.env := by rfl) (hpl : (backTo pos (starEach [] X.env)).any (·.1) = false := by rfl) : PE (X.suite a ((a, oe) :: pn)) (.Call (.Name "any" p1) [e] [] pos) (tCB (rAnyK K c) tr) := by
  subst hK; exact pe_callB (cr_anyK hz hf) hg hm (by decide +kernel) ha (he := he) (hpl := hpl)
theorem x_isK (K : PySem.W.Frag) (hK : X.K = K) (hz : Zk c cls d oe) (hf : ∃ vs, oe.data = .fields vs) (hm : X.mg "isinstance" = none) (hg : Gl X "isinstance") (ha : PA (X.suite a ((a, oe) :: pn)) [e1, e2] tr)
    (he : starEach [e1, e2] X.env = (false, eval e1 X.env) :: starEach [e2] X.env := by rfl) (hpl : (backTo pos (starEach [e2] X.env)).any (·.1) = false := by rfl) : PE (X.suite a ((a, oe) :: pn)) (.Call (.Name "isinstance" p1) [e1, e2] [] pos) (tCB (rIsX K a cls d) tr) := by
  subst hK; exact pe_callB (call_isX hz.zc hf) hg hm (by decide +kernel) ha (he := he) (hpl := hpl)
end
end L2K
namespace L2
open PySem PySem.Spec PyProof.Rows
/-- a def that may raise, its errors with or without context -/
theorem Fun.okK {P : Program} {w : World} {K : PySem.W.Frag} {mg : Str → Option Value} {base : Heap} {x qual : Str} {st : Stmt} {f : Addr} {fd : FuncData} {N ps : List Str} {k : Nat} {sp : Sp} (F : Fun K x qual st f fd) (S : FnScope N ps (defScope st)) (len : ∀ vs H Q E, sp vs H Q E → vs.length = ps.length)
    (hbody : ∀ (cdv : Value) (A : Around) (outer : List Env) (s : Shared) (H : Hp) (vs : List V) (Q : VK) (E : XK), Room k (A.deeper (envOfC qual (defScope st) s.heap.objs.size f cdv)) → sp vs H Q E →
      ∃ t, PSs (cxOf (L2K.CXk P w) P w K mg base N qual (defScope st) f cdv A outer s H E) (defBody st) t ∧ t { nx := fun _ H' => Q .non H', rt := Q } (start N vs) H) : FnOk P w K mg base (L2K.CXk P w) (k + 1) f fd ps sp := by
  obtain ⟨oc, od, kV, doc, pm, an, cdv, ct, osl, rfl, lk, hcd⟩ := F.ex
  exact fn_of lk hcd S len fun A outer s H vs Q E hr hsp => hbody cdv A outer s H vs Q E hr hsp
end L2
namespace RK
open PySem L2 L2K Evl RR PyProof.Rows
theorem ev_anyK {K : PySem.W.Frag} {σ : L2.St} {H : Hp} {te : TE} {c : Option Addr} {bs : List Bool} (hc : CtxOk H c) (h : EvR K te σ H (bls bs)) : Ev (tCB (rAnyK K c) (tCons te tNil)) σ H (.bl (bs.any id)) := fun H1 e Q q =>
  h H1 e _ fun p H2 e2 hp => ⟨fun x z => e2 _ _ (e _ _ (hc x z)), p, bs, rfl, hp, q H2 e2⟩
end RK
/-! RrComp: a comprehension stored under a name, the call of whose element may raise. -/
namespace L2X
open PySem PySem.Spec PyProof.Rows L2
/-- behind the block: what is stored, or the error that goes on -/
def UsePost (M : Model) (A : Around) (E : Value → Shared → Prop) (u : Value → Sem Unit) (Q : Value → Shared → Prop) (acc : Value) (ce : Env) (r : Result) (s' : Shared) : Prop :=
  match r with
  | .ok _ => wpAny M A (u acc) (fun _ t => ∃ m, t.heap.Ns ce.locals m ∧ ∀ h', Heap.SameBut ce.locals t.heap h' → Q .none { t with heap := h' }) E s'
  | .error x => ∃ m, s'.heap.Ns ce.locals m ∧ ∀ h', Heap.SameBut ce.locals s'.heap h' → wpAny M A (passOn "comprehension.variables-let-go" x ce : Sem Value) (fun _ _ => False) E { s' with heap := h' }
theorem comp_use {M : Model} {A : Around} {E : Value → Shared → Prop} {s : Shared} {env : Env} {e : Expr} {scope : Scope} {pos : Pos} {newAcc first : Sem Value} {g : Comprehension} {gs : List Comprehension} {cl : List (Str × Addr)} {u : Value → Sem Unit} {Q : Value → Shared → Prop} (hcl : clausesOf e = g :: gs)
    (hs : ∀ x, foldedSetIterable g.iter env x = pure x) (hclos : closureFor scope env = pure cl) (hk : scope.kind = .function) (hn : ∀ x ∈ scope.names, x.2 = .local → scope.names.lookup x.1 = some .local)
    (h : wpAny M A first (fun x t1 => wpAny M A (pyIter x) (fun it t2 => wpAny M A newAcc (fun acc t3 => wpAny M A (newFunctionEnv scope env.globals cl [] env.qual none .none (some env)) (fun ce t4 =>
      codeAny M A (.compStart e 0 it acc { ce with scope := relabel scope env }) (UsePost M A E u Q acc { ce with scope := relabel scope env }) t4) E t3) E t2) E t1) E s) :
    wpAny M A (comprehension e scope env pos newAcc false first (some u)) Q E s := by
  unfold comprehension
  rw [hclos, hcl]
  refine wpAny_bind (wpAny_mono h (fun x t1 h1 => ?_) fun _ _ z => z)
  refine wpAny_bind (wpAny_standAt (wpAny_bind (wpAny_of_eq (hs x) (wpAny_bind (wpAny_holding (wpAny_mono h1 (fun it t2 h2 => ?_) fun _ _ z => z))))))
  refine wpAny_standIf (wpAny_bind (wpAny_mono h2 (fun acc t3 h3 => ?_) fun _ _ z => z))
  refine wpAny_bind (wpAny_pure (wpAny_bind (wpAny_mono h3 (fun ce t4 h4 => ?_) fun _ _ z => z)))
  dsimp only
  have loc : ∀ x ∈ (scope.names.filter fun x => (x.2 == .local || x.2 == .cell) && x.1 != (".0" : Str)).reverse, x.2 = .local → Env.kindOf { ce with scope := relabel scope env } x.1 = some .local := fun x hx hl =>
    lookup_relabel_local (hn x (List.mem_filter.mp (List.mem_reverse.mp hx)).1 hl)
  refine wpAny_holding (wpAny_bind (wpAny_attempt (wpAny_holding (wpAny_run (codeAny_mono h4 fun r t5 hr => ?_)))))
  cases r with
  | ok f =>
    refine wpAny_bind (wpAny_rule (wpAny_bind (wpAny_holding (wpAny_mono hr (fun _ t6 h6 => ?_) fun _ _ z => z))))
    obtain ⟨m, hm, hq⟩ := h6
    refine wpAny_bind (wpAny_comp_letGo (cenv := { ce with scope := relabel scope env }) hk _ t6 m (fun x hx => ?_) hm fun h' m' _ sb => wpAny_pure (hq h' sb))
    rcases List.mem_append.mp hx with k | k
    · exact loc x (List.mem_of_mem_drop k)
    · exact loc x (List.mem_of_mem_take k)
  | error x =>
    obtain ⟨m, hm, hq⟩ := hr
    exact wpAny_bind (wpAny_holding (wpAny_comp_letGo (cenv := { ce with scope := relabel scope env }) hk _ t5 m loc hm fun h' m' _ sb => wpAny_mono (hq h' sb) (fun _ _ z => z.elim) fun _ _ z => z))
/-- the wish of the block: what the element's call lets out -/
def BlkX (Y : Cx) (E : XK) (u : Value) (s' : Shared) : Prop := ∃ (pins : List (Addr × Obj)) (σ : L2.St) (H : Hp) (s : Shared), Inv Y pins σ H s ∧ L2N.CX Y.prog Y.w Y.stack H s E u s'
theorem blkPass {Y : Cx} {E : XK} (σ : L2.St) : PassesAt (L2N.CX Y.prog Y.w) (Y.wish (BlkX Y E)) σ E := fun pins H s e s' I c => ⟨pins, σ, H, s, I.unwish, c⟩
theorem frames_at {B h h1 : Heap} : ∀ {l : List Env}, (∀ b ∈ frs l, h1.get? b = h.get? b) → h.FunFrames B l → h1.FunFrames B l
  | [], _, _ => trivial
  | env :: l, k, x => by
    obtain ⟨x1, ⟨L, o, x2, x3, x4, x5⟩, x6⟩ := x
    refine ⟨x1, ⟨L, o, x2, x3, ?_, x5⟩, frames_at (fun b hb => k b ?_) x6⟩
    · rw [k L (List.mem_filterMap.mpr ⟨env, List.mem_cons_self, x2⟩)]
      exact x4
    · obtain ⟨v, m1, m2⟩ := List.mem_filterMap.mp hb
      exact List.mem_filterMap.mpr ⟨v, List.mem_cons_of_mem _ m1, m2⟩
section
variable {X : Cx} {E : XK}
/-- an error that a call within the block let out, noted in the frame, the block's own dict C gone: it is in the air of X -/
theorem block_out {pins pin9 : List (Addr × Obj)} {σ σ9 : L2.St} {H3 H9 : Hp} {s3 s9 s10 : Shared} {scope : Scope} {ce : Env} {fp : List Addr} {a : Addr} {B : Heap} {G : Hp} {cls : Value} {d : Option Addr} (hs : X.stack = X.env :: X.outer) (hf : X.env.frame = some X.env.locals) (cF : ce.frame = X.env.frame)
    (hnote : ∀ u, noteFrame u ce = noteFrame u X.env) (tk : L2N.Takes X (fun cls d _ H => E cls d H)) (I3 : Inv X pins σ H3 s3) (hfp : ∀ b ∈ fp, FpOk X pins H3 b ∧ b < s3.heap.objs.size) (hC : s3.heap.objs.size ≤ ce.locals) (I9 : Inv (X.blk s3 H3 scope ce fp) pin9 σ9 H9 s9)
    (fl : HandSPX.FlyingZ B X.stack a (L2N.Zn cls d) s10.heap) (hok : HOk X.prog X.w G B) (ub : UB (frs X.stack) H9 G s9.heap B s10.heap) (fr : G a = none) (ho : s10.os = s9.os) (hb : AllBare s10.gens) (hE : E cls d G) {u : Value → Sem Unit} {Q : Value → Shared → Prop} {acc : Value} :
    wpAny (model X.prog X.w) X.A (noteFrame (.ref a) ce) (fun _ t => UsePost (model X.prog X.w) X.A X.xe u Q acc ce (.error (.ref a)) t) (fun e t => UsePost (model X.prog X.w) X.A X.xe u Q acc ce (.error e) t) s10 := by
  have frm : X.A.frames = some (X.env :: X.outer) := I3.ok.frames.trans (congrArg some hs)
  have nC : ce.locals ∉ frs X.stack := fun m => by
    rcases List.mem_cons.mp (I3.stkSub _ m) with z | z
    · have := I3.lt
      rw [← z] at this
      exact absurd this (Nat.not_lt.mpr hC)
    · exact I3.nofs hC z
  obtain ⟨m9, ⟨oC, es, ep, gC, rC⟩, _⟩ := I9.loc
  have BC : B.get? ce.locals = some oC := ub.keep _ _ gC I9.free nC
  have GC : G ce.locals = none := ub.free _ _ gC I9.free
  rw [hnote]
  have fl' : HandSPX.FlyingZ B (X.env :: X.outer) a (L2N.Zn cls d) s10.heap := hs ▸ fl
  refine PXN.looks_onZ L2N.Zn.steady frm hf fl' fun h11 held u11 => ?_
  refine ⟨m9, ⟨oC, es, ep, held.1 _ _ BC, rC⟩, fun h' sb => ?_⟩
  obtain ⟨k1, k2, k3, oe, vs, T, oT, ts, g1, g2, g3, g4, g5, g6, g7, g8, g9⟩ := held
  have aC : a ≠ ce.locals := fun z => by
    rw [z, BC] at k2
    cases k2
  have TC : T ≠ ce.locals := fun z => by
    rw [z, BC] at g5
    cases g5
  have inB : ∀ b o, (PySem.W.hideAll B [ce.locals]).get? b = some o → B.get? b = some o ∧ b ≠ ce.locals := fun b o e => ⟨PySem.W.of_hideAll _ e, fun z => by
    rw [PySem.W.hideAll_none _ (by rw [z]; exact List.mem_singleton_self _)] at e
    cases e⟩
  have toB : ∀ b o, B.get? b = some o → b ≠ ce.locals → (PySem.W.hideAll B [ce.locals]).get? b = some o := fun b o e n => PySem.W.hideAll_get _ e (by simp [n])
  have goneB : ∀ b, B.get? b = none → (PySem.W.hideAll B [ce.locals]).get? b = none := fun b e => by
    cases z : (PySem.W.hideAll B [ce.locals]).get? b with
    | none => rfl
    | some o =>
      rw [(inB b o z).1] at e
      cases e
  have fC : ∀ b ∈ frs (X.env :: X.outer), h'.get? b = h11.get? b := fun b m => sb.2 b fun z => nC (by rw [hs, ← z]; exact m)
  have held' : HandSPX.HeldZ (PySem.W.hideAll B [ce.locals]) (X.env :: X.outer) a (L2N.Zn cls d) X.env.locals h' :=
    ⟨fun b o e => (sb.2 b (inB b o e).2).trans (k1 b o (inB b o e).1), goneB a k2, frames_at fC (funFrames_none k3 fun b m => goneB b (k3.mem m).1), oe, vs, T, oT, ts, (sb.2 a aC).trans g1, g2, g3, g4, goneB T g5, g6, (sb.2 T TC).trans g7, g8, g9⟩
  unfold PySem.passOn
  refine wpAny_bind (wpAny_field ((sb.2 a aC).trans g1) g3 g4 ?_)
  rw [if_neg (show ¬ (Value.ref T == Value.none) = true from fun z => nomatch (beq_iff_eq.mp z))]
  have last : wpAny (model X.prog X.w) X.A (setFlight (.ref a) ce.frame) (fun _ t => wpAny (model X.prog X.w) X.A (throw (.ref a) : Sem Value) (fun _ _ => False) X.xe t) X.xe { s10 with heap := h' } := by
    rw [cF, hf]
    refine HandSPX.setFlight_onZ held' fun h2 held2 u2 => wpAny_throw (tk _ _ ?_)
    obtain ⟨Z, in1, in2⟩ := restrict h2 fun b => ((PySem.W.hideAll B [ce.locals]).get? b).isSome || decide (b ∈ frs X.stack)
    have fB : ∀ b o, (PySem.W.hideAll B [ce.locals]).get? b = some o → Z.get? b = some o := fun b o e => (in1 b (by rw [e]; rfl)).trans (held2.1 b o e)
    have fF : ∀ b, b ∈ frs X.stack → Z.get? b = h2.get? b := fun b m => in1 b (by rw [decide_eq_true m, Bool.or_true])
    have back : ∀ b o, Z.get? b = some o → h2.get? b = some o ∧ ((∃ o', (PySem.W.hideAll B [ce.locals]).get? b = some o') ∨ b ∈ frs X.stack) := fun b o e => by
      by_cases k : b ∈ frs X.stack
      · exact ⟨(fF b k).symm.trans e, .inr k⟩
      · cases q : (PySem.W.hideAll B [ce.locals]).get? b with
        | some o' => exact ⟨(in1 b (by rw [q]; rfl)).symm.trans e, .inl ⟨o', rfl⟩⟩
        | none =>
          rw [in2 b (by rw [q, decide_eq_false k]; rfl)] at e
          cases e
    have low : ∀ b o, s3.heap.get? b = some o → b ≠ ce.locals := fun b o e => Nat.ne_of_lt (Nat.lt_of_lt_of_le (Heap.lt_size e) hC)
    have base : Un (frs X.stack) fp H3 H9 s3.heap s9.heap := I9.base
    have slots : ∀ b o, s9.heap.get? b = some o → b ∈ frs X.stack → ∃ sl, Z.get? b = some { o with slots := sl } := fun b o e m => by
      obtain ⟨sl, t1⟩ := ub.slot b o e m
      obtain ⟨_, o', t2, nf⟩ := fl.2.2.1.mem m
      rw [t1] at t2
      cases t2
      obtain ⟨sl2, t3⟩ := u11 b _ t1 nf
      have t4 := (fC b (by rw [← hs]; exact m)).trans t3
      obtain ⟨sl3, t5⟩ := u2 b _ t4 nf
      exact ⟨sl3, (fF b m).trans t5⟩
    refine ⟨a, PySem.W.hideAll B [ce.locals], { s10 with heap := Z }, pins, σ, G, cls, d, rfl, ?_, fun b o e k => ?_, Heap.UpToSlots.of_keeps fun b o e => (back b o e).1, .inr (.inr (by rw [hs]; exact held2)), fr, rfl, hb, hE⟩
    · refine I3.call' (ch := fp) (ho.trans I9.os) ⟨?_, ?_, ?_, ?_, ?_, ?_, ?_⟩ (fun b o e => ?_) hb fun b m => ⟨(hfp b m).1.2.2.2.1, (hfp b m).1.2.1, (hfp b m).1.2.2.2.2.1, (hfp b m).1.2.2.2.2.2⟩
      · intro b o e n k1 k2
        exact fB b o (toB b o (ub.keep b o (base.keep b o e n k1 k2) (base.free b o e n k2) k1) (low b o e))
      · intro b o e n k1 k2
        obtain ⟨sl, t⟩ := base.slot b o e n k1 k2
        obtain ⟨sl2, t2⟩ := slots b _ t k1
        exact ⟨sl2, t2⟩
      · intro b o e n k
        obtain ⟨o', t⟩ := base.there b o e k
        exact ub.free b o' t (base.free b o e n k)
      · intro b o e k
        obtain ⟨o', t⟩ := base.there b o e k
        by_cases m : b ∈ frs X.stack
        · obtain ⟨sl, t2⟩ := slots b o' t m
          exact ⟨_, t2⟩
        · obtain ⟨o2, t2⟩ := ub.there b o' t m
          exact ⟨o2, fB b o2 (toB b o2 t2 (low b o e))⟩
      · exact fun b xs e => ub.tups b xs (base.tups b xs e)
      · exact fun b o v e => ub.frzs b o v (base.frzs b o v e)
      · intro b ps e
        obtain ⟨m1, t1⟩ := base.tbls b ps e
        obtain ⟨m2, t2⟩ := ub.tbls b _ t1
        exact ⟨m1 ++ m2, by rw [t2, Array.append_assoc]⟩
      · refine (hok b o e).stay (fun c v hc q => fB c v (toB c v q fun z => ?_)) (fun _ q => q) fun _ _ q => q
        rcases hc with hc | hc
        · rw [← hc, z, GC] at e
          cases e
        · rw [z, GC] at hc
          cases hc
    · obtain ⟨e1, ⟨o', e2⟩ | k2⟩ := back b o e
      · have z := held2.1 b o' e2
        rw [e1] at z
        cases z
        exact e2
      · exact absurd k2 k
  first
  | exact wpAny_bind (wpAny_pure (wpAny_bind last))
  | exact wpAny_bind last
/-- name = [f(..) for target in iter], on one line, f may raise -/
theorem ps_setLcX {i : Nat} {y : Str} {py : Pos} {elt tg iter : Expr} {scope : Scope} {own : List (Str × Nat)} {pos spos : Pos} {wi : TI} {g : TG} {te : TE} (hc : X.calm = true) (hs : X.stack = X.env :: X.outer) (hf : X.env.frame = some X.env.locals) (hN : X.N.Nodup) (hy : X.N[i]? = some y) (hyl : X.env.scope.names.lookup y = some .local)
    (hsw : swapsWith (.ListComp elt [⟨tg, iter, [], 0⟩] scope pos) (some (.Name y py)) spos.line X.env = pure true) (tk : L2N.Takes X (fun cls d _ H => E cls d H)) (hi : PI X tg iter wi) (ok : BlkOk X.N X.env.scope scope own)
    (hg : ∀ (s : Shared) (H : Hp) (C : Addr) (cl : List (Str × Addr)) (fp : List Addr), PG (X.blk s H scope (compEnvC scope cl C X.env) fp) tg g)
    (he : ∀ (s : Shared) (H : Hp) (C : Addr) (cl : List (Str × Addr)) (fp : List Addr), PE ((X.blk s H scope (compEnvC scope cl C X.env) fp).wish (BlkX (X.blk s H scope (compEnvC scope cl C X.env) fp) E)) elt te) (hfs : ∀ x, foldedSetIterable iter X.env x = pure x := by intro _; rfl) :
    PS X (.Assign [.Name y py] (.ListComp elt [⟨tg, iter, [], 0⟩] scope pos) spos) (tAsg (tLc wi g tYes te (own.map (·.2))) (gName i)) := by
  refine ⟨fun pins s σ H Ds I h => ?_⟩
  have h : tLc wi g tYes te (own.map (·.2)) σ H (fun x H1 => gName i x σ H1 Ds.nx) := h
  have frees : ∀ z ∈ scope.names, z.2 = .free → ∃ c, X.env.cells.lookup z.1 = some c := fun z hz e => I.ok.has _ (ok.free z hz e)
  rw [exec_Assign_Name_used _ _ _ _ hsw]
  refine wpAny_bind (wpAny_standAt (wpAny_bind (wpAny_bind (wpAny_mono (comp_use (Q := fun _ t => SP X pins Ds .next t) rfl hfs (closure_ok frees) ok.kind (fun z hz e => by rw [ok.uniq z hz, e]) ?_) (fun _ t q => wpAny_pure (wpAny_pure q)) fun _ _ z => z))))
  refine thn (hi.run pins s σ H _ I h) fun xv s1 h1 => thn h1 fun itv s2 h2 => ?_
  obtain ⟨it, fp, tn, J, H2, rfl, I2, T, st2, f2, q⟩ := h2
  refine wpAny_newObj_type (newEnv_comp ?_) (by show 0 ≤ sizeLine; decide)
  generalize hD : s2.heap.objs.size = D
  obtain ⟨W, ⟨m0, w0⟩, turn⟩ := q D (I2.hok.fresh (Nat.le_of_eq hD))
  obtain ⟨s3, e3⟩ : ∃ z : Shared, z = { s2 with heap := s2.heap.push { cls := .type "list", data := .seq ([] : List Value).toArray } } := ⟨_, rfl⟩
  rw [← e3]
  have h3 : s3.heap = s2.heap.push { cls := .type "list", data := .seq ([] : List Value).toArray } := by rw [e3]
  have sz3 : s3.heap.objs.size = s2.heap.objs.size + 1 := by
    rw [h3]
    exact Heap.size_push ..
  have kp : ∀ b o, s2.heap.get? b = some o → s3.heap.get? b = some o := fun b o e => by
    rw [h3]
    exact Heap.get?_push_of_some _ e
  have g0 : s3.heap.get? D = some { cls := .type "list", data := .seq ([] : List Value).toArray } := by
    rw [h3, ← hD]
    exact Heap.get?_push_size _ rfl
  have I3 : Inv X pins σ (upd H2 D (.lst [])) s3 := by
    have t := I2.laid (h' := s3.heap) (t' := s2.toks) (a := D) (o := .lst []) kp (Nat.le_of_eq hD) ⟨Nat.zero_le _, [], 0, .nil, g0⟩
    rw [show s3 = { s2 with heap := s3.heap, toks := s2.toks } by rw [e3]]
    exact t
  obtain ⟨H3, eH⟩ : ∃ z, z = upd H2 D (.lst []) := ⟨_, rfl⟩
  rw [← eH] at I3 w0
  have f3 : ∀ b ∈ fp, FpOk X pins H3 b ∧ b < s3.heap.objs.size := fun b hb => by
    obtain ⟨o, e, _⟩ := T.obj _ _ st2 b hb
    have lt := Heap.lt_size e
    refine ⟨⟨?_, (f2 b hb).2⟩, by rw [sz3]; exact Nat.lt_succ_of_lt lt⟩
    rw [eH, upd_ne (by rw [← hD]; exact Nat.ne_of_lt lt)]
    exact (f2 b hb).1
  have st3 : tn 0 s3.heap := T.keep _ _ _ st2 fun b _ o e => kp b o e
  have I4 := block_start I3 ok hN f3
  have pg := hg s3 H3 s3.heap.objs.size (cellsFrom (s3.heap.objs.size + 1) scope.names (cloFrom X.env.cells scope.names [])) fp
  have pe := he s3 H3 s3.heap.objs.size (cellsFrom (s3.heap.objs.size + 1) scope.names (cloFrom X.env.cells scope.names [])) fp
  have st4 : tn 0 (pushCells (s3.heap.push { cls := .type "dict", data := .dict #[] }) scope.names) := T.keep _ _ _ st3 fun b _ o e => pushCells_keeps _ _ _ _ (Heap.get?_push_of_some _ e)
  show codeAny _ _ (.compStart _ 0 (.ref it) (.ref D) (compEnvC scope (cellsFrom (s3.heap.objs.size + 1) scope.names (cloFrom X.env.cells scope.names [])) s3.heap.objs.size X.env)) (UsePost (model X.prog X.w) X.A X.xe _ _ (.ref D) (compEnvC scope (cellsFrom (s3.heap.objs.size + 1) scope.names (cloFrom X.env.cells scope.names [])) s3.heap.objs.size X.env)) _
  have note : ∀ u, noteFrame u (compEnvC scope (cellsFrom (s3.heap.objs.size + 1) scope.names (cloFrom X.env.cells scope.names [])) s3.heap.objs.size X.env) = noteFrame u X.env := fun _ => rfl
  obtain ⟨ce, hce⟩ : ∃ z, z = compEnvC scope (cellsFrom (s3.heap.objs.size + 1) scope.names (cloFrom X.env.cells scope.names [])) s3.heap.objs.size X.env := ⟨_, rfl⟩
  have cL : ce.locals = s3.heap.objs.size := by rw [hce]; rfl
  have cF : ce.frame = X.env.frame := by rw [hce]; rfl
  rw [← hce] at I4 pg pe note ⊢
  obtain ⟨s4, e4⟩ : ∃ z : Shared, z = { s3 with heap := pushCells (s3.heap.push { cls := .type "dict", data := .dict #[] }) scope.names } := ⟨_, rfl⟩
  rw [← e4] at I4 ⊢
  have st4 : tn 0 s4.heap := by rw [e4]; exact st4
  have quiet : ∀ {τ : L2.St} {G : Hp} {t : Shared}, Inv (X.blk s3 H3 scope ce fp) [] τ G t → (∀ b ∈ fp, G b = none) → ∀ b ∈ fp, FpOk (X.blk s3 H3 scope ce fp) [] G b := fun {τ G t} J n b hb =>
    ⟨n b hb, (J.ok.exf b hb).1, J.ok.exfs b hb, .inl hb, fun x c e => (J.ok.exf b hb).2 x c e, fun p hp => absurd (show p ∈ ([] : List (Addr × Obj)) ++ [] from hp) (by simp)⟩
  have loop : codeAny (model X.prog X.w) X.A (.compLoop (.ListComp elt [⟨tg, iter, [], 0⟩] scope pos) 0 (.ref it) (.ref D) ce) (UsePost (model X.prog X.w) X.A X.xe (assign (.Name y py) X.env) (fun _ t => SP X pins Ds .next t) (.ref D) ce) s4 := by
    refine compLoop_any (fun n t => ∃ j G, Inv (X.blk s3 H3 scope ce fp) [] (wipe σ (own.map (·.2))) G t ∧ tn j t.heap ∧ (∀ b ∈ fp, G b = none) ∧ W j n G) ?_ m0 ⟨0, H3, I4, st4, fun b hb => (f3 b hb).1.1, w0⟩
    rintro n s5 ⟨j, H5, I5, st5, n5, w5⟩
    rcases turn j n H5 w5 with ⟨stop, qq⟩ | ⟨go, Nx, hNx, step⟩
    · refine thnF (T.done (X.blk s3 H3 scope ce fp) rfl rfl rfl hc j [] s5 _ H5 (fun _ _ => False) I5 (quiet I5 n5) st5 stop) fun r s6 ⟨hr, I6⟩ => ?_
      subst hr
      have I7 : Inv X pins σ H5 s6 := I3.call' (ch := fp) I6.os I6.base I6.hok I6.bare fun b hb => ⟨(f3 b hb).1.2.2.2.1, (f3 b hb).1.2.1, (f3 b hb).1.2.2.2.2.1, (f3 b hb).1.2.2.2.2.2⟩
      have nC : H5 ce.locals = none := I6.free
      obtain ⟨m, hm, _⟩ := I6.loc
      obtain ⟨q0, q1, q2, q3, q4, q5⟩ := I3.fpOk (Nat.le_of_eq cL.symm) nC
      show wpAny _ _ (assign (.Name y py) X.env (.ref D)) _ _ _
      refine wpAny_assign_Name (store_ok2 (v := V.ref D) I7 hN hy (.inl hyl) rfl (fun s8 I8 ⟨a, sb, ha⟩ => ?_) (.inr hyl))
      have aC : ce.locals ≠ a := by
        rcases ha with z | z
        · rw [z]
          exact q1
        · exact fun e => q4 y a z e.symm
      exact ⟨m, Heap.Ns.sameBut hm sb aC, fun h9 sb9 => ⟨_, H5, I8.turned (t' := s8.toks) (fun b o hb e => (sb9.2 b hb).trans e) q0 q1 q3 q4 q5, qq⟩⟩
    · refine thnF (T.item (X.blk s3 H3 scope ce fp) rfl rfl rfl hc j [] s5 _ H5 (fun _ _ => False) I5 (quiet I5 n5) st5 go) fun r s6 ⟨v, hr, h6⟩ => ?_
      subst hr
      refine thnF h6 fun _ s7 ⟨x, H7, I7, r7, y7, st7, n7⟩ => ?_
      refine thnF (pg.run _ s7 _ H7 x v _ (I7.pinned (quiet I7 n7) (T.obj _ _ st7)) r7 (step x H7 y7)) fun _ s8 ⟨σ8, H8, I8, hw8, q8⟩ => ?_
      refine thnF ((pts_nil (X := X.blk s3 H3 scope ce fp)).run _ s8 σ8 H8 _ I8 q8) fun b s9 ⟨H9, I9, q9⟩ => ?_
      have fin : ∀ {t : Shared} {G : Hp}, Inv (X.blk s3 H3 scope ce fp) ([] ++ pinsAt fp s7.heap) σ8 G t → Nx G → ∃ m, m < n ∧ ∃ j G, Inv (X.blk s3 H3 scope ce fp) [] (wipe σ (own.map (·.2))) G t ∧ tn j t.heap ∧ (∀ b ∈ fp, G b = none) ∧ W j m G := fun {t G} J nx => by
        obtain ⟨m, hm, w'⟩ := hNx G nx
        have at_ : ∀ b ∈ fp, ∀ o, s7.heap.get? b = some o → t.heap.get? b = some o ∧ G b = none := fun b hb o e => by
          obtain ⟨z1, z2, _⟩ := J.pin (b, o) (List.mem_append_right _ (List.mem_append_right _ (mem_pinsAt hb e)))
          exact ⟨z1, z2⟩
        refine ⟨m, hm, j + 1, G, (J.unpinned (pins := [])).weak (by rw [← hw8, wipe_length]) (fun k v e => ?_), T.keep _ _ _ st7 fun b hb o e => (at_ b hb o e).1, fun b hb => ?_, w'⟩
        · rw [← hw8] at e
          exact (wipe_some e).1
        · obtain ⟨o, e, _⟩ := T.obj _ _ st7 b hb
          exact (at_ b hb o e).2
      cases b with
      | false => exact fin I9 q9
      | true =>
        refine wpAny_mono (pe.run _ s9 σ8 H9 _ (I9.wish _) q9) (fun z s10 ⟨yv, H10, I10, r10, acc, hD10, hz10, nx⟩ => ?_) (fun u s10 out => ?_)
        · exact app_ok (X := X.blk s3 H3 scope ce fp) I10.unwish hD10 hz10 r10 fun s11 I11 => fin I11 nx
        · obtain ⟨pin9, σ9, G9, t9, J9, a, B, G, cls, d, rfl, fl, hok, ub, fr, ho, hbr, hE⟩ := out
          show wpAny _ _ (noteFrame (.ref a) ce) _ _ _
          refine wpAny_mono (block_out hs hf cF note tk I3 f3 (Nat.le_of_eq cL.symm) J9 fl hok ub fr ho hbr hE) (fun _ _ z => z) fun _ _ z => z
  exact codeAny_compStart_list loop (T.self X.A 0 _ _ _ st4 loop)
end
end L2X
/-! RrText: texts by their signs: figures, words, what a text writes. -/
namespace RT
open PySem PySem.Builtin PySem.Builtin.Str SX RR
def FIGS : List Nat := [48, 49, 50, 51, 52, 53, 54, 55, 56, 57]
def isDig (c : Nat) : Bool := decide (48 ≤ c) && decide (c ≤ 57)
theorem figs_has (c : Nat) : (S FIGS).cps.contains c = isDig c := by
  rw [Bool.eq_iff_iff, Array.contains_iff_mem]
  show c ∈ FIGS.toArray ↔ _
  rw [List.mem_toArray]
  unfold FIGS isDig
  simp only [List.mem_cons, List.mem_nil_iff, or_false, Bool.and_eq_true, decide_eq_true_eq]
  omega
theorem take_all {p : Nat → Bool} : ∀ l : List Nat, (l.takeWhile p).length = l.length ↔ l.all p = true
  | [] => by simp
  | c :: l => by
    rw [List.takeWhile_cons]
    cases h : p c with
    | true =>
      rw [if_pos rfl, List.length_cons, List.length_cons, List.all_cons, h, Bool.true_and, ← take_all l]
      omega
    | false =>
      rw [if_neg Bool.false_ne_true, List.all_cons, h]
      simp
theorem take_le {p : Nat → Bool} (l : List Nat) : (l.takeWhile p).length ≤ l.length := (List.takeWhile_prefix p).length_le
theorem take_ok {p : Nat → Bool} : ∀ l : List Nat, (l.takeWhile p).all p = true
  | [] => rfl
  | c :: l => by
    rw [List.takeWhile_cons]
    cases h : p c with
    | true => rw [if_pos rfl, List.all_cons, h, take_ok l]; rfl
    | false => rfl
theorem drop_tw {p : Nat → Bool} : ∀ l : List Nat, l.drop (l.takeWhile p).length = l.dropWhile p
  | [] => rfl
  | c :: l => by
    rw [List.takeWhile_cons, List.dropWhile_cons]
    cases h : p c with
    | true => exact drop_tw l
    | false => rfl
/-- strip of figures leaves nothing just where all are figures -/
theorem strip_figs (w : List Nat) : (Txt.stripChars (S w) (S FIGS) = S []) ↔ w.all isDig = true := by
  have e : (S FIGS).cps.contains = isDig := funext figs_has
  unfold Txt.stripChars
  rw [PyProof.Rows.stripBy_eq, e]
  constructor
  · intro h
    have h := congrArg TL.tl h
    rw [TL.tl_strSub] at h
    have hl := congrArg List.length h
    rw [List.length_take, List.length_drop] at hl
    have l1 := take_le (p := isDig) w
    have sl : (S w).length = w.length := S_len w
    have lo : stripLo isDig true (S w) = (w.takeWhile isDig).length := rfl
    have hi : stripHi isDig true (S w) (stripLo isDig true (S w)) = w.length - ((w.drop (w.takeWhile isDig).length).reverse.takeWhile isDig).length := by
      rw [lo]
      show (S w).length - _ = _
      rw [sl]
    rw [hi, lo] at hl
    have l2 := take_le (p := isDig) (w.drop (w.takeWhile isDig).length).reverse
    rw [List.length_reverse, List.length_drop] at l2
    have tlw : TL.tl (S w) = w := rfl
    rw [tlw] at hl
    have hl : min (w.length - ((w.drop (w.takeWhile isDig).length).reverse.takeWhile isDig).length - (w.takeWhile isDig).length) (w.length - (w.takeWhile isDig).length) = 0 := hl
    have l3 : ((w.drop (w.takeWhile isDig).length).reverse.takeWhile isDig).length = (w.drop (w.takeWhile isDig).length).reverse.length := by
      rw [List.length_reverse, List.length_drop]
      omega
    have l4 := (take_all _).mp l3
    rw [List.all_reverse] at l4
    have l5 : (w.takeWhile isDig).all isDig = true := take_ok w
    have split : w = w.takeWhile isDig ++ w.drop (w.takeWhile isDig).length := by
      have := List.takeWhile_append_dropWhile (p := isDig) (l := w)
      rw [drop_tw]
      exact this.symm
    have z : (w.takeWhile isDig ++ w.drop (w.takeWhile isDig).length).all isDig = true := by
      rw [List.all_append, l5, l4]
      rfl
    rw [← split] at z
    exact z
  · intro h
    have lo : stripLo isDig true (S w) = w.length := (take_all w).mpr h
    refine TL.ext_tl ?_
    rw [TL.tl_strSub, lo]
    have : (TL.tl (S w)).drop w.length = [] := List.drop_length
    rw [this, List.take_nil]
/-- a number's figures -/
def numOk (w : List Nat) : Bool := (decide (1 ≤ w.length) && decide (w.length ≤ 3)) && w.all isDig && !(decide (w[0]? = some 48) && !decide (w = [48]))
def numV (w : List Nat) : Int := ((NumText.digitsVal w : Nat) : Int)
theorem numOk_iff {w : List Nat} : numOk w = true ↔ (1 ≤ w.length ∧ w.length ≤ 3) ∧ w.all isDig = true ∧ (w[0]? = some 48 → w = [48]) := by
  unfold numOk
  simp only [Bool.and_eq_true, Bool.not_eq_true', Bool.and_eq_false_iff, decide_eq_true_eq, decide_eq_false_iff_not, Bool.not_eq_false']
  constructor
  · rintro ⟨⟨h1, h2⟩, h3⟩
    refine ⟨h1, h2, fun z => ?_⟩
    rcases h3 with h3 | h3
    · exact absurd z h3
    · exact h3
  · rintro ⟨h1, h2, h3⟩
    refine ⟨⟨h1, h2⟩, ?_⟩
    by_cases z : w[0]? = some 48
    · exact .inr (h3 z)
    · exact .inl z
theorem num_int {w : List Nat} (h : numOk w = true) : intText? (S w) = some (numV w) := by
  obtain ⟨⟨h1, h2⟩, h3, _⟩ := numOk_iff.mp h
  refine int_S ?_ (fun z => by rw [z] at h1; simp at h1) (by omega)
  exact h3
/-- written again, the figures stand as they were -/
theorem num_back {w : List Nat} (h : numOk w = true) : TL.numL (NumText.digitsVal w) = w := by
  obtain ⟨⟨h1, h2⟩, h3, h4⟩ := numOk_iff.mp h
  have dig : ∀ c ∈ w, 48 ≤ c ∧ c ≤ 57 := fun c hc => by
    have := List.all_eq_true.mp h3 c hc
    unfold isDig at this
    simpa using this
  match w, h1, h2, dig, h4 with
  | [a], _, _, dig, _ =>
    have da := dig a (by simp)
    have v : NumText.digitsVal [a] = a - 48 := by
      unfold NumText.digitsVal
      simp
    rw [v, TL.numL_lt (by omega), show 48 + (a - 48) = a by omega]
  | [a, b], _, _, dig, h4 =>
    have da := dig a (by simp)
    have db := dig b (by simp)
    have na : a ≠ 48 := fun z => by
      have := h4 (by rw [z]; rfl)
      simp at this
    have v : NumText.digitsVal [a, b] = (a - 48) * 10 + (b - 48) := by
      unfold NumText.digitsVal
      simp
    rw [v, TL.numL_step (by omega), TL.numL_lt (by omega)]
    rw [show 48 + ((a - 48) * 10 + (b - 48)) / 10 = a by omega, show 48 + ((a - 48) * 10 + (b - 48)) % 10 = b by omega]
    rfl
  | [a, b, c], _, _, dig, h4 =>
    have da := dig a (by simp)
    have db := dig b (by simp)
    have dc := dig c (by simp)
    have na : a ≠ 48 := fun z => by
      have := h4 (by rw [z]; rfl)
      simp at this
    have v : NumText.digitsVal [a, b, c] = ((a - 48) * 10 + (b - 48)) * 10 + (c - 48) := by
      unfold NumText.digitsVal
      simp
    rw [v, TL.numL_step (by omega), show (((a - 48) * 10 + (b - 48)) * 10 + (c - 48)) / 10 = (a - 48) * 10 + (b - 48) by omega, TL.numL_step (by omega), TL.numL_lt (by omega)]
    rw [show 48 + ((a - 48) * 10 + (b - 48)) / 10 = a by omega, show 48 + ((a - 48) * 10 + (b - 48)) % 10 = b by omega, show 48 + (((a - 48) * 10 + (b - 48)) * 10 + (c - 48)) % 10 = c by omega]
    rfl
theorem numV_nonneg (w : List Nat) : 0 ≤ numV w := Int.natCast_nonneg _
theorem numV_lt {w : List Nat} (h : numOk w = true) : numV w < 1000 := by
  have b := num_back h
  have l := (numOk_iff.mp h).1.2
  by_cases c : NumText.digitsVal w < 1000
  · unfold numV
    omega
  · have : 4 ≤ (TL.numL (NumText.digitsVal w)).length := by
      generalize NumText.digitsVal w = n at c
      rw [TL.numL_step (n := n) (by omega), TL.numL_step (n := n / 10) (by omega), TL.numL_step (n := n / 10 / 10) (by omega)]
      have := List.length_pos_iff.mpr (TL.numL_ne (n / 10 / 10 / 10))
      simp only [List.length_append, List.length_cons, List.length_nil]
      omega
    rw [b] at this
    omega
/-! ### primes -/
/-- .. as the law looks for divisors -/
def noDiv (p : Int) : Bool := !((List.range (p - 2).toNat).any fun (i : Nat) => decide (p % ((2 : Int) + (i : Int)) = 0))
theorem prime_iff {p : Int} (h2 : 2 ≤ p) (h9 : p ≤ 997) : RK.primeOk (.int p) = noDiv p := by
  show (decide (2 ≤ p) && decide (p ≤ 997) && !((List.range 30).any _)) = noDiv p
  rw [decide_eq_true h2, decide_eq_true h9, Bool.true_and, Bool.true_and]
  unfold noDiv
  congr 1
  rw [Bool.eq_iff_iff, List.any_eq_true, List.any_eq_true]
  constructor
  · rintro ⟨i, hi, h⟩
    simp only [Bool.and_eq_true, decide_eq_true_eq] at h
    exact ⟨i, List.mem_range.mpr (by omega), decide_eq_true h.2⟩
  · rintro ⟨i, hi, h⟩
    have hi := List.mem_range.mp hi
    have h := of_decide_eq_true h
    obtain ⟨q, hq⟩ := Int.dvd_of_emod_eq_zero h
    have q0 : 0 < q := by
      by_cases c : 0 < q
      · exact c
      · have : (2 + (i : Int)) * q ≤ 0 := Int.mul_nonpos_of_nonneg_of_nonpos (by omega) (by omega)
        omega
    by_cases s : i < 30
    · refine ⟨i, List.mem_range.mpr s, ?_⟩
      rw [Bool.and_eq_true, decide_eq_true_eq, decide_eq_true_eq]
      exact ⟨by omega, h⟩
    · have q32 : q < 32 := by
        by_cases c : q < 32
        · exact c
        · have : (32 : Int) * 32 ≤ (2 + (i : Int)) * q := Int.mul_le_mul (by omega) (by omega) (by omega) (by omega)
          omega
      have q1 : 1 < q := by
        by_cases c : 1 < q
        · exact c
        · have : q = 1 := by omega
          rw [this, Int.mul_one] at hq
          omega
      refine ⟨(q - 2).toNat, List.mem_range.mpr (by omega), ?_⟩
      rw [show (2 : Int) + ((q - 2).toNat : Int) = q by omega, Bool.and_eq_true, decide_eq_true_eq, decide_eq_true_eq]
      refine ⟨?_, by rw [hq]; exact Int.mul_emod_left _ _⟩
      have : 2 * q ≤ (2 + (i : Int)) * q := Int.mul_le_mul_of_nonneg_right (by omega) (by omega)
      omega
/-! ### what a text writes -/
def parse (l : List Nat) : Option (Int × List Int) :=
  match TL.par [58] [] l with
  | none => none
  | some (h, r) => match TL.spl [32] 0 [] r with
    | [] :: ws => if (numOk h && ws.all numOk && RK.primeOk (.int (numV h)) && (ws.map numV).all (fun n => decide (n < numV h))) = true then some (numV h, ws.map numV) else none
    | _ => none
def writeL (p : Nat) (row : List Nat) : List Nat := TL.numL p ++ [58] ++ (row.map fun n => [32] ++ TL.numL n).flatten
theorem par_back {c : Nat} : ∀ (l acc p q : List Nat), TL.par [c] acc l = some (p, q) → acc ++ l = p ++ [c] ++ q
  | [], _, _, _, h => by cases h
  | d :: l, acc, p, q, h => by
    by_cases e : d = c
    · have hit : TL.pre [c] (c :: l) = true := TL.pre_self [c] l
      rw [e, TL.par_hit hit] at h
      cases h
      rw [e]
      simp
    · rw [TL.par_miss (TL.pre_of_head [] l e)] at h
      have := par_back l _ _ _ h
      rw [List.append_assoc] at this
      exact this
theorem joinL_head (ws : List (List Nat)) : TL.joinL [32] ([] :: ws) = (ws.map fun w => [32] ++ w).flatten := by
  induction ws with
  | nil => rfl
  | cons w ws ih =>
    show [] ++ ([32] ++ TL.joinL [32] (w :: ws)) = _
    rw [List.nil_append, List.map_cons, List.flatten_cons, List.append_assoc]
    congr 1
    cases ws with
    | nil =>
      show w = w ++ []
      rw [List.append_nil]
    | cons v vs =>
      show w ++ ([32] ++ TL.joinL [32] (v :: vs)) = _
      congr 1
theorem spl_back (r : List Nat) : TL.joinL [32] (TL.spl [32] 0 [] r) = r := by
  have h := StrLaws.join_split (S r) (S [32])
  rw [split_S (by simp) (by decide)] at h
  have h := congrArg TL.tl h
  rw [TL.tl_join, map_S_tl] at h
  exact h
theorem parse_back {l : List Nat} {p : Int} {row : List Int} (h : parse l = some (p, row)) : ∃ (q : Nat) (ns : List Nat), p = (q : Int) ∧ row = ns.map (fun (n : Nat) => (n : Int)) ∧ l = writeL q ns ∧ RK.primeOk (.int p) = true ∧ Rs p row ∧ ns.length ≤ l.length := by
  unfold parse at h
  split at h
  · cases h
  · rename_i hd r hp
    split at h
    · rename_i ws hs
      split at h
      · rename_i c
        simp only [Bool.and_eq_true, List.all_eq_true] at c
        obtain ⟨⟨⟨c1, c2⟩, c3⟩, c4⟩ := c
        cases h
        have e1 := par_back l [] hd r hp
        rw [List.nil_append] at e1
        have e2 := spl_back r
        rw [hs, joinL_head] at e2
        have e3 : l = writeL (NumText.digitsVal hd) (ws.map NumText.digitsVal) := by
          unfold writeL
          rw [num_back c1, List.map_map, e1, ← e2]
          congr 2
          exact List.map_congr_left fun w hw => by
            show [32] ++ w = [32] ++ TL.numL (NumText.digitsVal w)
            rw [num_back (c2 w hw)]
        refine ⟨NumText.digitsVal hd, ws.map NumText.digitsVal, rfl, ?_, e3, c3, fun n hn => ?_, ?_⟩
        · rw [List.map_map]
          rfl
        · obtain ⟨w, hw, rfl⟩ := List.mem_map.mp hn
          exact ⟨numV_nonneg w, of_decide_eq_true (c4 _ hn)⟩
        · rw [e1, ← e2, List.length_map, List.length_append, List.length_append]
          have : ∀ ws : List (List Nat), ws.length ≤ ((ws.map fun w => [32] ++ w).flatten).length := fun ws => by
            induction ws with
            | nil => simp
            | cons w ws ih =>
              simp only [List.map_cons, List.flatten_cons, List.length_cons, List.length_append, List.length_nil]
              omega
          have := this ws
          omega
      · cases h
    · cases h
end RT
/-! RrTextK: own words over the layer for texts. -/
namespace RK
open PySem PySem.Spec L2 Evl RR RT PyProof.Rows
def rLenT : List V → Hp → VK → Prop := fun xs H Q => ∃ z : Str, xs = [.str z] ∧ z.length ≤ sizeLine ∧ Q (.int (z.length : Int)) H
def rStrI : List V → Hp → VK → Prop := fun xs H Q => ∃ i : Int, xs = [.int i] ∧ i.natAbs.log2 < 1920 ∧ Q (.str (toString i)) H
def rIntS : List V → Hp → VK → Prop := fun xs H Q => ∃ (a : Str) (n : Int), xs = [.str a] ∧ PySem.intText? a = some n ∧ a.length ≤ 640 ∧ Q (.int n) H
def rCatS : R2 := fun x y H Q => ∃ i j : Str, x = .str i ∧ y = .str j ∧ i.length + j.length ≤ sizeLine ∧ Q (.str (i ++ j)) H
def rMulS : R2 := fun x y H Q => ∃ (a : Str) (n : Int), x = .str a ∧ y = .int n ∧ MulOk a n ∧ Q (.str (Txt.mul a n)) H
def rStripC : V → List V → Hp → VK → Prop := fun x xs H Q => ∃ a b : Str, x = .str a ∧ xs = [.str b] ∧ a.length ≤ sizeLine ∧ Q (.str (Txt.stripChars a b)) H
def rPart : V → List V → Hp → VK → Prop := fun x xs H Q => ∃ a b : Str, x = .str a ∧ xs = [.str b] ∧ (b.length == 0) = false ∧ a.length ≤ sizeLine ∧ ∀ p, H p = none → Q (.ref p) (upd H p (.tup [.str (Txt.partition a b).1, .str (Txt.partition a b).2.1, .str (Txt.partition a b).2.2]))
def rSplit : V → List V → Hp → VK → Prop := fun x xs H Q => ∃ a b : Str, x = .str a ∧ xs = [.str b] ∧ (b.length == 0) = false ∧ a.length + 2 ≤ sizeLine ∧ rNewStrs (Txt.split a b) H Q
def rJoin (K : PySem.W.Frag) : V → List V → Hp → VK → Prop := fun x xs H Q => ∃ (a : Str) (p : Addr), ∃ ys : List Str, x = .str a ∧ xs = [.ref p] ∧ (SqL K H p (ys.map V.str) ∨ SqT K H p (ys.map V.str)) ∧ (ys.map (·.length)).sum + ys.length * a.length ≤ 16777216 ∧ Q (.str (Txt.join a ys)) H
theorem op_mulS {X : Cx} : OpR X (binaryOp .Mult) rMulS := by
  intro pins s σ H x y v u Q I rx ry h
  obtain ⟨a, n, rfl, rfl, hm, q⟩ := h
  obtain ⟨t, rfl⟩ := rx
  obtain ⟨t', rfl⟩ := ry
  exact PySem.SB.mul hm fun t2 k => ⟨.str (Txt.mul a n), H, I.tok k, ⟨t2, rfl⟩, q⟩
section
variable {X : Cx} {e a b o : Expr} {ta tb to te : TE} {tr : TA} {p1 pos apos : Pos}
theorem x_lenS (hm : X.mg "len" = none) (hg : Gl X "len") (ha : PA X [e] tr)
    (he : starEach [e] X.env = (false, eval e X.env) :: starEach [] X.env := by rfl) (hpl : (backTo pos (starEach [] X.env)).any (·.1) = false := by rfl) : PE X (.Call (.Name "len" p1) [e] [] pos) (tCB rLenT tr) :=
  pe_callB (r := rLenT) call_len_str hg hm PySem.boot_len ha (he := he) (hpl := hpl)
theorem x_str (hm : X.mg "str" = none) (hg : Gl X "str") (ha : PA X [e] tr)
    (he : starEach [e] X.env = (false, eval e X.env) :: starEach [] X.env := by rfl) (hpl : (backTo pos (starEach [] X.env)).any (·.1) = false := by rfl) : PE X (.Call (.Name "str" p1) [e] [] pos) (tCB rStrI tr) :=
  pe_callTy (r := rStrI) call_str_int hg hm (by decide +kernel) ha (he := he) (hpl := hpl)
theorem x_intS (hm : X.mg "int" = none) (hg : Gl X "int") (ha : PA X [e] tr)
    (he : starEach [e] X.env = (false, eval e X.env) :: starEach [] X.env := by rfl) (hpl : (backTo pos (starEach [] X.env)).any (·.1) = false := by rfl) : PE X (.Call (.Name "int" p1) [e] [] pos) (tCB rIntS tr) :=
  pe_callTy (r := rIntS) call_int_str hg hm (by decide +kernel) ha (he := he) (hpl := hpl)
theorem x_maxL (K : PySem.W.Frag) (hK : X.K = K) (hc : X.calm = true) (hm : X.mg "max" = none) (hg : Gl X "max") (ha : PA X [e] tr)
    (he : starEach [e] X.env = (false, eval e X.env) :: starEach [] X.env := by rfl) (hpl : (backTo pos (starEach [] X.env)).any (·.1) = false := by rfl) : PE X (.Call (.Name "max" p1) [e] [] pos) (tCB (rMax K) tr) := by
  subst hK; exact pe_callB (cr_max hc) hg hm (by decide +kernel) ha (he := he) (hpl := hpl)
theorem x_catS (ha : PE X a ta) (hb : PE X b tb) : PE X (.BinOp a .Add b pos) (tOp rCatS ta tb) := pe_op (r := rCatS) op_add_str ha hb
theorem x_mulS (ha : PE X a ta) (hb : PE X b tb) : PE X (.BinOp a .Mult b pos) (tOp rMulS ta tb) := pe_op (r := rMulS) op_mulS ha hb
theorem x_inN (K : PySem.W.Frag) (hK : X.K = K) (ha : PE X a ta) (hb : PE X b tb) (hm : behindInMarks .In b = false) : PT X (.Compare a [.In] [b] pos) (tTest (tOp (rIn K false) ta tb)) := by subst hK; exact pt_cmpR op_in_seq ha hb hm
theorem x_strip (ho : PE X o to) (he : PE X e te) (hs : starEach [e] X.env = [(false, eval e X.env)] := by rfl) (hbase : attributeBase o "strip" X.env (eval o X.env) = eval o X.env := by rfl) (hline : (apos.endLine == pos.line) = true := by rfl) :
    PE X (.Call (.Attribute o "strip" apos) [e] [] pos) (tM1 rStripC to te) := pe_m1 (r := rStripC) PySem.F.slot_str_strip PySem.F.type_str_strip mt_stripChars ho he hs hbase hline
theorem x_part (ho : PE X o to) (he : PE X e te) (hs : starEach [e] X.env = [(false, eval e X.env)] := by rfl) (hbase : attributeBase o "partition" X.env (eval o X.env) = eval o X.env := by rfl) (hline : (apos.endLine == pos.line) = true := by rfl) :
    PE X (.Call (.Attribute o "partition" apos) [e] [] pos) (tM1 rPart to te) := pe_partition ho he hs hbase hline
theorem x_split (ho : PE X o to) (he : PE X e te) (hs : starEach [e] X.env = [(false, eval e X.env)] := by rfl) (hbase : attributeBase o "split" X.env (eval o X.env) = eval o X.env := by rfl) (hline : (apos.endLine == pos.line) = true := by rfl) :
    PE X (.Call (.Attribute o "split" apos) [e] [] pos) (tM1 rSplit to te) := pe_split ho he hs hbase hline
theorem x_join (K : PySem.W.Frag) (hK : X.K = K) (ho : PE X o to) (he : PE X e te) (hs : starEach [e] X.env = [(false, eval e X.env)] := by rfl) (hbase : attributeBase o "join" X.env (eval o X.env) = eval o X.env := by rfl) (hline : (apos.endLine == pos.line) = true := by rfl) :
    PE X (.Call (.Attribute o "join" apos) [e] [] pos) (tM1 (rJoin K) to te) := by subst hK; exact pe_join ho he hs hbase hline
end
section
variable {K : PySem.W.Frag} {σ : L2.St} {H H' : Hp} {ta' : TA} {ta tb te tl to : TE} {t u : TT} {x y z : V} {a b s : Str} {xs : List V} {D : Ends} {tz : TS} {i j k : Nat}
theorem txt_sz {n : Nat} (h : n ≤ 100000) : n ≤ sizeLine := sz_of h
theorem ev_lenS (h : Ev te σ H (.str s)) (hz : s.length ≤ 100000) : Ev (tCB rLenT (tCons te tNil)) σ H (.int (s.length : Int)) := fun H1 e Q q => h H1 e _ fun H2 e2 => ⟨s, rfl, txt_sz hz, q H2 e2⟩
theorem ev_strI {n : Int} (h : Ev te σ H (.int n)) (hn : 0 ≤ n ∧ n < 100000) : Ev (tCB rStrI (tCons te tNil)) σ H (.str (toString n)) := fun H1 e Q q => h H1 e _ fun H2 e2 => ⟨n, rfl, by
  have : n.natAbs < 2 ^ 17 := by omega
  have : n.natAbs.log2 < 17 ∨ n.natAbs = 0 := by
    by_cases c : n.natAbs = 0
    · exact .inr c
    · exact .inl ((Nat.log2_lt c).mpr this)
  rcases this with w | w
  · omega
  · rw [w]
    decide, q H2 e2⟩
theorem ev_intS {n : Int} (h : Ev te σ H (.str s)) (hn : PySem.intText? s = some n) (hz : s.length ≤ 640) : Ev (tCB rIntS (tCons te tNil)) σ H (.int n) := fun H1 e Q q => h H1 e _ fun H2 e2 => ⟨s, n, rfl, hn, hz, q H2 e2⟩
theorem ev_catS (ha : Ev ta σ H (.str a)) (hb : Ev tb σ H (.str b)) (hz : a.length + b.length ≤ 100000) : Ev (tOp rCatS ta tb) σ H (.str (a ++ b)) := ev_op ha hb fun H1 _ Q q => ⟨a, b, rfl, rfl, txt_sz hz, q H1 (Ex.refl H1)⟩
theorem ev_mulS {n : Int} (ha : Ev ta σ H (.str a)) (hb : Ev tb σ H (.int n)) (hm : MulOk a n) : Ev (tOp rMulS ta tb) σ H (.str (Txt.mul a n)) := ev_op ha hb fun H1 _ Q q => ⟨a, n, rfl, rfl, hm, q H1 (Ex.refl H1)⟩
theorem ev_eqSb (ha : Ev ta σ H (.str a)) (hb : Ev tb σ H (.str b)) : Ev (tOp rEq ta tb) σ H (.bl (decide (a = b))) := ev_op ha hb rv_eqS
theorem ev_neSb (ha : Ev ta σ H (.str a)) (hb : Ev tb σ H (.str b)) : Ev (tOp rNe ta tb) σ H (.bl (!decide (a = b))) := ev_op ha hb rv_neS
theorem ev_strip (ha : Ev ta σ H (.str a)) (hb : Ev tb σ H (.str b)) (hz : a.length ≤ 100000) : Ev (tM1 rStripC ta tb) σ H (.str (Txt.stripChars a b)) := fun H1 e Q q =>
  ha H1 e _ fun H2 e2 => ⟨⟨a, rfl⟩, hb H2 (e.trans e2) _ fun H3 e3 => ⟨a, b, rfl, rfl, txt_sz hz, q H3 (e2.trans e3)⟩⟩
theorem eu_part (ha : Ev ta σ H (.str a)) (hb : Ev tb σ H (.str b)) (hb0 : (b.length == 0) = false) (hz : a.length ≤ 100000) : EvU (tM1 rPart ta tb) σ H [.str (Txt.partition a b).1, .str (Txt.partition a b).2.1, .str (Txt.partition a b).2.2] := fun H1 e Q q =>
  ha H1 e _ fun H2 e2 => ⟨⟨a, rfl⟩, hb H2 (e.trans e2) _ fun H3 e3 => ⟨a, b, rfl, rfl, hb0, txt_sz hz, fun p hp => q p _ (fresh_back (e2.trans e3) hp) ((e2.trans e3).trans (Ex.new hp)) upd_same⟩⟩
theorem el_split (ha : Ev ta σ H (.str a)) (hb : Ev tb σ H (.str b)) (hb0 : (b.length == 0) = false) (hz : a.length ≤ 90000) : EvL (tM1 rSplit ta tb) σ H ((Txt.split a b).map V.str) := fun H1 e Q q =>
  ha H1 e _ fun H2 e2 => ⟨⟨a, rfl⟩, hb H2 (e.trans e2) _ fun H3 e3 => ⟨a, b, rfl, rfl, hb0, txt_sz (by omega), fun p hp => q p _ (fresh_back (e2.trans e3) hp) ((e2.trans e3).trans (Ex.new hp)) upd_same⟩⟩
theorem ev_join {ys : List Str} (ha : Ev ta σ H (.str a)) (hb : EvR K tb σ H (ys.map V.str)) (hz : (ys.map (·.length)).sum + ys.length * a.length ≤ 16777216) : Ev (tM1 (rJoin K) ta tb) σ H (.str (Txt.join a ys)) := fun H1 e Q q =>
  ha H1 e _ fun H2 e2 => ⟨⟨a, rfl⟩, hb H2 (e.trans e2) _ fun p H3 e3 hp => ⟨a, p, ys, rfl, rfl, .inl hp, hz, q H3 (e2.trans e3)⟩⟩
theorem ev_slS {lo hi : Option Int} {t1 t2 : TO} (h : Ev te σ H (.str s)) (h1 : EvO t1 σ H lo) (h2 : EvO t2 σ H hi) (hz : s.length ≤ 100000) : Ev (tSl rSlS te t1 t2) σ H (.str (cutS s lo hi)) := fun H1 e Q q =>
  h H1 e _ fun H2 e2 => h1 H2 (e.trans e2) _ fun H3 e3 => h2 H3 ((e.trans e2).trans e3) _ fun H4 e4 => ⟨s, rfl, txt_sz hz, q H4 ((e2.trans e3).trans e4)⟩
theorem ev_ixS {n : Int} {c : Nat} (h : Ev ta σ H (.str s)) (hi : Ev tb σ H (.int n)) (hz : s.length ≤ 100000) (hv : atI s.cps.toList n = some c) : Ev (tOp rIxS ta tb) σ H (.str ⟨#[c]⟩) := ev_op h hi (rv_ixS hz hv)
/-- three names from a new tuple -/
theorem q_unp3 (h : EvU te σ H [x, y, z]) (q : ∀ H1, Ex H H1 → tz D (((σ.set i (some x)).set j (some y)).set k (some z)) H1) : tSeq (tAsg te (gTup K 3 (gCons (gName i) (gCons (gName j) (gCons (gName k) gNil))))) tz D σ H :=
  h H (Ex.refl H) _ fun p H1 _ e1 hp => ⟨p, _, rfl, st_of hp, rfl, _, _, rfl, _, _, rfl, _, _, rfl, rfl, q H1 e1⟩
end
end RK
/-! RrSix: law 6: what is written and read, as values. -/
namespace RK
open PySem PySem.Spec L2 Evl RR RT PyProof.Rows
theorem o_colon : Str.ofString ":" = SX.S [58] := by decide +kernel
theorem o_blank : Str.ofString " " = SX.S [32] := by decide +kernel
theorem o_nil : Str.ofString "" = SX.S [] := by decide +kernel
theorem o_nought : Str.ofString "0" = SX.S [48] := by decide +kernel
theorem o_figs : Str.ofString "0123456789" = SX.S FIGS := by decide +kernel
abbrev nl (ns : List Nat) : List Int := ns.map fun (n : Nat) => (n : Int)
theorem nl_g (ms : List Int) (h : ∀ m ∈ ms, 0 ≤ m) : ∃ ns : List Nat, ms = nl ns := ⟨ms.map Int.toNat, by
  unfold nl
  rw [List.map_map]
  conv => lhs; rw [← List.map_id ms]
  exact List.map_congr_left fun m hm => by
    show m = ((m.toNat : Nat) : Int)
    have := h m hm
    omega⟩
section
variable {K : PySem.W.Frag} {σ : L2.St} {H H' : Hp} {ta' : TA} {ta tb te tl to : TE} {t u : TT} {x y z : V} {xs : List V} {D : Ends} {tz : TS} {i j k : Nat} {vs : List Nat} {a T r : Addr} {p : Int} {row : List Int}
theorem numL_short {n : Nat} (h : n < 1000) : (TL.numL n).length ≤ 3 := TL.numL_len (k := 3) (by decide) (by omega)
theorem joinL_nil (ys : List (List Nat)) : TL.joinL [] ys = ys.flatten := by
  induction ys with
  | nil => rfl
  | cons y ys ih =>
    cases ys with
    | nil =>
      show y = y ++ []
      rw [List.append_nil]
    | cons w ws =>
      show y ++ ([] ++ TL.joinL [] (w :: ws)) = y ++ (w :: ws).flatten
      rw [List.nil_append, ih]
/-- str(p) + ":" + "".join([" " + str(n) for n in row]) -/
theorem ev_text {q : Nat} {ns : List Nat} (hp : Ev ta σ H (.int (q : Int))) (hq : q < 1000) (hr : EvR K tl σ H (il (nl ns))) (hl : ns.length ≤ 20000) (hn : ∀ n ∈ ns, n < 1000) (hw : ∀ x, wipe ((wipe σ vs).set k (some x)) vs = wipe σ vs) (hk : ∀ x : V, ((wipe σ vs).set k (some x))[k]? = some (some x)) :
    Ev (tOp rCatS (tOp rCatS (tCB rStrI (tCons ta tNil)) (tC (.str (Str.ofString ":")))) (tM1 (rJoin K) (tC (.str (Str.ofString ""))) (tLc (iList K tl) (gName k) tYes (tOp rCatS (tC (.str (Str.ofString " "))) (tCB rStrI (tCons (tVar k) tNil))) vs))) σ H (.str (SX.S (writeL q ns))) := by
  have one : ∀ n : Nat, n < 1000 → (Str.ofString (toString (n : Int))).length ≤ 3 := fun n h => by
    rw [SX.num_S, SX.S_len]
    exact numL_short h
  have lens : ∀ ns : List Nat, (∀ n ∈ ns, n < 1000) → ((ns.map fun n => SX.S ([32] ++ TL.numL n)).map (·.length)).sum ≤ 4 * ns.length := fun ns => by
    induction ns with
    | nil => intro _; exact Nat.zero_le _
    | cons n ns ih =>
      intro h
      have h1 := numL_short (h n (List.mem_cons_self ..))
      have h2 := ih fun m hm => h m (List.mem_cons_of_mem _ hm)
      simp only [List.map_cons, List.sum_cons, List.length_cons, SX.S_len, List.length_append, List.length_nil] at h2 ⊢
      omega
  have jl : Txt.join (Str.ofString "") (ns.map fun n => SX.S ([32] ++ TL.numL n)) = SX.S ((ns.map fun n => [32] ++ TL.numL n).flatten) := by
    rw [o_nil, show (ns.map fun n => SX.S ([32] ++ TL.numL n)) = (ns.map fun n => [32] ++ TL.numL n).map SX.S by rw [List.map_map]; rfl, SX.join_S, joinL_nil]
  have fl : ∀ ns : List Nat, (∀ n ∈ ns, n < 1000) → ((ns.map fun n => [32] ++ TL.numL n).flatten).length ≤ 4 * ns.length := fun ns => by
    induction ns with
    | nil => intro _; exact Nat.zero_le _
    | cons n ns ih =>
      intro h
      have h1 := numL_short (h n (List.mem_cons_self ..))
      have h2 := ih fun m hm => h m (List.mem_cons_of_mem _ hm)
      simp only [List.map_cons, List.flatten_cons, List.length_append, List.length_cons, List.length_nil] at h2 ⊢
      omega
  have c1 := one q hq
  have c2 : (Str.ofString ":").length = 1 := by rw [o_colon, SX.S_len]; rfl
  have c3 := fl ns hn
  refine ev_is (ev_catS (ev_catS (ev_strI hp (by omega)) ev_c (by rw [c2]; exact Nat.le_trans (Nat.add_le_add_right c1 1) (by decide))) (ev_join (ys := ns.map fun n => SX.S ([32] ++ TL.numL n)) ev_c (er_of_l (el_is (el_lcI (ns := nl ns) (fun x => .str (Str.ofString " " ++ toString x)) hr (by rw [List.length_map]; omega) hw ?_) ?_)) ?_) ?_) ?_
  · intro x H1 e hx
    obtain ⟨n, hm, rfl⟩ := List.mem_map.mp hx
    have := hn n hm
    have c4 := one n this
    have c5 : (Str.ofString " ").length = 1 := by rw [o_blank, SX.S_len]; rfl
    exact ev_catS ev_c (ev_strI (ev_var (hk _)) (by omega)) (by rw [c5]; exact Nat.le_trans (Nat.add_le_add_left c4 1) (by decide))
  · rw [List.map_map, List.map_map]
    refine List.map_congr_left fun n _ => ?_
    show V.str (Str.ofString " " ++ Str.ofString (toString (n : Int))) = V.str (SX.S ([32] ++ TL.numL n))
    rw [o_blank, SX.num_S, SX.S_cat]
  · rw [List.length_map, o_nil, SX.S_len]
    have := lens ns hn
    simp only [List.length_nil, Nat.mul_zero, Nat.add_zero]
    omega
  · have cA : (Str.ofString (toString (q : Int)) ++ Str.ofString ":").length ≤ 4 := by
      rw [Str.length_append, c2]
      omega
    have cB : (Txt.join (Str.ofString "") (ns.map fun n => SX.S ([32] ++ TL.numL n))).length ≤ 4 * ns.length := by
      rw [jl]
      exact Nat.le_trans (Nat.le_of_eq (SX.S_len _)) c3
    exact Nat.le_trans (Nat.add_le_add cA cB) (by omega)
  · rw [jl, o_colon, SX.num_S, SX.S_cat, SX.S_cat]
    rfl
/-! ### a pair: a prime and a row -/
def RetP (p : Int) (row : List Int) (H : Hp) (Q : VK) : Prop := ∀ (T r : Addr) (H2 : Hp), H T = none → H r = none → T ≠ r → Ex H H2 → H2 T = some (.tup [.int p, .ref r]) → H2 r = some (.lst (il row)) → Q (.ref T) H2
def EvPr (te : TE) (σ : L2.St) (H : Hp) (p : Int) (row : List Int) : Prop := ∀ H1, Ex H H1 → ∀ Q : VK, RetP p row H1 Q → te σ H1 Q
def EvPR (K : PySem.W.Frag) (te : TE) (σ : L2.St) (H : Hp) (p : Int) (row : List Int) : Prop := ∀ H1, Ex H H1 → ∀ Q : VK, (∀ T r H2, Ex H1 H2 → SqT K H2 T [.int p, .ref r] → SqL K H2 r (il row) → Q (.ref T) H2) → te σ H1 Q
theorem epr_of (h : EvPr te σ H p row) : EvPR K te σ H p row := fun H1 e Q q => h H1 e Q fun T r H2 _ _ _ e2 h1 h2 => q T r H2 e2 (st_of h1) (sq_of h2)
theorem epr_var (h : σ[i]? = some (some (.ref T))) (h1 : H T = some (.tup [.int p, .ref r])) (h2 : H r = some (.lst (il row))) : EvPR K (tVar i) σ H p row := fun H1 e Q q => ⟨_, h, q T r H1 (Ex.refl H1) (st_of (e _ _ h1)) (sq_of (e _ _ h2))⟩
theorem q_asgP (h : EvPr te σ H p row) (q : ∀ T r H1, H T = none → H r = none → T ≠ r → Ex H H1 → H1 T = some (.tup [.int p, .ref r]) → H1 r = some (.lst (il row)) → tz D (σ.set i (some (.ref T))) H1) : tSeq (tAsg te (gName i)) tz D σ H :=
  h H (Ex.refl H) _ fun T r H1 nT nr ne e1 h1 h2 => q T r H1 nT nr ne e1 h1 h2
def pairD (p : Int) (row : List Int) : PyData := .tuple [.int p, .list (row.map PyData.int)]
theorem dp_pair (h1 : SqT K H T [.int p, .ref r]) (h2 : SqL K H r (il row)) : Dp K H (.ref T) (pairD p row) := .tup h1 (.cons (.int p) (.cons (dp_ints h2) .nil))
theorem shaped_pair : SeqAt.shaped (pairD p row) = true := by
  show ((true && (PyData.canLayAll0 (row.map PyData.int) && true)) && decide (max 0 (max (PyData.depthAll (row.map PyData.int) + 1) 0) + 1 ≤ 64)) = true
  rw [canLay_ints, depth_ints]
  rfl
theorem eqv_pair {p' : Int} {row' : List Int} : PyData.eqv (pairD p row) (pairD p' row') = (decide (p = p') && decide (row = row')) := by
  show ((p == p') && (PyData.eqvAll _ _ && true)) = _
  rw [eqv_ints, Bool.and_true]
  by_cases h : p = p' <;> simp [h]
theorem ev_eqP {p' : Int} {row' : List Int} (ha : EvPR K ta σ H p row) (hb : EvPR K tb σ H p' row') : Ev (tOp (rEqD K) ta tb) σ H (.bl (decide (p = p') && decide (row = row'))) := fun H1 e Q q =>
  ha H1 e _ fun T r H2 e2 h1 h2 => hb H2 (e.trans e2) _ fun T' r' H3 e3 h3 h4 => ⟨_, _, dp_pair (ex_t e3 h1) (ex_l e3 h2), dp_pair h3 h4, shaped_pair, shaped_pair, by
    rw [eqv_pair]
    exact q H3 (e2.trans e3)⟩
theorem ev_neP {p' : Int} {row' : List Int} (ha : EvPR K ta σ H p row) (hb : EvPR K tb σ H p' row') : Ev (tOp (rNeD K) ta tb) σ H (.bl (!(decide (p = p') && decide (row = row')))) := fun H1 e Q q =>
  ha H1 e _ fun T r H2 e2 h1 h2 => hb H2 (e.trans e2) _ fun T' r' H3 e3 h3 h4 => ⟨_, _, dp_pair (ex_t e3 h1) (ex_l e3 h2), dp_pair h3 h4, shaped_pair, shaped_pair, by
    rw [eqv_pair]
    exact q H3 (e2.trans e3)⟩
/-- return (p, row) -/
theorem s_retP {Ds : Ends} (h1 : Ev ta σ H (.int p)) (h2 : Ev tb σ H (.ref r)) (hr : H r = some (.lst (il row))) (q : ∀ T H1, H T = none → Ex H H1 → H1 T = some (.tup [.int p, .ref r]) → H1 r = some (.lst (il row)) → Ds.rt (.ref T) H1) : tRet (tTup (tCons ta (tCons tb tNil))) Ds σ H := by
  show tCons ta (tCons tb tNil) σ H fun vs H1 => vs.length ≤ sizeLine ∧ ∀ T, H1 T = none → Ds.rt (.ref T) (upd H1 T (.tup vs))
  refine (show EvA (tCons ta (tCons tb tNil)) σ H [.int p, .ref r] from ea_cons h1 (ea_cons h2 ea_nil)) H (Ex.refl H) _ fun H1 e1 => ⟨sz_of (by simp), fun T nT => ?_⟩
  exact q T _ (fresh_back e1 nT) (e1.trans (Ex.new nT)) upd_same (by rw [upd_ne (ne_of_none (e1 _ _ hr) nT)]; exact e1 _ _ hr)
/-! ### words -/
/-- a list of words: name = [f(word) for word in words], f may raise -/
theorem q_asgLcX {sp : Sp} {E : XK} {C : Addr} {ws : List (List Nat)} (h : EvR K tl σ H (ws.map fun w => V.str (SX.S w))) (hz : ws.length ≤ 40000) (hw : ∀ x, wipe ((wipe σ vs).set j (some x)) vs = wipe σ vs) (hj : ∀ x : V, ((wipe σ vs).set j (some x))[j]? = some (some x))
    (hf : ∀ w ∈ ws, ∀ H1 Q, (numOk w = true → RetV (V.int (numV w)) H1 Q) → (numOk w = false → ∀ H', Ex H1 H' → E (.ref C) none H') → sp [V.str (SX.S w)] H1 Q E) (hE : ws.all numOk = false → ∀ H', Ex H H' → E (.ref C) none H')
    (q : ws.all numOk = true → ∀ l H1, H l = none → Ex H H1 → H1 l = some (.lst (il (ws.map numV))) → tz D (σ.set i (some (.ref l))) H1) : tSeq (tAsg (tLc (iList K tl) (gName j) tYes (tCallS sp (fun _ => E) (tCons (tVar j) tNil)) vs) (gName i)) tz D σ H := by
  refine h H (Ex.refl H) _ fun a H1 e1 hx => ⟨a, rfl, ⟨_, hx⟩, fun Dl hD => ?_⟩
  have at_ : ∀ i x, (ws.map fun w => V.str (SX.S w))[i]? = some x → ∃ w ∈ ws, ws[i]? = some w ∧ x = V.str (SX.S w) := fun i x hi => by
    rw [List.getElem?_map] at hi
    cases c : ws[i]? with
    | none => rw [c] at hi; cases hi
    | some w =>
      rw [c] at hi
      exact ⟨w, List.mem_of_getElem? c, c, (Option.some.inj hi).symm⟩
  refine lc_list (xs := ws.map fun w => V.str (SX.S w)) (fun i H' => Cw H1 (fun _ => true) (fun k => .int (numV (ws.getD k []))) Dl i H' ∧ ∀ k w, k < i → ws[k]? = some w → numOk w = true) ⟨⟨hD, Ex.new hD, upd_same⟩, fun k w hk => by omega⟩ (fun i H' _ p => ex_l p.1.2.1 hx) (fun i x H' hi p => ?_) (fun H' p => ?_)
  · obtain ⟨w, hm, hi2, rfl⟩ := at_ i x hi
    have hlt : i < ws.length := (List.getElem?_eq_some_iff.mp hi2).1
    refine ⟨hw _, ?_⟩
    show ∃ v, ((wipe σ vs).set j (some (V.str (SX.S w))))[j]? = some (some v) ∧ sp [v] H' (fun y H4 => ∃ acc, H4 Dl = some (.lst acc) ∧ acc.length < sizeLine ∧ (Cw H1 (fun _ => true) (fun k => .int (numV (ws.getD k []))) Dl (i + 1) (upd H4 Dl (.lst (acc ++ [y]))) ∧ ∀ k w, k < i + 1 → ws[k]? = some w → numOk w = true)) E
    refine ⟨_, hj _, ?_⟩
    obtain ⟨⟨p1, p2, p3⟩, p4⟩ := p
    cases c : numOk w with
    | true =>
      refine hf w hm H' _ (fun _ H2 e2 => ?_) (fun z => by rw [c] at z; cases z)
      refine ⟨_, e2 _ _ p3, sz_lt (by have := given_len i (fun _ => true) (fun k => V.int (numV (ws.getD k []))); omega), ⟨p1, Ex.mut (p2.trans e2) p1, ?_⟩, fun k v hk hv => ?_⟩
      · rw [given_yes rfl, upd_same]
        congr 2
        rw [List.getD_eq_getElem?_getD, hi2]
        rfl
      · by_cases z : k = i
        · rw [z, hi2] at hv
          cases hv
          exact c
        · exact p4 k v (by omega) hv
    | false =>
      refine hf w hm H' _ (fun z => by rw [c] at z; cases z) (fun _ H2 e2 => ?_)
      refine hE ?_ H2 ((e1.trans p2).trans e2)
      rw [List.all_eq_false]
      exact ⟨w, hm, by rw [c]; decide⟩
  · obtain ⟨⟨p1, p2, p3⟩, p4⟩ := p
    rw [List.length_map] at p3 p4
    refine q (List.all_eq_true.mpr fun w hm => ?_) Dl H' (fresh_back e1 p1) (e1.trans p2) ?_
    · obtain ⟨k, hk⟩ := List.getElem?_of_mem hm
      exact p4 k w (List.getElem?_eq_some_iff.mp hk).1 hk
    · rw [p3, given_all]
      congr 2
      apply List.ext_getElem?
      intro k
      unfold il
      rw [List.map_map, List.getElem?_map, List.getElem?_map]
      by_cases hk : k < ws.length
      · rw [List.getElem?_range hk, List.getElem?_eq_getElem hk]
        show some (V.int (numV (ws.getD k []))) = some (V.int (numV ws[k]))
        rw [List.getD_eq_getElem?_getD, List.getElem?_eq_getElem hk]
        rfl
      · rw [List.getElem?_eq_none (by simp; omega), List.getElem?_eq_none (by omega)]
        rfl
end
theorem sx_len {w : List Nat} : (SX.S w).length = w.length := SX.S_len w
theorem sx_eq {v w : List Nat} : decide (SX.S v = SX.S w) = decide (v = w) := by
  by_cases h : v = w
  · rw [h, decide_eq_true rfl, decide_eq_true rfl]
  · rw [decide_eq_false h, decide_eq_false fun z => h (SX.S_inj z)]
theorem strip_dec {w : List Nat} : decide (Txt.stripChars (SX.S w) (Str.ofString "0123456789") = Str.ofString "") = decide (w.all isDig = true) := by
  rw [o_figs, o_nil]
  by_cases h : w.all isDig = true
  · rw [decide_eq_true h, decide_eq_true ((strip_figs w).mpr h)]
  · rw [decide_eq_false h, decide_eq_false fun z => h ((strip_figs w).mp z)]
theorem first_dec {w : List Nat} {c : Nat} (h : w[0]? = some c) : decide ((⟨#[c]⟩ : Str) = Str.ofString "0") = decide (w[0]? = some 48) := by
  rw [o_nought, show (⟨#[c]⟩ : Str) = SX.S [c] from rfl, sx_eq, h]
  by_cases k : c = 48
  · rw [k, decide_eq_true rfl, decide_eq_true rfl]
  · rw [decide_eq_false fun z => k (by injection z), decide_eq_false fun z => k (Option.some.inj z)]
theorem whole_dec {w : List Nat} : decide (SX.S w = Str.ofString "0") = decide (w = [48]) := by rw [o_nought, sx_eq]
theorem at_first {w : List Nat} (h : 1 ≤ w.length) : ∃ c, w[0]? = some c ∧ atI (SX.S w).cps.toList 0 = some c := by
  cases w with
  | nil => simp at h
  | cons c w => exact ⟨c, rfl, show atI (SX.S (c :: w)).cps.toList ((0 : Nat) : Int) = some c from atI_nat rfl⟩
/-! ### parse, step by step -/
theorem spl_ne (S : List Nat) : ∀ (l : List Nat) (k : Nat) (acc : List Nat), TL.spl S k acc l ≠ []
  | [], k, acc => by rw [TL.spl_nil]; simp
  | c :: l, 0, acc => by
    show (if TL.pre S (c :: l) = true then acc :: TL.spl S (S.length - 1) [] l else TL.spl S 0 (acc ++ [c]) l) ≠ []
    split
    · simp
    · exact spl_ne S l 0 _
  | c :: l, k + 1, acc => spl_ne S l k acc
theorem parse_none {l : List Nat} (h : TL.par [58] [] l = none) : parse l = none := by
  unfold parse
  rw [h]
theorem parse_odd {l h r w : List Nat} {ws : List (List Nat)} (h1 : TL.par [58] [] l = some (h, r)) (h2 : TL.spl [32] 0 [] r = w :: ws) (h3 : w ≠ []) : parse l = none := by
  unfold parse
  rw [h1]
  dsimp only
  rw [h2]
  cases w with
  | nil => exact absurd rfl h3
  | cons c w => rfl
theorem parse_at {l h r : List Nat} {ws : List (List Nat)} (h1 : TL.par [58] [] l = some (h, r)) (h2 : TL.spl [32] 0 [] r = [] :: ws) :
    parse l = if (numOk h && ws.all numOk && primeOk (.int (numV h)) && (ws.map numV).all (fun n => decide (n < numV h))) = true then some (numV h, ws.map numV) else none := by
  unfold parse
  rw [h1]
  dsimp only
  rw [h2]
theorem part_none {l : List Nat} (h : TL.par [58] [] l = none) : Txt.partition (SX.S l) (Str.ofString ":") = (SX.S l, SX.S [], SX.S []) := by rw [o_colon, SX.partition_none (by simp) h]
theorem part_some {l h r : List Nat} (h1 : TL.par [58] [] l = some (h, r)) : Txt.partition (SX.S l) (Str.ofString ":") = (SX.S h, SX.S [58], SX.S r) := by rw [o_colon, SX.partition_some (by simp) h1]
theorem split_is (r : List Nat) : (Txt.split (SX.S r) (Str.ofString " ")).map V.str = (TL.spl [32] 0 [] r).map fun w => V.str (SX.S w) := by
  rw [o_blank, SX.split_S (by simp) (by decide), List.map_map]
  rfl
theorem spl_len (r : List Nat) : (TL.spl [32] 0 [] r).length ≤ r.length + 1 ∧ ∀ w ∈ TL.spl [32] 0 [] r, w.length ≤ r.length := by
  have e := spl_back r
  generalize TL.spl [32] 0 [] r = ps at e
  subst e
  induction ps with
  | nil => exact ⟨Nat.zero_le _, fun w h => by cases h⟩
  | cons p ps ih =>
    cases ps with
    | nil => exact ⟨by simp, fun w h => by rw [List.mem_singleton.mp h]; exact Nat.le_refl _⟩
    | cons q qs =>
      have el : (TL.joinL [32] (p :: q :: qs)).length = p.length + (1 + (TL.joinL [32] (q :: qs)).length) := by
        show (p ++ ([32] ++ TL.joinL [32] (q :: qs))).length = _
        simp
        omega
      rw [el]
      refine ⟨by have := ih.1; simp only [List.length_cons] at this ⊢; omega, fun w h => ?_⟩
      rcases List.mem_cons.mp h with h | h
      · rw [h]
        omega
      · have := ih.2 w h
        omega
theorem par_len {l h r : List Nat} (h1 : TL.par [58] [] l = some (h, r)) : h.length ≤ l.length ∧ r.length ≤ l.length := by
  have e := par_back l [] h r h1
  rw [List.nil_append] at e
  rw [e]
  simp
  omega
section
variable {K : PySem.W.Frag} {σ : L2.St} {H H' : Hp} {ta' : TA} {ta tb te tl to : TE} {t u : TT} {x y z : V} {xs vs : List V} {D : Ends} {tz : TS} {sp : Sp} {E : L2.St → XK}
theorem q_dropS (h : EvA ta' σ H vs) (k : ∀ H1, Ex H H1 → sp vs H1 (fun _ H2 => tz D σ H2) (E σ)) : tSeq (tDrop (tCallS sp E ta')) tz D σ H := h H (Ex.refl H) _ fun H1 e1 => k H1 e1
theorem s_dropS (h : EvA ta' σ H vs) (k : ∀ H1, Ex H H1 → sp vs H1 (fun _ H2 => D.nx σ H2) (E σ)) : tDrop (tCallS sp E ta') D σ H := h H (Ex.refl H) _ fun H1 e1 => k H1 e1
theorem s_retIfF (h : EvT t σ H false) (k : ∀ H1, Ex H H1 → tRet tb D σ H1) : tRet (tIf t ta tb) D σ H := h H (Ex.refl H) _ fun H1 e1 => by
  show tb σ H1 D.rt
  exact k H1 e1
theorem rests_nums {p : Int} {a : Addr} {ws : List (List Nat)} (h : SqL K H a (il (ws.map numV))) (hl : ws.length ≤ 20000) : RestsAre K H p (.ref a) ((ws.map numV).all fun n => decide (n < p)) := by
  refine .inr ⟨a, il (ws.map numV), rfl, h, by rw [il_len, List.length_map]; omega, fun y hy => ?_, ?_⟩
  · obtain ⟨n, _, rfl⟩ := List.mem_map.mp hy
    exact .no (.int n)
  · rw [Bool.eq_iff_iff, List.all_eq_true, List.all_eq_true]
    constructor
    · intro k y hy
      obtain ⟨n, hn, rfl⟩ := List.mem_map.mp hy
      obtain ⟨w, _, rfl⟩ := List.mem_map.mp hn
      show (decide (0 ≤ numV w) && decide (numV w < p)) = true
      rw [decide_eq_true (numV_nonneg w), Bool.true_and]
      exact k _ hn
    · intro k n hn
      have t : (decide (0 ≤ n) && decide (n < p)) = true := k (.int n) (List.mem_map.mpr ⟨n, hn, rfl⟩)
      rw [Bool.and_eq_true] at t
      exact t.2
theorem rests_nl {p : Int} {a : Addr} {ns : List Nat} (h : SqL K H a (il (nl ns))) (hl : ns.length ≤ 20000) (hr : Rs p (nl ns)) : RestsAre K H p (.ref a) true := by
  refine .inr ⟨a, il (nl ns), rfl, h, by rw [il_len, List.length_map]; omega, fun y hy => ?_, ?_⟩
  · obtain ⟨n, _, rfl⟩ := List.mem_map.mp hy
    exact .no (.int n)
  · symm
    rw [List.all_eq_true]
    intro y hy
    obtain ⟨n, hn, rfl⟩ := List.mem_map.mp hy
    have := hr n hn
    show (decide (0 ≤ n) && decide (n < p)) = true
    rw [decide_eq_true this.1, decide_eq_true this.2]
    rfl
end
/-! ### the law's own reading of a text -/
def numF : V → V
  | .str s => if numOk (TL.tl s) = true then .int (numV (TL.tl s)) else .non
  | v => v
theorem numF_words (ws : List (List Nat)) : (ws.map fun w => V.str (SX.S w)).map numF = ws.map fun w => if numOk w = true then V.int (numV w) else .non := by
  rw [List.map_map]
  rfl
theorem in_words (ws : List (List Nat)) : inV .non (ws.map fun w => if numOk w = true then V.int (numV w) else .non) = !ws.all numOk := by
  unfold inV
  rw [List.any_map]
  induction ws with
  | nil => rfl
  | cons w ws ih =>
    rw [List.any_cons, ih, List.all_cons, Bool.not_and]
    congr 1
    show eqV (if numOk w = true then V.int (numV w) else .non) .non = !numOk w
    cases numOk w <;> rfl
theorem flat_words (ws : List (List Nat)) : (ws.map fun w => if numOk w = true then V.int (numV w) else .non).all flatV = true := by
  rw [List.all_map, List.all_eq_true]
  intro w _
  show flatV (if numOk w = true then V.int (numV w) else .non) = true
  cases numOk w <;> rfl
theorem all_words {ws : List (List Nat)} (h : ws.all numOk = true) : (ws.map fun w => if numOk w = true then V.int (numV w) else .non) = il (ws.map numV) := by
  unfold il
  rw [List.map_map]
  exact List.map_congr_left fun w hw => by rw [if_pos (List.all_eq_true.mp h w hw)]; rfl
theorem max_of : ∀ ns : List Int, ns ≠ [] → ∃ m ∈ ns, ∀ y ∈ ns, y ≤ m
  | [], h => absurd rfl h
  | [a], _ => ⟨a, by simp, fun y hy => by rw [List.mem_singleton.mp hy]; omega⟩
  | a :: b :: r, _ => by
    obtain ⟨m, h1, h2⟩ := max_of (b :: r) (by simp)
    by_cases c : a ≤ m
    · exact ⟨m, List.mem_cons_of_mem _ h1, fun y hy => by
        rcases List.mem_cons.mp hy with h | h
        · rw [h]; exact c
        · exact h2 y h⟩
    · exact ⟨a, List.mem_cons_self .., fun y hy => by
        rcases List.mem_cons.mp hy with h | h
        · omega
        · have := h2 y h; omega⟩
theorem ev_maxL {K : PySem.W.Frag} {σ : L2.St} {H : Hp} {te : TE} {ns : List Int} {M : Int} (h : EvR K te σ H (il ns)) (h1 : M ∈ ns) (h2 : ∀ y ∈ ns, y ≤ M) : Ev (tCB (rMax K) (tCons te tNil)) σ H (.int M) := fun H1 e Q q =>
  h H1 e _ fun p H2 e2 hp => ⟨p, ns, rfl, hp, List.length_pos_of_mem h1, fun m m1 m2 => by
    have : m = M := by
      have a := m2 M h1
      have b := h2 m m1
      omega
    rw [this]
    exact q H2 e2⟩
theorem over_max {ws : List (List Nat)} {p M : Int} (hp : 0 < p) (h1 : M ∈ (0 : Int) :: ws.map numV) (h2 : ∀ y ∈ (0 : Int) :: ws.map numV, y ≤ M) : decide (p ≤ M) = !((ws.map numV).all fun n => decide (n < p)) := by
  by_cases c : p ≤ M
  · rw [decide_eq_true c]
    rcases List.mem_cons.mp h1 with h | h
    · omega
    · have : ((ws.map numV).all fun n => decide (n < p)) = false := by
        rw [List.all_eq_false]
        exact ⟨M, h, by simp; omega⟩
      rw [this]
      rfl
  · rw [decide_eq_false c]
    have : ((ws.map numV).all fun n => decide (n < p)) = true := by
      rw [List.all_eq_true]
      intro n hn
      have := h2 n (List.mem_cons_of_mem _ hn)
      exact decide_eq_true (by omega)
    rw [this]
    rfl
theorem ev_inN {K : PySem.W.Frag} {σ : L2.St} {H : Hp} {ta tb : TE} {xs : List V} (ha : Ev ta σ H .non) (hb : EvR K tb σ H xs) (hf : xs.all flatV = true) : Ev (tOp (rIn K false) ta tb) σ H (.bl (inV .non xs)) := fun H1 e Q q =>
  ha H1 e _ fun H2 e2 => hb H2 (e.trans e2) _ fun p H3 e3 hp => ⟨p, xs, rfl, .inl hp, rfl, hf, q H3 (e2.trans e3)⟩
theorem ev_isN {σ : L2.St} {H : Hp} {ta tb : TE} {x : V} (ha : Ev ta σ H x) (hb : Ev tb σ H .non) : Ev (tOp rIsN ta tb) σ H (.bl (decide (x = .non))) := ev_op ha hb fun H1 _ Q q => ⟨rfl, q H1 (Ex.refl H1)⟩
/-! ### lists of things, each of which is right -/
section
variable {K : PySem.W.Frag} {σ : L2.St} {H H' : Hp} {tl te : TE} {φ : Wd} {j : Nat} {vs : List Nat}
def wYes (K : PySem.W.Frag) : Wd := fun y H => ∃ (p : Addr) (n : Nat), y = .ref p ∧ SqL K H p (bls (List.replicate n true))
theorem ep_lcT (h : EvP tl σ H (wThings K φ)) (hw : ∀ x, wipe ((wipe σ vs).set j (some x)) vs = wipe σ vs) (he : ∀ x H1, Ex H H1 → φ x H1 → Ev te ((wipe σ vs).set j (some x)) H1 (.bl true)) : EvP (tLc (iList K tl) (gName j) tYes te vs) σ H (wYes K) := fun H0 e Q q =>
  h H0 e _ fun v H1 e1 hv => by
    obtain ⟨p, xs, rfl, hp, hl, hx⟩ := hv
    refine ⟨p, rfl, ⟨_, hp⟩, fun Dl hD => lc_list (xs := xs) (Cw H1 (fun _ => true) (fun _ => .bl true) Dl) ⟨hD, Ex.new hD, upd_same⟩ (fun i H' _ p => ex_l p.2.1 hp) (fun i x H' hi p => ?_) (fun H' p => q _ H' (e1.trans p.2.1) ⟨Dl, xs.length, rfl, sq_of ?_⟩)⟩
    · have hi2 : i < xs.length := (List.getElem?_eq_some_iff.mp hi).1
      exact ⟨hw _, cw_turn p (by omega) (fun H2 _ Q q => q H2 (Ex.refl H2)) (fun _ => he x H1 (e.trans e1) (hx x (List.mem_of_getElem? hi)))⟩
    · rw [p.2.2, given_all, List.map_const', List.length_range]
      congr 2
      unfold bls
      rw [List.map_replicate]
theorem ev_allT (h : EvP te σ H (wYes K)) : Ev (tCB (rAll K) (tCons te tNil)) σ H (.bl true) := fun H1 e Q q =>
  h H1 e _ fun v H2 e2 hv => by
    obtain ⟨p, n, rfl, hp⟩ := hv
    refine ⟨p, List.replicate n true, rfl, hp, ?_⟩
    rw [show (List.replicate n true).all id = true by rw [List.all_eq_true]; intro b hb; exact List.eq_of_mem_replicate hb]
    exact q H2 e2
/-- a text of the law -/
def wTxt : Wd := fun y _ => ∃ s : Str, y = .str s ∧ s.length ≤ 5000
theorem good_ok {p : Int} (h : Good p) : primeOk (.int p) = true := by
  have h2 := h.two
  have h9 := h.most
  rw [prime_iff h2 h9]
  unfold noDiv
  rw [Bool.not_eq_true', List.any_eq_false]
  intro i hi z
  have hi := List.mem_range.mp hi
  have z := of_decide_eq_true z
  rcases h.pr _ (by omega) (Int.dvd_of_emod_eq_zero z) with w | w <;> omega
end
theorem writeL_len {q : Nat} {ns : List Nat} (hq : q < 1000) (hn : ∀ n ∈ ns, n < 1000) : (writeL q ns).length ≤ 4 + 4 * ns.length := by
  have c1 := numL_short hq
  have fl : ∀ ns : List Nat, (∀ n ∈ ns, n < 1000) → ((ns.map fun n => [32] ++ TL.numL n).flatten).length ≤ 4 * ns.length := fun ns => by
    induction ns with
    | nil => intro _; exact Nat.zero_le _
    | cons n ns ih =>
      intro h
      have h1 := numL_short (h n (List.mem_cons_self ..))
      have h2 := ih fun m hm => h m (List.mem_cons_of_mem _ hm)
      simp only [List.map_cons, List.flatten_cons, List.length_append, List.length_cons, List.length_nil] at h2 ⊢
      omega
  have c2 := fl ns hn
  unfold writeL
  rw [List.length_append, List.length_append, List.length_singleton]
  omega
def SIGNS : Str := Str.ofString "0123456789: -x\n"
theorem signs_at {d : Int} (h : 0 ≤ d ∧ d < 15) : ∃ c, atI SIGNS.cps.toList d = some c := by
  have k : ∀ n : Nat, n < 15 → (atI SIGNS.cps.toList (n : Int)).isSome = true := by decide +kernel
  obtain ⟨n, rfl⟩ : ∃ n : Nat, d = (n : Int) := ⟨d.toNat, by omega⟩
  exact Option.isSome_iff_exists.mp (k n (by omega))
theorem two_at {s : Str} {d : Int} (h : 0 ≤ d ∧ d < 2) (hs : s.length ≤ 1) : ∃ t : Str, atI [V.str (Str.ofString ""), V.str s] d = some (.str t) ∧ t.length ≤ 1 := by
  rcases (show d = 0 ∨ d = 1 by omega) with e | e
  · rw [e]
    exact ⟨Str.ofString "", rfl, by decide +kernel⟩
  · rw [e]
    exact ⟨s, rfl, hs⟩
end RK
namespace RP
open PySem PySem.Spec PyProof.Rows L2 Evl RR RK RT
/-! own short tactics, under the walk's word: ev (what an expression evaluates to), sd (a side condition), sq (a list that stands) -/
local macro_rules | `(tactic| walk_at "sq") => `(tactic| first
  | assumption
  | exact sq_of (by assumption)
  | exact Has.at (by assumption) (List.Mem.head _)
  | exact Has.at (by assumption) (List.Mem.tail _ (List.Mem.head _))
  | exact Has.at (by assumption) (List.Mem.tail _ (List.Mem.tail _ (List.Mem.head _)))
  | exact Has.at (by assumption) (List.Mem.tail _ (List.Mem.tail _ (List.Mem.tail _ (List.Mem.head _))))
  | exact Has.at (by assumption) (List.Mem.tail _ (List.Mem.tail _ (List.Mem.tail _ (List.Mem.tail _ (List.Mem.head _)))))
  | exact Has.at (by assumption) (List.Mem.tail _ (List.Mem.tail _ (List.Mem.tail _ (List.Mem.tail _ (List.Mem.tail _ (List.Mem.head _)))))))
local macro_rules | `(tactic| walk_at "hb") => `(tactic| (with_reducible intro hb; try simp only [Bool.and_eq_true, Bool.or_eq_true, Bool.not_eq_true', Bool.not_eq_false', Bool.and_eq_false_iff, Bool.or_eq_false_iff, decide_eq_true_eq, decide_eq_false_iff_not] at hb))
local macro_rules | `(tactic| walk_at "sd") => `(tactic| first | assumption | omega | (constructor <;> omega) | exact trivial | (simp only [List.length_cons, List.length_nil, List.length_map, List.length_take, List.length_drop, List.length_append, List.length_reverse]; omega) | skip)
/-- no def of the text: the newest rows stand further on -/
local macro_rules | `(tactic| walk_at "own") => `(tactic| fail "no own def")
local macro_rules | `(tactic| walk_at "fl") => `(tactic| first | exact fl3_rule _ _ _ | exact fl3_shorter _ _ _ | exact fl3_place _ _ _ | exact fl4_one _ _ _ _ | exact fl4_other _ _ _ _ | exact fl4_shorter _ _ _ _ | exact fl4_place _ _ _ _)
local macro_rules | `(tactic| walk_at "ev") => `(tactic| first
  | with_reducible exact ev_c
  | ((with_reducible apply ev_var); rfl)
  | ((with_reducible apply em_var); rfl; assumption)
  | ((with_reducible apply er_var); rfl; walk_at "sq")
  | ((with_reducible apply er_ix); walk_at "ev"; walk_at "ev"; rfl; walk_at "sq")
  | ((with_reducible apply em_fld); walk_at "ev"; assumption)
  | ((with_reducible apply er_fld); walk_at "ev"; walk_at "sq")
  | ((with_reducible apply ev_fld); walk_at "ev"; assumption; assumption; assumption; walk_at "fl")
  | ((with_reducible apply ev_add) <;> walk_at "ev")
  | ((with_reducible apply ev_sub) <;> walk_at "ev")
  | ((with_reducible apply ev_mul) <;> walk_at "ev")
  | ((with_reducible apply ev_mod) <;> walk_at "ev")
  | ((with_reducible apply ev_div) <;> walk_at "ev")
  | ((with_reducible apply ev_lt) <;> walk_at "ev")
  | ((with_reducible apply ev_le) <;> walk_at "ev")
  | ((with_reducible apply ev_gt) <;> walk_at "ev")
  | ((with_reducible apply ev_ge) <;> walk_at "ev")
  | ((with_reducible apply ev_eq) <;> walk_at "ev")
  | ((with_reducible apply ev_ne) <;> walk_at "ev")
  | ((with_reducible apply ev_neg) <;> walk_at "ev")
  | ((with_reducible apply ev_shr) <;> walk_at "ev")
  | ((with_reducible apply ev_band1) <;> walk_at "ev")
  | ((with_reducible apply ev_absI) <;> walk_at "ev")
  | ((with_reducible apply ev_isB) <;> walk_at "ev")
  | ((with_reducible apply ev_notB) <;> walk_at "ev")
  | ((with_reducible apply ev_ixLast) <;> walk_at "ev")
  | ((with_reducible apply ev_ixI) <;> walk_at "ev")
  | ((with_reducible apply ev_ixR); walk_at "ev"; walk_at "ev"; rfl)
  | ((with_reducible apply ev_eqL) <;> walk_at "ev")
  | ((with_reducible apply ev_neL) <;> walk_at "ev")
  | ((with_reducible apply ev_ixTvar); rfl; (exact st_of (by assumption)); walk_at "ev"; rfl)
  | ((with_reducible apply ev_ixTi); rfl; (exact st_of (by assumption)); walk_at "ev"; walk_at "sd")
  | ((with_reducible apply ev_ixUi) <;> walk_at "ev")
  | ((with_reducible apply er_ifT) <;> walk_at "ev")
  | ((with_reducible apply er_ifF) <;> walk_at "ev")
  | ((with_reducible apply ev_ifI) <;> walk_at "ev")
  | ((with_reducible apply ev_ifT) <;> walk_at "ev")
  | ((with_reducible apply ev_ifF) <;> walk_at "ev")
  | ((with_reducible apply ev_alt1) <;> walk_at "ev")
  | ((with_reducible apply ev_alt2) <;> walk_at "ev")
  | ((with_reducible apply ev_isiO); walk_at "ev"; assumption; assumption; assumption; assumption; assumption; assumption; assumption)
  | ((with_reducible apply ev_eqLL) <;> walk_at "ev")
  | ((with_reducible apply ev_neLL) <;> walk_at "ev")
  | ((with_reducible apply ell_var); rfl; walk_at "sq"; walk_at "sq"; walk_at "sq")
  | ((with_reducible apply ell_lst) <;> walk_at "ev")
  | ((with_reducible apply ev_lenI) <;> walk_at "ev")
  | ((with_reducible apply ev_lenR) <;> walk_at "ev")
  | ((with_reducible apply ev_sumR) <;> walk_at "ev")
  | ((with_reducible apply ev_allR) <;> walk_at "ev")
  | ((with_reducible apply ev_anyR) <;> walk_at "ev")
  | ((with_reducible apply ev_max2) <;> walk_at "ev")
  | ((with_reducible apply ev_isiV) <;> walk_at "ev")
  | with_reducible exact fun _ => TyX.base (TyOf.int _)
  | with_reducible exact fun _ => TyX.base (TyOf.bl _)
  | exact fun e => tyx_sql (ex_l e (by walk_at "sq"))
  | with_reducible exact kit_ty (r := true) (by decide +kernel)
  | with_reducible exact kit_ty (r := false) (by decide +kernel)
  | with_reducible exact Sc.int _ _
  | with_reducible exact Sc.bl _ _
  | with_reducible exact Sc.str _ _
  | ((with_reducible apply ev_andV) <;> walk_at "ev")
  | ((with_reducible apply ev_orV) <;> walk_at "ev")
  | ((with_reducible apply ev_notV) <;> walk_at "ev")
  | ((with_reducible apply ev_chain) <;> walk_at "ev")
  | ((with_reducible apply et_and) <;> walk_at "ev")
  | ((with_reducible apply et_or) <;> walk_at "ev")
  | ((with_reducible apply et_not) <;> walk_at "ev")
  | ((with_reducible apply et_test) <;> walk_at "ev")
  | ((with_reducible apply et_B) <;> walk_at "ev")
  | with_reducible exact et_yes
  | with_reducible exact rv_lt
  | with_reducible exact rv_le
  | with_reducible exact rv_eqI
  | with_reducible exact ea_nilI
  | with_reducible exact ea_nil
  | ((with_reducible apply ea_consI) <;> walk_at "ev")
  | ((with_reducible apply ea_cons) <;> walk_at "ev")
  | with_reducible exact eas_nil
  | ((with_reducible apply eas_v) <;> walk_at "ev")
  | ((with_reducible apply eas_l) <;> walk_at "ev")
  | ((with_reducible apply eas_m) <;> walk_at "ev")
  | with_reducible exact eo_none
  | ((with_reducible apply eo_some) <;> walk_at "ev")
  | ((with_reducible apply el_catI) <;> walk_at "ev")
  | ((with_reducible apply el_repI) <;> walk_at "ev")
  | ((with_reducible apply el_slBut) <;> walk_at "ev")
  | ((with_reducible apply el_slFrom) <;> walk_at "ev")
  | ((with_reducible apply el_slTo) <;> walk_at "ev")
  | ((with_reducible apply el_slR) <;> walk_at "ev")
  | ((with_reducible apply el_listR) <;> walk_at "ev")
  | ((with_reducible apply el_revI) <;> walk_at "ev")
  | with_reducible exact el_nilI
  | with_reducible exact el_nil
  | ((with_reducible apply el_one) <;> walk_at "ev")
  | ((with_reducible apply el_lstI) <;> walk_at "ev")
  | ((with_reducible apply el_lst) <;> walk_at "ev")
  | ((with_reducible apply eu_tup) <;> walk_at "ev")
  | walk_at "own"
  | ((with_reducible apply er_of_l) <;> walk_at "ev")
  | ((with_reducible apply em_of_l) <;> walk_at "ev")
  | (walk_at "hb"; walk_at "ev")
  | ((with_reducible show EvL (tLc _ _ _ _ _) _ _ _); skip)
  | ((with_reducible first | show List _ | show Int | show Bool | show V | show Nat | show Addr | show Str | show Value); skip)
  | (((fail_if_success with_reducible first | show Ev _ _ _ _ | show EvR _ _ _ _ _ | show EvM _ _ _ _ | show EvL _ _ _ _ | show EvT _ _ _ _ | show EvA _ _ _ _ | show EvAs _ _ _ _ _ | show EvU _ _ _ _ | show EvO _ _ _ _ | show EvLL _ _ _ _ _ _)); walk_at "sd"))
def topS (i : Nat) : Stmt := PySem.Challenge.pw_rulerow_k06_written.main.body.getD i (.Pass ⟨0, 0, 0, 0⟩)
abbrev s_is_whole : Stmt := topS 11
abbrev s_check_prime : Stmt := topS 12
abbrev s_are_rests : Stmt := topS 13
abbrev s_check_row : Stmt := topS 14
abbrev s__law_cell_at : Stmt := topS 21
abbrev s__law_draw : Stmt := topS 22
abbrev s__law_prime : Stmt := topS 23
abbrev s__law_rests : Stmt := topS 24
abbrev s__law_due : Stmt := topS 26
abbrev s__law_row : Stmt := topS 25
abbrev s_written : Stmt := topS 17
abbrev s_number_in : Stmt := topS 18
abbrev s__law_number : Stmt := topS 30
abbrev s_read : Stmt := topS 19
abbrev s__law_in : Stmt := topS 31
abbrev s__law_refused : Stmt := topS 32
abbrev s__law_right : Stmt := topS 33
abbrev s__law_few : Stmt := topS 34
abbrev s_law : Stmt := topS 35
theorem sc_is_whole : FnScope ["thing"] ["thing"] (defScope s_is_whole) := ⟨rfl, rfl, rfl, by decide +kernel, rfl, by decide +kernel, by decide +kernel⟩
theorem sc_check_prime : FnScope ["prime", "at"] ["prime"] (defScope s_check_prime) := ⟨rfl, rfl, rfl, by decide +kernel, rfl, by decide +kernel, by decide +kernel⟩
theorem sc_are_rests : FnScope ["prime", "thing", "one"] ["prime", "thing"] (defScope s_are_rests) := ⟨rfl, rfl, rfl, by decide +kernel, rfl, by decide +kernel, by decide +kernel⟩
theorem sc_check_row : FnScope ["prime", "row"] ["prime", "row"] (defScope s_check_row) := ⟨rfl, rfl, rfl, by decide +kernel, rfl, by decide +kernel, by decide +kernel⟩
theorem sc__law_cell_at : FnScope ["_law_script", "_law_k"] ["_law_script", "_law_k"] (defScope s__law_cell_at) := ⟨rfl, rfl, rfl, by decide +kernel, rfl, by decide +kernel, by decide +kernel⟩
theorem sc__law_draw : FnScope ["_law_cell", "_law_k", "_law_many", "_law_primes"] ["_law_cell", "_law_k", "_law_many"] (defScope s__law_draw) := ⟨rfl, rfl, rfl, by decide +kernel, rfl, by decide +kernel, by decide +kernel⟩
theorem sc__law_prime : FnScope ["_law_script"] ["_law_script"] (defScope s__law_prime) := ⟨rfl, rfl, rfl, by decide +kernel, rfl, by decide +kernel, by decide +kernel⟩
theorem sc__law_rests : FnScope ["_law_script", "_law_by", "_law_prime_here", "_law_many", "_law_k"] ["_law_script", "_law_by", "_law_prime_here", "_law_many"] (defScope s__law_rests) := ⟨rfl, rfl, rfl, by decide +kernel, rfl, by decide +kernel, by decide +kernel⟩
theorem sc__law_due : FnScope ["_law_prime_here", "_law_rule", "_law_row_here", "_law_place", "_law_k", "_law_rest"] ["_law_prime_here", "_law_rule", "_law_row_here", "_law_place"] (defScope s__law_due) := ⟨rfl, rfl, rfl, by decide +kernel, rfl, by decide +kernel, by decide +kernel⟩
theorem sc__law_row : FnScope ["_law_script", "_law_prime_here", "_law_kind", "_law_many", "_law_drawn", "_law_rule", "_law_place", "_law_k", "_law_number_here"] ["_law_script", "_law_prime_here"] (defScope s__law_row) := ⟨rfl, rfl, rfl, by decide +kernel, rfl, by decide +kernel, by decide +kernel⟩
theorem sc_written : FnScope ["prime", "row", "number"] ["prime", "row"] (defScope s_written) := ⟨rfl, rfl, rfl, by decide +kernel, rfl, by decide +kernel, by decide +kernel⟩
theorem sc_number_in : FnScope ["word"] ["word"] (defScope s_number_in) := ⟨rfl, rfl, rfl, by decide +kernel, rfl, by decide +kernel, by decide +kernel⟩
theorem sc__law_number : FnScope ["_law_text"] ["_law_text"] (defScope s__law_number) := ⟨rfl, rfl, rfl, by decide +kernel, rfl, by decide +kernel, by decide +kernel⟩
theorem sc_read : FnScope ["text", "head", "colon", "rest", "words", "prime", "row", "word"] ["text"] (defScope s_read) := ⟨rfl, rfl, rfl, by decide +kernel, rfl, by decide +kernel, by decide +kernel⟩
theorem sc__law_in : FnScope ["_law_text", "_law_head", "_law_colon", "_law_rest", "_law_words", "_law_prime_here", "_law_row_here", "_law_at", "_law_word"] ["_law_text"] (defScope s__law_in) := ⟨rfl, rfl, rfl, by decide +kernel, rfl, by decide +kernel, by decide +kernel⟩
theorem sc__law_refused : FnScope ["_law_text", "error", "_law_others"] ["_law_text"] (defScope s__law_refused) := ⟨rfl, rfl, rfl, by decide +kernel, rfl, by decide +kernel, by decide +kernel⟩
theorem sc__law_right : FnScope ["_law_text", "_law_due_here", "_law_found"] ["_law_text"] (defScope s__law_right) := ⟨rfl, rfl, rfl, by decide +kernel, rfl, by decide +kernel, by decide +kernel⟩
theorem sc__law_few : FnScope ["_law_some"] [] (defScope s__law_few) := ⟨rfl, rfl, rfl, by decide +kernel, rfl, by decide +kernel, by decide +kernel⟩
theorem sc_law : FnScope ["_law_script", "_law_prime_here", "_law_row_here", "_law_text", "_law_handed", "_law_cell", "_law_k", "_law_at", "_law_sign", "_law_number_here", "_law_other", "_law_thing"] ["_law_script"] (defScope s_law) := ⟨rfl, rfl, rfl, by decide +kernel, rfl, by decide +kernel, by decide +kernel⟩
/-- what the top has written -/
structure Txt (K : PySem.W.Frag) (mg : Str → Option Value) where
  a_is_whole : Addr
  f_is_whole : FuncData
  F_is_whole : Fun K "is_whole" "is_whole" s_is_whole a_is_whole f_is_whole
  b_is_whole : Binds K f_is_whole ["thing"] []
  g_is_whole : mg "is_whole" = some (.ref a_is_whole)
  a_check_prime : Addr
  f_check_prime : FuncData
  F_check_prime : Fun K "check_prime" "check_prime" s_check_prime a_check_prime f_check_prime
  b_check_prime : Binds K f_check_prime ["prime"] []
  g_check_prime : mg "check_prime" = some (.ref a_check_prime)
  a_are_rests : Addr
  f_are_rests : FuncData
  F_are_rests : Fun K "are_rests" "are_rests" s_are_rests a_are_rests f_are_rests
  b_are_rests : Binds K f_are_rests ["prime", "thing"] []
  g_are_rests : mg "are_rests" = some (.ref a_are_rests)
  a_check_row : Addr
  f_check_row : FuncData
  F_check_row : Fun K "check_row" "check_row" s_check_row a_check_row f_check_row
  b_check_row : Binds K f_check_row ["prime", "row"] []
  g_check_row : mg "check_row" = some (.ref a_check_row)
  a__law_cell_at : Addr
  f__law_cell_at : FuncData
  F__law_cell_at : Fun K "_law_cell_at" "_law_cell_at" s__law_cell_at a__law_cell_at f__law_cell_at
  b__law_cell_at : Binds K f__law_cell_at ["_law_script", "_law_k"] []
  g__law_cell_at : mg "_law_cell_at" = some (.ref a__law_cell_at)
  a__law_draw : Addr
  f__law_draw : FuncData
  F__law_draw : Fun K "_law_draw" "_law_draw" s__law_draw a__law_draw f__law_draw
  b__law_draw : Binds K f__law_draw ["_law_cell", "_law_k", "_law_many"] []
  g__law_draw : mg "_law_draw" = some (.ref a__law_draw)
  a__law_prime : Addr
  f__law_prime : FuncData
  F__law_prime : Fun K "_law_prime" "_law_prime" s__law_prime a__law_prime f__law_prime
  b__law_prime : Binds K f__law_prime ["_law_script"] []
  g__law_prime : mg "_law_prime" = some (.ref a__law_prime)
  a__law_rests : Addr
  f__law_rests : FuncData
  F__law_rests : Fun K "_law_rests" "_law_rests" s__law_rests a__law_rests f__law_rests
  b__law_rests : Binds K f__law_rests ["_law_script", "_law_by", "_law_prime_here", "_law_many"] []
  g__law_rests : mg "_law_rests" = some (.ref a__law_rests)
  a__law_due : Addr
  f__law_due : FuncData
  F__law_due : Fun K "_law_due" "_law_due" s__law_due a__law_due f__law_due
  b__law_due : Binds K f__law_due ["_law_prime_here", "_law_rule", "_law_row_here", "_law_place"] []
  g__law_due : mg "_law_due" = some (.ref a__law_due)
  a__law_row : Addr
  f__law_row : FuncData
  F__law_row : Fun K "_law_row" "_law_row" s__law_row a__law_row f__law_row
  b__law_row : Binds K f__law_row ["_law_script", "_law_prime_here"] []
  g__law_row : mg "_law_row" = some (.ref a__law_row)
  a_written : Addr
  f_written : FuncData
  F_written : Fun K "written" "written" s_written a_written f_written
  b_written : Binds K f_written ["prime", "row"] []
  g_written : mg "written" = some (.ref a_written)
  a_number_in : Addr
  f_number_in : FuncData
  F_number_in : Fun K "number_in" "number_in" s_number_in a_number_in f_number_in
  b_number_in : Binds K f_number_in ["word"] []
  g_number_in : mg "number_in" = some (.ref a_number_in)
  a__law_number : Addr
  f__law_number : FuncData
  F__law_number : Fun K "_law_number" "_law_number" s__law_number a__law_number f__law_number
  b__law_number : Binds K f__law_number ["_law_text"] []
  g__law_number : mg "_law_number" = some (.ref a__law_number)
  a_read : Addr
  f_read : FuncData
  F_read : Fun K "read" "read" s_read a_read f_read
  b_read : Binds K f_read ["text"] []
  g_read : mg "read" = some (.ref a_read)
  a__law_in : Addr
  f__law_in : FuncData
  F__law_in : Fun K "_law_in" "_law_in" s__law_in a__law_in f__law_in
  b__law_in : Binds K f__law_in ["_law_text"] []
  g__law_in : mg "_law_in" = some (.ref a__law_in)
  a__law_refused : Addr
  f__law_refused : FuncData
  F__law_refused : Fun K "_law_refused" "_law_refused" s__law_refused a__law_refused f__law_refused
  b__law_refused : Binds K f__law_refused ["_law_text"] []
  g__law_refused : mg "_law_refused" = some (.ref a__law_refused)
  a__law_right : Addr
  f__law_right : FuncData
  F__law_right : Fun K "_law_right" "_law_right" s__law_right a__law_right f__law_right
  b__law_right : Binds K f__law_right ["_law_text"] []
  g__law_right : mg "_law_right" = some (.ref a__law_right)
  a__law_few : Addr
  f__law_few : FuncData
  F__law_few : Fun K "_law_few" "_law_few" s__law_few a__law_few f__law_few
  b__law_few : Binds K f__law_few [] []
  g__law_few : mg "_law_few" = some (.ref a__law_few)
  a_law : Addr
  f_law : FuncData
  F_law : Fun K "law" "law" s_law a_law f_law
  b_law : Binds K f_law ["_law_script"] []
  g_law : mg "law" = some (.ref a_law)
  a_RuleError : Addr
  g_RuleError : mg "RuleError" = some (.ref a_RuleError)
  a_BadPrime : Addr
  g_BadPrime : mg "BadPrime" = some (.ref a_BadPrime)
  a_BadRow : Addr
  g_BadRow : mg "BadRow" = some (.ref a_BadRow)
  a_BadRule : Addr
  g_BadRule : mg "BadRule" = some (.ref a_BadRule)
  a_BadPlace : Addr
  g_BadPlace : mg "BadPlace" = some (.ref a_BadPlace)
  a_TooFew : Addr
  g_TooFew : mg "TooFew" = some (.ref a_TooFew)
  a_NoWay : Addr
  g_NoWay : mg "NoWay" = some (.ref a_NoWay)
  a_BadText : Addr
  g_BadText : mg "BadText" = some (.ref a_BadText)
  x_BadPrime : PySem.W.excIn K a_BadPrime [.type "ValueError", .type "Exception", .type "BaseException", .type "object"] "ValueError.__new__" = true
  kp_BadPrime : PySem.W.keepIn K (.ref a_BadPrime) = true
  s_BadPrime : PySem.W.subIn K (.ref a_BadPrime) (.type "BaseException") = some true
  t_BadPrime : PySem.W.typeIn K (.ref a_BadPrime) = some (.type "type")
  xc_BadPrime : ExcC K a_BadPrime
  isa_BadPrime_BadPrime : PySem.W.kitOne K (.ref a_BadPrime) (.ref a_BadPrime) = some true
  isa_BadPrime_BadRow : PySem.W.kitOne K (.ref a_BadPrime) (.ref a_BadRow) = some false
  isa_BadPrime_BadRule : PySem.W.kitOne K (.ref a_BadPrime) (.ref a_BadRule) = some false
  isa_BadPrime_BadPlace : PySem.W.kitOne K (.ref a_BadPrime) (.ref a_BadPlace) = some false
  isa_BadPrime_TooFew : PySem.W.kitOne K (.ref a_BadPrime) (.ref a_TooFew) = some false
  isa_BadPrime_NoWay : PySem.W.kitOne K (.ref a_BadPrime) (.ref a_NoWay) = some false
  isa_BadPrime_BadText : PySem.W.kitOne K (.ref a_BadPrime) (.ref a_BadText) = some false
  isa_BadPrime_ValueError : PySem.W.kitOne K (.ref a_BadPrime) (.type "ValueError") = some true
  exm_BadPrime_RuleError : PySem.W.exmOne K (.ref a_BadPrime) (.ref a_RuleError) = some true
  exm_BadPrime_BadPrime : PySem.W.exmOne K (.ref a_BadPrime) (.ref a_BadPrime) = some true
  exm_BadPrime_BadRow : PySem.W.exmOne K (.ref a_BadPrime) (.ref a_BadRow) = some false
  x_BadRow : PySem.W.excIn K a_BadRow [.type "ValueError", .type "Exception", .type "BaseException", .type "object"] "ValueError.__new__" = true
  kp_BadRow : PySem.W.keepIn K (.ref a_BadRow) = true
  s_BadRow : PySem.W.subIn K (.ref a_BadRow) (.type "BaseException") = some true
  t_BadRow : PySem.W.typeIn K (.ref a_BadRow) = some (.type "type")
  xc_BadRow : ExcC K a_BadRow
  isa_BadRow_BadPrime : PySem.W.kitOne K (.ref a_BadRow) (.ref a_BadPrime) = some false
  isa_BadRow_BadRow : PySem.W.kitOne K (.ref a_BadRow) (.ref a_BadRow) = some true
  isa_BadRow_BadRule : PySem.W.kitOne K (.ref a_BadRow) (.ref a_BadRule) = some false
  isa_BadRow_BadPlace : PySem.W.kitOne K (.ref a_BadRow) (.ref a_BadPlace) = some false
  isa_BadRow_TooFew : PySem.W.kitOne K (.ref a_BadRow) (.ref a_TooFew) = some false
  isa_BadRow_NoWay : PySem.W.kitOne K (.ref a_BadRow) (.ref a_NoWay) = some false
  isa_BadRow_BadText : PySem.W.kitOne K (.ref a_BadRow) (.ref a_BadText) = some false
  isa_BadRow_ValueError : PySem.W.kitOne K (.ref a_BadRow) (.type "ValueError") = some true
  exm_BadRow_RuleError : PySem.W.exmOne K (.ref a_BadRow) (.ref a_RuleError) = some true
  exm_BadRow_BadPrime : PySem.W.exmOne K (.ref a_BadRow) (.ref a_BadPrime) = some false
  exm_BadRow_BadRow : PySem.W.exmOne K (.ref a_BadRow) (.ref a_BadRow) = some true
  x_BadText : PySem.W.excIn K a_BadText [.type "ValueError", .type "Exception", .type "BaseException", .type "object"] "ValueError.__new__" = true
  kp_BadText : PySem.W.keepIn K (.ref a_BadText) = true
  s_BadText : PySem.W.subIn K (.ref a_BadText) (.type "BaseException") = some true
  t_BadText : PySem.W.typeIn K (.ref a_BadText) = some (.type "type")
  xc_BadText : ExcC K a_BadText
  isa_BadText_BadPrime : PySem.W.kitOne K (.ref a_BadText) (.ref a_BadPrime) = some false
  isa_BadText_BadRow : PySem.W.kitOne K (.ref a_BadText) (.ref a_BadRow) = some false
  isa_BadText_BadRule : PySem.W.kitOne K (.ref a_BadText) (.ref a_BadRule) = some false
  isa_BadText_BadPlace : PySem.W.kitOne K (.ref a_BadText) (.ref a_BadPlace) = some false
  isa_BadText_TooFew : PySem.W.kitOne K (.ref a_BadText) (.ref a_TooFew) = some false
  isa_BadText_NoWay : PySem.W.kitOne K (.ref a_BadText) (.ref a_NoWay) = some false
  isa_BadText_BadText : PySem.W.kitOne K (.ref a_BadText) (.ref a_BadText) = some true
  isa_BadText_ValueError : PySem.W.kitOne K (.ref a_BadText) (.type "ValueError") = some true
  exm_BadText_RuleError : PySem.W.exmOne K (.ref a_BadText) (.ref a_RuleError) = some true
  exm_BadText_BadPrime : PySem.W.exmOne K (.ref a_BadText) (.ref a_BadPrime) = some false
  exm_BadText_BadRow : PySem.W.exmOne K (.ref a_BadText) (.ref a_BadRow) = some false
  n_len : mg "len" = none
  n_sum : mg "sum" = none
  n_all : mg "all" = none
  n_any : mg "any" = none
  n_list : mg "list" = none
  n_max : mg "max" = none
  n_isinstance : mg "isinstance" = none
  n_range : mg "range" = none
  n_enumerate : mg "enumerate" = none
  n_int : mg "int" = none
  n_bool : mg "bool" = none
  n_abs : mg "abs" = none
  n_reversed : mg "reversed" = none
  n_str : mg "str" = none
  n_tuple : mg "tuple" = none
  n_ValueError : mg "ValueError" = none
  t_GREATEST : Tok
  c_GREATEST : mg "GREATEST" = some (.int 997 t_GREATEST)
  t_FIGURES : Tok
  c_FIGURES : mg "FIGURES" = some (.str "0123456789" t_FIGURES)
section
variable {P : Program} {w : World} {K : PySem.W.Frag} {mg : Str → Option Value} {base : Heap}
/-! is_whole -/
def sp_is_whole (K : PySem.W.Frag) : Sp := fun vs H Q _ => ∃ x, vs = [x] ∧ Thing K H x ∧ RetV (.bl (whole x)) H Q
theorem ev_is_whole {K : PySem.W.Frag} {σ : L2.St} {H : Hp} {E : XK} {ta : TA} {x : V} (h : EvA ta σ H [x]) (hx : Thing K H x) : Ev (tCall (sp_is_whole K) [] E ta) σ H (.bl (whole x)) := fun H1 e Q q =>
  h H1 e _ fun H2 e2 => ⟨x, rfl, hx.up (e.trans e2), fun H3 e3 => q H3 (e2.trans e3)⟩
theorem ok_is_whole (T : Txt K mg) : FnOk P w K mg base CX0 1 T.a_is_whole T.f_is_whole ["thing"] (sp_is_whole K) := by
  refine T.F_is_whole.ok sc_is_whole (fun vs H Q E h => ?_) (fun cdv A outer s H vs Q E hr h => ?_)
  · obtain ⟨x, rfl, _⟩ := h
    rfl
  · obtain ⟨x, rfl, hx, q⟩ := h
    rw [show start ["thing"] [x] = [some x] from rfl]
    refine ⟨_, (pss_one (ps_ret (pe_and (x_isi K rfl T.n_isinstance (by rfl) (pa_cons (pv 0) (pa_cons (x_ty "int" T.n_int (by rfl) (by decide +kernel)) pa_nil))) (pe_one (pe_not (x_isi K rfl T.n_isinstance (by rfl) (pa_cons (pv 0) (pa_cons (x_ty "bool" T.n_bool (by rfl) (by decide +kernel)) pa_nil)))))))), ?_⟩
    refine s_ret (v := .bl (whole x)) ?_ q
    rw [whole_is hx]
    exact ev_andV (ev_tInt hx (ev_var rfl)) fun _ => ev_notV (ev_tBool hx (ev_var rfl))
/-! check_prime -/
def sp_check_prime (K : PySem.W.Frag) (C : Addr) : Sp := fun vs H Q E => ∃ x, vs = [x] ∧ Thing K H x ∧ (primeOk x = true → RetV .non H Q) ∧ (primeOk x = false → ∀ H', Ex H H' → E (.ref C) none H')
theorem q_checkPrime {K : PySem.W.Frag} {C : Addr} {σ : L2.St} {H : Hp} {E : XK} {ta : TA} {x : V} {tz : TS} {D : Ends} (h : EvA ta σ H [x]) (hx : Thing K H x) (h1 : primeOk x = true → ∀ H1, Ex H H1 → tz D σ H1) (h2 : primeOk x = false → ∀ H', Ex H H' → E (.ref C) none H') :
    tSeq (tDrop (tCall (sp_check_prime K C) [] E ta)) tz D σ H := h H (Ex.refl H) _ fun H1 e1 => ⟨x, rfl, hx.up e1, fun b H2 e2 => h1 b H2 (e1.trans e2), fun b H2 e2 => h2 b H2 (e1.trans e2)⟩
theorem ok_check_prime (T : Txt K mg) : FnOk P w K mg base (L2N.CX P w) 2 T.a_check_prime T.f_check_prime ["prime"] (sp_check_prime K T.a_BadPrime) := by
  refine T.F_check_prime.okN sc_check_prime (fun vs H Q E h => ?_) (fun cdv A outer s H vs Q E hr h => ?_)
  · obtain ⟨x, rfl, _⟩ := h
    rfl
  · obtain ⟨x, rfl, hx, q1, q2⟩ := h
    rw [show start ["prime", "at"] [x] = [some x, none] from rfl]
    refine ⟨_, (pss_one (ps_if (PW.pt (pw_or (pt_not (pt_val (pe_call (ok_is_whole T) (hr.mono (by decide)) (by rfl) T.g_is_whole T.F_is_whole.kp T.b_is_whole .nil pass0 (pa_cons (pv 0) pa_nil)))) (pw_or (pt_not (pt_chain op_le op_le pe_int (pv 0) (pe_glob (v := .int 997) (by rfl) T.c_GREATEST ⟨_, rfl⟩))) (pw_or1 (pt_val (x_any K rfl rfl T.n_any (by rfl) (pa_cons (pe_lc (own := [("at", 1)]) (g := (gName 1)) rfl sc_check_prime.nd (pi_range2 (by rfl) T.n_range (pa_cons pe_int (pa_cons pe_int pa_nil))) (blkOk_by (N := ["prime", "at"]) (sc := defScope s_check_prime) (by decide +kernel)) (fun _ _ _ _ _ => (pg_name (i := 1) sc_check_prime.nd rfl (Or.inl rfl))) (fun _ _ _ _ _ => (pts_one (pt_cmpR op_lt (pv 1) (pv 0) (nomark _)))) (fun _ _ _ _ _ => (pe_cmpR op_eq (pe_op op_mod (pv 0) (pv 1)) pe_int (nomark _)))) pa_nil))))))) (pss_one (L2N.ps_raise rfl (L2N.takes_of rfl rfl rfl rfl) (L2N.pmk_own PySem.F.excBase_ValueError T.x_BadPrime T.g_BadPrime T.kp_BadPrime (raises_own T.s_BadPrime T.t_BadPrime) (by rfl)))) pss_nil)), ?_⟩
    refine s_when (b := !primeOk x) ?_ (fun c H1 e1 => q2 (by simpa using c) H1 e1) (fun c H1 e1 => q1 (by simpa using c) H1 e1)
    cases hw : whole x with
    | false =>
      have e0 : primeOk x = false := by cases x <;> first | rfl | cases hw
      rw [e0]
      refine et_is (et_or (b := false) (et_not (et_B (ev_is_whole (ea_cons (ev_var rfl) ea_nil) hx))) fun z => ?_) ?_
      · rw [hw] at z
        cases z
      · rw [hw]
        rfl
    | true =>
      obtain ⟨p, rfl⟩ : ∃ p, x = .int p := by cases x <;> first | exact ⟨_, rfl⟩ | cases hw
      apply et_is
      · apply et_or
        · exact et_not (et_B (ev_is_whole (ea_cons (ev_var rfl) ea_nil) hx))
        · intro _
          apply et_or
          · walk_at "ev"
          · intro hb
            simp only [Bool.not_eq_false', Bool.and_eq_true, decide_eq_true_eq] at hb
            walk_at "ev"
            apply el_lcRbt (lo := 2) (hi := 32) (fun i => decide ((2 : Int) + i < p)) (fun i => decide (p % ((2 : Int) + i) = 0)) (by walk_at "ev") (by omega) (by omega) (fun _ => rfl)
            · intro i H1 e hi
              walk_at "ev"
            · intro i H1 e hi hf
              walk_at "ev"
      · show (!true || (!(decide ((2 : Int) ≤ p) && decide (p ≤ 997)) || _)) = !(decide (2 ≤ p) && decide (p ≤ 997) && !_)
        rw [List.any_map, List.any_filter]
        simp only [Bool.not_true, Bool.false_or, Bool.not_and, Bool.not_not]
        rfl
/-! are_rests -/
def sp_are_rests (K : PySem.W.Frag) : Sp := fun vs H Q _ => ∃ (p : Int) (x : V) (b : Bool), vs = [.int p, x] ∧ RestsAre K H p x b ∧ RetV (.bl b) H Q
theorem ev_are_rests {K : PySem.W.Frag} {σ : L2.St} {H : Hp} {E : XK} {ta : TA} {p : Int} {x : V} {b : Bool} (h : EvA ta σ H [.int p, x]) (hx : RestsAre K H p x b) : Ev (tCall (sp_are_rests K) [] E ta) σ H (.bl b) := fun H1 e Q q =>
  h H1 e _ fun H2 e2 => ⟨p, x, b, rfl, hx.up (e.trans e2), fun H3 e3 => q H3 (e2.trans e3)⟩
theorem ok_are_rests (T : Txt K mg) : FnOk P w K mg base CX0 2 T.a_are_rests T.f_are_rests ["prime", "thing"] (sp_are_rests K) := by
  refine T.F_are_rests.ok sc_are_rests (fun vs H Q E h => ?_) (fun cdv A outer s H vs Q E hr h => ?_)
  · obtain ⟨p, x, b, rfl, _⟩ := h
    rfl
  · obtain ⟨p, x, b, rfl, hx, q⟩ := h
    rw [show start ["prime", "thing", "one"] [.int p, x] = [some (.int p), some x, none] from rfl]
    refine ⟨_, (pss_one (ps_ret (pe_and (x_isi K rfl T.n_isinstance (by rfl) (pa_cons (pv 1) (pa_cons (x_ty "list" T.n_list (by rfl) (by decide +kernel)) pa_nil))) (pe_one (x_all K rfl rfl T.n_all (by rfl) (pa_cons (pe_lc (own := [("one", 2)]) (g := (gName 2)) (tt := tYes) rfl sc_are_rests.nd (xi_list K rfl (pv 1)) (blkOk_by (N := ["prime", "thing", "one"]) (sc := defScope s_are_rests) (by decide +kernel)) (fun _ _ _ _ _ => (pg_name (i := 2) sc_are_rests.nd rfl (Or.inl rfl))) (fun _ _ _ _ _ => pts_nil) (fun _ _ _ _ _ => (pe_and (pe_call (ok_is_whole T) (hr.mono (by decide)) (by rfl) T.g_is_whole T.F_is_whole.kp T.b_is_whole .nil pass0 (pa_cons (pv 2) pa_nil)) (pe_one (pe_chain op_le op_lt pe_int (pv 2) (pv 0)))))) pa_nil)))))), ?_⟩
    refine s_ret (v := .bl b) ?_ q
    rcases hx with ⟨hn, rfl⟩ | ⟨a, xs, rfl, ha, hl, ht, rfl⟩
    · exact ev_is (ev_andV (b := false) (ev_tNoL hn (ev_var rfl)) fun z => by cases z) rfl
    refine ev_is (ev_andV (a := true) (isi_any (ev_var rfl) (fun _ e => tyx_sql (ex_l e ha)) (kit_ty (by decide +kernel))) fun _ => ev_allR (bs := xs.map (okRest p)) (er_of_l (el_is (el_lcV (fun y => .bl (okRest p y)) (er_var rfl ha) (by omega) (fun _ => rfl) ?_) ?_))) ?_
    · intro y H1 e hy
      have hty := (ht y hy).up e
      cases hw : whole y with
      | false =>
        rw [okRest_not hw]
        refine ev_is (ev_andV (b := false) (ev_is_whole (ea_cons (ev_var rfl) ea_nil) hty) fun z => ?_) ?_
        · rw [hw] at z
          cases z
        · rw [hw]
          rfl
      | true =>
        obtain ⟨i, rfl⟩ : ∃ i, y = .int i := by cases y <;> first | exact ⟨_, rfl⟩ | cases hw
        apply ev_is
        · apply ev_andV (a := true)
          · exact ev_is_whole (ea_cons (ev_var rfl) ea_nil) hty
          · intro _
            walk_at "ev"
        · rfl
    · unfold bls
      rw [List.map_map]
      rfl
    · rw [List.all_map]
      rfl
/-! check_row -/
def sp_check_row (K : PySem.W.Frag) (C : Addr) : Sp := fun vs H Q E => ∃ (p : Int) (x : V) (b : Bool), vs = [.int p, x] ∧ RestsAre K H p x b ∧ (b = true → RetV .non H Q) ∧ (b = false → ∀ H', Ex H H' → E (.ref C) none H')
theorem q_check_row {K : PySem.W.Frag} {C : Addr} {σ : L2.St} {H : Hp} {E : XK} {ta : TA} {p : Int} {x : V} {b : Bool} {tz : TS} {D : Ends} (h : EvA ta σ H [.int p, x]) (hx : RestsAre K H p x b) (h1 : b = true → ∀ H1, Ex H H1 → tz D σ H1) (h2 : b = false → ∀ H', Ex H H' → E (.ref C) none H') :
    tSeq (tDrop (tCall (sp_check_row K C) [] E ta)) tz D σ H := h H (Ex.refl H) _ fun H1 e1 => ⟨p, x, b, rfl, hx.up e1, fun z H2 e2 => h1 z H2 (e1.trans e2), fun z H2 e2 => h2 z H2 (e1.trans e2)⟩
theorem ok_check_row (T : Txt K mg) : FnOk P w K mg base (L2N.CX P w) 3 T.a_check_row T.f_check_row ["prime", "row"] (sp_check_row K T.a_BadRow) := by
  refine T.F_check_row.okN sc_check_row (fun vs H Q E h => ?_) (fun cdv A outer s H vs Q E hr h => ?_)
  · obtain ⟨p, x, b, rfl, _⟩ := h
    rfl
  · obtain ⟨p, x, b, rfl, hx, q1, q2⟩ := h
    rw [show start ["prime", "row"] [.int p, x] = [some (.int p), some x] from rfl]
    refine ⟨_, (pss_one (ps_if (pt_not (pt_val (pe_call (ok_are_rests T) (hr.mono (by decide)) (by rfl) T.g_are_rests T.F_are_rests.kp T.b_are_rests .nil pass0 (pa_cons (pv 0) (pa_cons (pv 1) pa_nil))))) (pss_one (L2N.ps_raise rfl (L2N.takes_of rfl rfl rfl rfl) (L2N.pmk_own PySem.F.excBase_ValueError T.x_BadRow T.g_BadRow T.kp_BadRow (raises_own T.s_BadRow T.t_BadRow) (by rfl)))) pss_nil)), ?_⟩
    refine s_when (b := !b) ?_ (fun c H1 e1 => q2 (by simpa using c) H1 e1) (fun c H1 e1 => q1 (by simpa using c) H1 e1)
    exact et_not (et_B (ev_are_rests (ea_cons (ev_var rfl) (ea_cons (ev_var rfl) ea_nil)) hx))
/-! _law_cell_at -/
def sp__law_cell_at (K : PySem.W.Frag) : Sp := fun vs H Q _ => ∃ (ns : List Int) (k : Int), AgsOk K H [.l (il ns), .v (.int k)] vs ∧ (0 ≤ k) ∧ RetV (.int (g ns k.toNat)) H Q
theorem ev__law_cell_at {K : PySem.W.Frag} {σ : L2.St} {H : Hp} {E : XK} {ta : TA} {ns : List Int} {k : Int} (h : EvAs K ta σ H [.l (il ns), .v (.int k)]) (hp : 0 ≤ k) : Ev (tCall (sp__law_cell_at K) [] E ta) σ H (.int (g ns k.toNat)) := fun H1 e Q q =>
  h H1 e _ fun vs H2 e2 ok => ⟨ns, k, by rw [List.append_nil]; exact ok, hp, fun H3 e3 => q H3 (e2.trans e3)⟩
local macro_rules | `(tactic| walk_at "own") => `(tactic| ((with_reducible apply ev__law_cell_at) <;> walk_at "ev"))
theorem ok__law_cell_at (T : Txt K mg) : FnOk P w K mg base CX0 1 T.a__law_cell_at T.f__law_cell_at ["_law_script", "_law_k"] (sp__law_cell_at K) := by
  refine T.F__law_cell_at.ok sc__law_cell_at (fun vs H Q E h => ?_) (fun cdv A outer s H vs Q E hr h => ?_)
  · obtain ⟨ns, k, h, _⟩ := h
    exact h.len
  · obtain ⟨ns, k, ⟨_, _, rfl, ⟨a__law_script, rfl, h__law_script⟩, _, _, rfl, rfl, rfl⟩, hp, q⟩ := h
    rw [show start ["_law_script", "_law_k"] [(.ref a__law_script), (.int k)] = [some (.ref a__law_script), some (.int k)] from rfl]
    refine ⟨_, (pss_cons (ps_if (pt_cmpR op_lt (pv 1) (x_len K rfl T.n_len (by rfl) (pa_cons (pv 0) pa_nil)) (nomark _)) (pss_one (ps_ret (x_ixL K rfl (pv 0) (pv 1) (fun _ _ => rfl)))) pss_nil)
      (pss_one (ps_ret pe_int))), ?_⟩
    refine q_when (b := decide (k < (ns.length : Int))) (by walk_at "ev") (fun c H1 e1 => ?_) (fun c H1 e1 => ?_)
    · have c1 := of_decide_eq_true c
      have h1 := ex_l e1 h__law_script
      exact s_ret (v := .int (g ns k.toNat)) (by walk_at "ev") fun H2 e2 => q H2 (e1.trans e2)
    · have c1 := of_decide_eq_false c
      refine s_ret (v := .int (g ns k.toNat)) ?_ fun H2 e2 => q H2 (e1.trans e2)
      apply ev_is
      walk_at "ev"
      rw [g_out (by omega)]
/-! _law_draw -/
def sp__law_draw (K : PySem.W.Frag) : Sp := fun vs H Q _ => ∃ (c k m : Int), AgsOk K H [.v (.int c), .v (.int k), .v (.int m)] vs ∧ (0 < m) ∧ RetV (.int (draw c k m)) H Q
theorem ev__law_draw {K : PySem.W.Frag} {σ : L2.St} {H : Hp} {E : XK} {ta : TA} {c k m : Int} (h : EvAs K ta σ H [.v (.int c), .v (.int k), .v (.int m)]) (hp : 0 < m) : Ev (tCall (sp__law_draw K) [] E ta) σ H (.int (draw c k m)) := fun H1 e Q q =>
  h H1 e _ fun vs H2 e2 ok => ⟨c, k, m, by rw [List.append_nil]; exact ok, hp, fun H3 e3 => q H3 (e2.trans e3)⟩
local macro_rules | `(tactic| walk_at "own") => `(tactic| ((with_reducible apply ev__law_draw) <;> walk_at "ev"))
theorem ok__law_draw (T : Txt K mg) : FnOk P w K mg base CX0 1 T.a__law_draw T.f__law_draw ["_law_cell", "_law_k", "_law_many"] (sp__law_draw K) := by
  refine T.F__law_draw.ok sc__law_draw (fun vs H Q E h => ?_) (fun cdv A outer s H vs Q E hr h => ?_)
  · obtain ⟨c, k, m, h, _⟩ := h
    exact h.len
  · obtain ⟨c, k, m, ⟨_, _, rfl, rfl, _, _, rfl, rfl, _, _, rfl, rfl, rfl⟩, hp, q⟩ := h
    rw [show start ["_law_cell", "_law_k", "_law_many", "_law_primes"] [(.int c), (.int k), (.int m)] = [some (.int c), some (.int k), some (.int m), none] from rfl]
    refine ⟨_, (pss_cons (ps_set (i := 3) sc__law_draw.nd rfl (.inl rfl) (pe_tup (pa_cons pe_int (pa_cons pe_int (pa_cons pe_int (pa_cons pe_int (pa_cons pe_int (pa_cons pe_int (pa_cons pe_int (pa_cons pe_int (pa_cons pe_int (pa_cons pe_int (pa_cons pe_int (pa_cons pe_int (pa_cons pe_int (pa_cons pe_int (pa_cons pe_int (pa_cons pe_int pa_nil))))))))))))))))))
      (pss_one (ps_ret (pe_op op_mod (pe_op op_mod (pe_op op_add (pe_op op_mul (pv 0) pe_int) (pe_op op_mul (pv 1) pe_int)) (x_ixT K rfl (pv 3) (pe_op op_mod (pv 1) pe_int) (fun _ _ => rfl))) (pv 2))))), ?_⟩
    refine q_asgU (i := 3) (xs := il PR) ?_ fun t H1 nt e1 ht => ?_
    · apply eu_is
      walk_at "ev"
      rfl
    have hk1 : 0 ≤ k % 16 := Int.emod_nonneg _ (by decide)
    have hk2 : k % 16 < 16 := Int.emod_lt_of_pos _ (by decide)
    have hk3 : (PR.length : Int) = 16 := rfl
    have hk4 := PR_pos k
    refine s_ret (v := .int (draw c k m)) ?_ fun H2 e2 => q H2 (e1.trans e2)
    apply ev_is
    walk_at "ev"
    rfl
/-! _law_prime -/
def sp__law_prime (K : PySem.W.Frag) : Sp := fun vs H Q _ => ∃ (ns : List Int), AgsOk K H [.l (il ns)] vs ∧ (True) ∧ RetV (.int (lawPrime ns)) H Q
theorem ev__law_prime {K : PySem.W.Frag} {σ : L2.St} {H : Hp} {E : XK} {ta : TA} {ns : List Int} (h : EvAs K ta σ H [.l (il ns)]) (hp : True) : Ev (tCall (sp__law_prime K) [] E ta) σ H (.int (lawPrime ns)) := fun H1 e Q q =>
  h H1 e _ fun vs H2 e2 ok => ⟨ns, by rw [List.append_nil]; exact ok, hp, fun H3 e3 => q H3 (e2.trans e3)⟩
local macro_rules | `(tactic| walk_at "own") => `(tactic| ((with_reducible apply ev__law_prime) <;> walk_at "ev"))
theorem ok__law_prime (T : Txt K mg) : FnOk P w K mg base CX0 2 T.a__law_prime T.f__law_prime ["_law_script"] (sp__law_prime K) := by
  refine T.F__law_prime.ok sc__law_prime (fun vs H Q E h => ?_) (fun cdv A outer s H vs Q E hr h => ?_)
  · obtain ⟨ns, h, _⟩ := h
    exact h.len
  · obtain ⟨ns, ⟨_, _, rfl, ⟨a__law_script, rfl, h__law_script⟩, rfl⟩, hp, q⟩ := h
    rw [show start ["_law_script"] [(.ref a__law_script)] = [some (.ref a__law_script)] from rfl]
    refine ⟨_, (pss_one (ps_ret (x_ixT K rfl (pe_tup (pa_cons pe_int (pa_cons pe_int (pa_cons pe_int (pa_cons pe_int (pa_cons pe_int (pa_cons pe_int (pa_cons pe_int (pa_cons pe_int (pa_cons pe_int (pa_cons pe_int pa_nil))))))))))) (pe_call (ok__law_draw T) (hr.mono (by decide)) (by rfl) T.g__law_draw T.F__law_draw.kp T.b__law_draw .nil pass0 (pa_cons (pe_call (ok__law_cell_at T) (hr.mono (by decide)) (by rfl) T.g__law_cell_at T.F__law_cell_at.kp T.b__law_cell_at .nil pass0 (pa_cons (pv 0) (pa_cons pe_int pa_nil))) (pa_cons pe_int (pa_cons pe_int pa_nil)))) (fun _ _ => rfl)))), ?_⟩
    have hd := draw_in (c := g ns 0) (k := 6) (m := 10) (by decide)
    refine s_ret (v := .int (lawPrime ns)) ?_ q
    apply ev_is
    refine ev_ixUi (ns := PL) (i := draw (g ns 0) 6 10) ?_ ?_ ?_
    · apply eu_is
      walk_at "ev"
      rfl
    · apply ev_is
      walk_at "ev"
      rfl
    · show _ ∧ _ < (10 : Int)
      exact hd
    · rfl
/-! _law_rests -/
def sp__law_rests (K : PySem.W.Frag) : Sp := fun vs H Q _ => ∃ (ns : List Int) (b p m : Int), AgsOk K H [.l (il ns), .v (.int b), .v (.int p), .v (.int m)] vs ∧ (0 < p ∧ 0 ≤ m ∧ m ≤ 1000) ∧ RetL (il (lawRests ns b p m)) H Q
theorem el__law_rests {K : PySem.W.Frag} {σ : L2.St} {H : Hp} {E : XK} {ta : TA} {ns : List Int} {b p m : Int} (h : EvAs K ta σ H [.l (il ns), .v (.int b), .v (.int p), .v (.int m)]) (hp : 0 < p ∧ 0 ≤ m ∧ m ≤ 1000) : EvL (tCall (sp__law_rests K) [] E ta) σ H (il (lawRests ns b p m)) := fun H1 e Q q =>
  h H1 e _ fun vs H2 e2 ok => ⟨ns, b, p, m, by rw [List.append_nil]; exact ok, hp, fun p H3 hn e3 h3 => q p H3 (fresh_back e2 hn) (e2.trans e3) h3⟩
local macro_rules | `(tactic| walk_at "own") => `(tactic| ((with_reducible apply el__law_rests) <;> walk_at "ev"))
theorem ok__law_rests (T : Txt K mg) : FnOk P w K mg base CX0 2 T.a__law_rests T.f__law_rests ["_law_script", "_law_by", "_law_prime_here", "_law_many"] (sp__law_rests K) := by
  refine T.F__law_rests.ok sc__law_rests (fun vs H Q E h => ?_) (fun cdv A outer s H vs Q E hr h => ?_)
  · obtain ⟨ns, b, p, m, h, _⟩ := h
    exact h.len
  · obtain ⟨ns, b, p, m, ⟨_, _, rfl, ⟨a__law_script, rfl, h__law_script⟩, _, _, rfl, rfl, _, _, rfl, rfl, _, _, rfl, rfl, rfl⟩, hp, q⟩ := h
    rw [show start ["_law_script", "_law_by", "_law_prime_here", "_law_many", "_law_k"] [(.ref a__law_script), (.int b), (.int p), (.int m)] = [some (.ref a__law_script), some (.int b), some (.int p), some (.int m), none] from rfl]
    refine ⟨_, (pss_one (ps_ret (pe_lc (own := [("_law_k", 4)]) (g := (gName 4)) (tt := tYes) rfl sc__law_rests.nd (pi_range1 (by rfl) T.n_range (pa_cons (pv 3) pa_nil)) (blkOk_by (N := ["_law_script", "_law_by", "_law_prime_here", "_law_many", "_law_k"]) (sc := defScope s__law_rests) (by decide +kernel)) (fun _ _ _ _ _ => (pg_name (i := 4) sc__law_rests.nd rfl (Or.inl rfl))) (fun _ _ _ _ _ => pts_nil) (fun _ _ _ _ _ => (pe_call (ok__law_draw T) (hr.mono (by decide)) (by rfl) T.g__law_draw T.F__law_draw.kp T.b__law_draw .nil pass0 (pa_cons (pe_call (ok__law_cell_at T) (hr.mono (by decide)) (by rfl) T.g__law_cell_at T.F__law_cell_at.kp T.b__law_cell_at .nil pass0 (pa_cons (pv 0) (pa_cons (pv 4) pa_nil))) (pa_cons (pe_op op_add (pe_op op_mod (pv 4) pe_int) (pv 1)) (pa_cons (pv 2) pa_nil)))))))), ?_⟩
    refine s_retL (xs := il (lawRests ns b p m)) ?_ q
    apply el_lcNi (n := m) (fun k => draw (g ns k) ((k : Int) % 5 + b) p) (by walk_at "ev") (by omega) (fun _ => rfl)
    intro i H1 e hi
    have h__law_script := ex_l e h__law_script
    apply ev_is
    walk_at "ev"
    all_goals first | omega | rfl
/-! _law_due -/
def sp__law_due (K : PySem.W.Frag) : Sp := fun vs H Q _ => ∃ (p : Int) (rule row : List Int) (n : Int), AgsOk K H [.v (.int p), .l (il rule), .l (il row), .v (.int n)] vs ∧ (Good p ∧ Rs p rule ∧ rule.length ≤ n ∧ n ≤ row.length ∧ row.length ≤ 2000) ∧ RetV (.int (due p rule row n.toNat)) H Q
theorem ev__law_due {K : PySem.W.Frag} {σ : L2.St} {H : Hp} {E : XK} {ta : TA} {p : Int} {rule row : List Int} {n : Int} (h : EvAs K ta σ H [.v (.int p), .l (il rule), .l (il row), .v (.int n)]) (hp : Good p ∧ Rs p rule ∧ rule.length ≤ n ∧ n ≤ row.length ∧ row.length ≤ 2000) : Ev (tCall (sp__law_due K) [] E ta) σ H (.int (due p rule row n.toNat)) := fun H1 e Q q =>
  h H1 e _ fun vs H2 e2 ok => ⟨p, rule, row, n, by rw [List.append_nil]; exact ok, hp, fun H3 e3 => q H3 (e2.trans e3)⟩
local macro_rules | `(tactic| walk_at "own") => `(tactic| ((with_reducible apply ev__law_due) <;> walk_at "ev"))
theorem ok__law_due (T : Txt K mg) : FnOk P w K mg base CX0 1 T.a__law_due T.f__law_due ["_law_prime_here", "_law_rule", "_law_row_here", "_law_place"] (sp__law_due K) := by
  refine T.F__law_due.ok sc__law_due (fun vs H Q E h => ?_) (fun cdv A outer s H vs Q E hr h => ?_)
  · obtain ⟨p, rule, row, n, h, _⟩ := h
    exact h.len
  · obtain ⟨p, rule, row, n, ⟨_, _, rfl, rfl, _, _, rfl, ⟨a__law_rule, rfl, h__law_rule⟩, _, _, rfl, ⟨a__law_row_here, rfl, h__law_row_here⟩, _, _, rfl, rfl, rfl⟩, hp, q⟩ := h
    rw [show start ["_law_prime_here", "_law_rule", "_law_row_here", "_law_place", "_law_k", "_law_rest"] [(.int p), (.ref a__law_rule), (.ref a__law_row_here), (.int n)] = [some (.int p), some (.ref a__law_rule), some (.ref a__law_row_here), some (.int n), none, none] from rfl]
    refine ⟨_, (pss_one (ps_ret (pe_op op_mod (x_sum K rfl rfl T.n_sum (by rfl) (pa_cons (pe_lc (own := [("_law_k", 4), ("_law_rest", 5)]) (g := (gTup K 2 (gCons (gName 4) (gCons (gName 5) gNil)))) (tt := tYes) rfl sc__law_due.nd (xi_enum K rfl T.n_enumerate (by rfl) (pa_cons (pv 1) pa_nil)) (blkOk_by (N := ["_law_prime_here", "_law_rule", "_law_row_here", "_law_place", "_law_k", "_law_rest"]) (sc := defScope s__law_due) (by decide +kernel)) (fun _ _ _ _ _ => (xg_tup K rfl 2 rfl (pgs_cons (pg_name (i := 4) sc__law_due.nd rfl (Or.inl rfl)) (pgs_cons (pg_name (i := 5) sc__law_due.nd rfl (Or.inl rfl)) pgs_nil)))) (fun _ _ _ _ _ => pts_nil) (fun _ _ _ _ _ => (pe_op op_mul (pv 5) (x_ixL K rfl (pv 2) (pe_op op_sub (pe_op op_sub (pv 3) pe_int) (pv 4)) (fun _ _ => rfl))))) pa_nil)) (pv 0)))), ?_⟩
    obtain ⟨hp, hr2, h1, h2, h3⟩ := hp
    have g1 := hp.two
    have g2 := hp.most
    refine s_ret (v := .int (due p rule row n.toNat)) ?_ q
    apply ev_is
    walk_at "ev"
    · apply el_lcEi (fun i => g rule i * g row (n.toNat - 1 - i)) (by walk_at "ev") (by omega) (fun _ _ => rfl)
      intro i H1 e hi
      have h_row := ex_l e h__law_row_here
      have b1 := hr2.g hp.pos i
      apply ev_is
      walk_at "ev"
      rw [show (n - 1 - (i : Int)).toNat = n.toNat - 1 - i by omega]
    · rw [S_range]
      rfl
/-! _law_row -/
def sp__law_row (K : PySem.W.Frag) : Sp := fun vs H Q _ => ∃ (ns : List Int) (p : Int), AgsOk K H [.l (il ns), .v (.int p)] vs ∧ (Good p ∧ ns.length ≤ 63) ∧ RetL (il (lawRow ns p)) H Q
theorem el__law_row {K : PySem.W.Frag} {σ : L2.St} {H : Hp} {E : XK} {ta : TA} {ns : List Int} {p : Int} (h : EvAs K ta σ H [.l (il ns), .v (.int p)]) (hp : Good p ∧ ns.length ≤ 63) : EvL (tCall (sp__law_row K) [] E ta) σ H (il (lawRow ns p)) := fun H1 e Q q =>
  h H1 e _ fun vs H2 e2 ok => ⟨ns, p, by rw [List.append_nil]; exact ok, hp, fun p H3 hn e3 h3 => q p H3 (fresh_back e2 hn) (e2.trans e3) h3⟩
local macro_rules | `(tactic| walk_at "own") => `(tactic| ((with_reducible apply el__law_row) <;> walk_at "ev"))
theorem ok__law_row (T : Txt K mg) : FnOk P w K mg base CX0 3 T.a__law_row T.f__law_row ["_law_script", "_law_prime_here"] (sp__law_row K) := by
  refine T.F__law_row.ok sc__law_row (fun vs H Q E h => ?_) (fun cdv A outer s H vs Q E hr h => ?_)
  · obtain ⟨ns, p, h, _⟩ := h
    exact h.len
  · obtain ⟨ns, p, ⟨_, _, rfl, ⟨a__law_script, rfl, h__law_script⟩, _, _, rfl, rfl, rfl⟩, hp, q⟩ := h
    rw [show start ["_law_script", "_law_prime_here", "_law_kind", "_law_many", "_law_drawn", "_law_rule", "_law_place", "_law_k", "_law_number_here"] [(.ref a__law_script), (.int p)] = [some (.ref a__law_script), some (.int p), none, none, none, none, none, none, none] from rfl]
    refine ⟨_, (pss_cons (ps_par (i := 2) (j := 3) (by rfl) sc__law_row.nd rfl rfl (by decide) rfl rfl (pa_cons (pe_call (ok__law_draw T) (hr.mono (by decide)) (by rfl) T.g__law_draw T.F__law_draw.kp T.b__law_draw .nil pass0 (pa_cons (pe_call (ok__law_cell_at T) (hr.mono (by decide)) (by rfl) T.g__law_cell_at T.F__law_cell_at.kp T.b__law_cell_at .nil pass0 (pa_cons (pv 0) (pa_cons pe_int pa_nil))) (pa_cons pe_int (pa_cons pe_int pa_nil)))) (pa_cons (x_len K rfl T.n_len (by rfl) (pa_cons (pv 0) pa_nil)) pa_nil)) (by rfl))
      (pss_cons (ps_set (i := 4) sc__law_row.nd rfl (.inl rfl) (pe_call (ok__law_rests T) (hr.mono (by decide)) (by rfl) T.g__law_rests T.F__law_rests.kp T.b__law_rests .nil pass0 (pa_cons (pv 0) (pa_cons pe_int (pa_cons (pv 1) (pa_cons (pv 3) pa_nil))))))
      (pss_cons (ps_if (pt_cmpR op_eq (pv 2) pe_int (nomark _)) (pss_one (ps_ret (pe_lc (own := [("_law_k", 7), ("_law_number_here", 8)]) (g := (gTup K 2 (gCons (gName 7) (gCons (gName 8) gNil)))) (tt := tYes) rfl sc__law_row.nd (xi_enum K rfl T.n_enumerate (by rfl) (pa_cons (pv 4) pa_nil)) (blkOk_by (N := ["_law_script", "_law_prime_here", "_law_kind", "_law_many", "_law_drawn", "_law_rule", "_law_place", "_law_k", "_law_number_here"]) (sc := defScope s__law_row) (by decide +kernel)) (fun _ _ _ _ _ => (xg_tup K rfl 2 rfl (pgs_cons (pg_name (i := 7) sc__law_row.nd rfl (Or.inl rfl)) (pgs_cons (pg_name (i := 8) sc__law_row.nd rfl (Or.inl rfl)) pgs_nil)))) (fun _ _ _ _ _ => pts_nil) (fun _ _ _ _ _ => (pe_ifExp (pt_cmpR op_eq (pe_call (ok__law_draw T) (hr.mono (by decide)) (by rfl) T.g__law_draw T.F__law_draw.kp T.b__law_draw .nil pass0 (pa_cons (x_ixL K rfl (pv 0) (pv 7) (fun _ _ => rfl)) (pa_cons pe_int (pa_cons pe_int pa_nil)))) pe_int (nomark _)) (pv 8) pe_int))))) pss_nil)
      (pss_cons (ps_if (pt_cmpR op_lt (pv 2) pe_int (nomark _)) (pss_cons (ps_set (i := 5) sc__law_row.nd rfl (.inl rfl) (pe_call (ok__law_rests T) (hr.mono (by decide)) (by rfl) T.g__law_rests T.F__law_rests.kp T.b__law_rests .nil pass0 (pa_cons (x_sl K rfl (pv 0) (po_some pe_int) po_none) (pa_cons pe_int (pa_cons (pv 1) (pa_cons (pe_op op_add pe_int (pe_call (ok__law_draw T) (hr.mono (by decide)) (by rfl) T.g__law_draw T.F__law_draw.kp T.b__law_draw .nil pass0 (pa_cons (pe_call (ok__law_cell_at T) (hr.mono (by decide)) (by rfl) T.g__law_cell_at T.F__law_cell_at.kp T.b__law_cell_at .nil pass0 (pa_cons (pv 0) (pa_cons pe_int pa_nil))) (pa_cons pe_int (pa_cons pe_int pa_nil))))) pa_nil))))))
      (pss_one (ps_for PassesOwn.never rfl (pi_range2 (by rfl) T.n_range (pa_cons (x_len K rfl T.n_len (by rfl) (pa_cons (pv 5) pa_nil)) (pa_cons (pe_op op_sub (pv 3) (x_ixT K rfl (pe_tup (pa_cons pe_int (pa_cons pe_int (pa_cons pe_int (pa_cons pe_int pa_nil))))) (pv 2) (fun _ _ => rfl))) pa_nil))) (pg_name (i := 6) sc__law_row.nd rfl (.inl rfl)) (pss_one (ps_asg (pe_call (ok__law_due T) (hr.mono (by decide)) (by rfl) T.g__law_due T.F__law_due.kp T.b__law_due .nil pass0 (pa_cons (pv 1) (pa_cons (pv 5) (pa_cons (pv 4) (pa_cons (pv 6) pa_nil))))) (pg_sub (pv 4) (pv 6) set_list)))))) pss_nil)
      (pss_one (ps_ret (pv 4))))))), ?_⟩
    obtain ⟨hp, hlen⟩ := hp
    have g1 := hp.two
    have g2 := hp.most
    have hkd := draw_in (c := g ns 1) (k := 7) (m := 5) (by decide)
    have hrd := draw_in (c := g ns (Int.toNat 2)) (k := 8) (m := 6) (by decide)
    refine q_parVV (x := .int (lawKind ns)) (y := .int (ns.length : Int)) ?_ (by walk_at "ev") fun H1 e1 => ?_
    · apply ev_is
      walk_at "ev"
      rfl
    have h1 := ex_l e1 h__law_script
    refine q_asgL (i := 4) (xs := il (lawRests ns 1 p ns.length)) ?_ fun dr H2 ndr e2 hdr => ?_
    · walk_at "ev"
    have h2 := ex_l e2 h1
    have ndr0 := fresh_back e1 ndr
    have drl := lawRests_len ns 1 p ns.length
    refine q_when (b := decide (lawKind ns = 0)) (by walk_at "ev") (fun c H3 e3 => ?_) (fun c H3 e3 => ?_)
    · have hdr3 := e3 _ _ hdr
      have h3 := ex_l e3 h2
      refine s_retL (xs := il (lawRow ns p)) ?_ fun z H4 nz e4 hz => q z H4 (fresh_back ((e1.trans e2).trans e3) nz) (((e1.trans e2).trans e3).trans e4) hz
      apply el_is
      apply el_lcEi (ns := lawRests ns 1 p ns.length) (fun k => if decide (draw (g ns k) 9 5 = 0) = true then g (lawRests ns 1 p ns.length) k else 0) (by walk_at "ev") (by omega) (fun _ _ => rfl)
      · intro i H4 e hi
        have h4 := ex_l e h3
        rw [drl] at hi
        apply ev_is
        walk_at "ev"
        rfl
      · unfold lawRow
        rw [if_pos c, drl]
        rfl
    refine q_when (b := decide (lawKind ns < 4)) ?_ (fun d H4 e4 => ?_) (fun d H4 e4 => ?_)
    · walk_at "ev"
    · have c0 : lawKind ns ≠ 0 := of_decide_eq_false c
      have d0 : lawKind ns < 4 := of_decide_eq_true d
      have hdr4 := e4 _ _ (e3 _ _ hdr)
      have h4 := ex_l e4 (ex_l e3 h2)
      have hrl : (lawRule ns p).length = (1 + draw (g ns (Int.toNat 2)) 8 6).toNat := lawRests_len ..
      have hrr : Rs p (lawRule ns p) := lawRests_rs hp.pos
      have hdd : Rs p (lawRests ns 1 p ns.length) := lawRests_rs hp.pos
      refine q_asgL (i := 5) (xs := il (lawRule ns p)) ?_ fun ru H5 nru e5 hru => ?_
      · apply el_is
        walk_at "ev"
        all_goals first | exact ⟨hp.pos, by omega, by omega⟩ | rfl
      have hdr5 := e5 _ _ hdr4
      have h5 := ex_l e5 h4
      have E5 := (((e1.trans e2).trans e3).trans e4).trans e5
      have nru0 : H ru = none := fresh_back (((e1.trans e2).trans e3).trans e4) nru
      have ndru : ru ≠ dr := (ne_of_none hdr4 nru).symm
      have off : 0 ≤ g OFF (lawKind ns).toNat ∧ g OFF (lawKind ns).toNat ≤ 2 := by
        have : ∀ i : Nat, i < 4 → 0 ≤ g OFF i ∧ g OFF i ≤ 2 := by decide
        have hk : lawKind ns = draw (g ns 1) 7 5 := rfl
        exact this _ (by omega)
      have kge : 0 ≤ lawKind ns := hkd.1
      refine q_forR2 (j := 6) (lo := ((lawRule ns p).length : Int)) (n := (ns.length : Int) - g OFF (lawKind ns).toNat) ?_ ⟨by omega, by omega, by omega, by omega⟩
        (fun i σ' H' => ∃ x6, σ' = [some (.ref a__law_script), some (.int p), some (.int (lawKind ns)), some (.int (ns.length : Int)), some (.ref dr), some (.ref ru), x6, none, none] ∧ Ex H H' ∧ H' ru = some (.lst (il (lawRule ns p))) ∧ H' dr = some (.lst (il (fillF p (lawRule ns p) (lawRests ns 1 p ns.length) (lawRule ns p).length i))))
        (fun H6 e6 => ⟨none, rfl, E5.trans e6, e6 _ _ hru, e6 _ _ hdr5⟩) ?_ ?_
      · apply ea_is
        refine ea_cons (by walk_at "ev") (ea_cons (ev_sub (by walk_at "ev") (ev_ixUi (ns := OFF) (i := lawKind ns) ?_ (by walk_at "ev") ?_)) ea_nil)
        · apply eu_is
          walk_at "ev"
          rfl
        · show 0 ≤ _ ∧ _ < (4 : Int)
          omega
        · rfl
      · rintro i σ' H' hi ⟨x6, rfl, e6, hru6, hdr6⟩
        have fl := fillF_len p (lawRule ns p) (lawRests ns 1 p ns.length) (lawRule ns p).length i
        refine s_setI (ns := fillF p (lawRule ns p) (lawRests ns 1 p ns.length) (lawRule ns p).length i) (n := due p (lawRule ns p) (fillF p (lawRule ns p) (lawRests ns 1 p ns.length) (lawRule ns p).length i) ((lawRule ns p).length + i)) (i := ((lawRule ns p).length : Int) + (i : Int)) hdr6 ?_ (by walk_at "ev") (by walk_at "ev") (by omega) fun H7 e7 => ?_
        · apply ev_is
          walk_at "ev"
          · exact ⟨hp, hrr, by omega, by omega, by omega⟩
          · rw [show (((lawRule ns p).length : Int) + (i : Int)).toNat = (lawRule ns p).length + i by omega]
        · refine ⟨_, rfl, Ex.mut (e6.trans e7) ndr0, ?_, ?_⟩
          · rw [upd_ne ndru]
            exact e7 _ _ hru6
          · rw [upd_same, show (((lawRule ns p).length : Int) + (i : Int)).toNat = (lawRule ns p).length + i by omega]
            rfl
      · rintro σ' H' ⟨x6, rfl, e6, hru6, hdr6⟩
        refine tRet_ref (p := dr) rfl ?_
        have E : lawRow ns p = fillF p (lawRule ns p) (lawRests ns 1 p ns.length) (lawRule ns p).length ((ns.length : Int) - g OFF (lawKind ns).toNat - ((lawRule ns p).length : Int)).toNat := by
          unfold lawRow
          rw [if_neg (by rw [c]; decide), if_pos d]
        refine q dr H' ndr0 e6 ?_
        rw [E]
        exact hdr6
    · refine tRet_ref (p := dr) rfl ?_
      have E : lawRow ns p = lawRests ns 1 p ns.length := by
        unfold lawRow
        rw [if_neg (by rw [c]; decide), if_neg (by rw [d]; decide)]
      refine q dr H4 ndr0 (((e1.trans e2).trans e3).trans e4) ?_
      rw [E]
      exact e4 _ _ (e3 _ _ hdr)
/-! written -/
def sp_written (K : PySem.W.Frag) : Sp := fun vs H Q _ => ∃ (q : Nat) (ns : List Nat) (a : Addr), vs = [.int (q : Int), .ref a] ∧ SqL K H a (il (nl ns)) ∧ primeOk (.int (q : Int)) = true ∧ Rs (q : Int) (nl ns) ∧ ns.length ≤ 20000 ∧ RetV (.str (SX.S (writeL q ns))) H Q
theorem ev_written {K : PySem.W.Frag} {σ : L2.St} {H : Hp} {E : XK} {ta : TA} {q : Nat} {ns : List Nat} (h : EvPs ta σ H [wIs (.int (q : Int)), wL K (il (nl ns))]) (hp : primeOk (.int (q : Int)) = true) (hr : Rs (q : Int) (nl ns)) (hl : ns.length ≤ 20000) : Ev (tCall (sp_written K) [] E ta) σ H (.str (SX.S (writeL q ns))) := fun H1 e Q k =>
  h H1 e _ fun vs H2 e2 hv => by
    obtain ⟨_, _, rfl, rfl, _, _, rfl, ⟨a, rfl, ha⟩, rfl⟩ := hv
    exact ⟨q, ns, a, rfl, ha, hp, hr, hl, fun H3 e3 => k H3 (e2.trans e3)⟩
theorem prime_lt {q : Nat} (hp : primeOk (.int (q : Int)) = true) : 2 ≤ q ∧ q ≤ 997 := by
  unfold primeOk at hp
  simp only [Bool.and_eq_true, decide_eq_true_eq] at hp
  omega
theorem rests_lt {q : Nat} {ns : List Nat} (hp : primeOk (.int (q : Int)) = true) (hr : Rs (q : Int) (nl ns)) : ∀ n ∈ ns, n < 1000 := fun n hn => by
  have h1 := prime_lt hp
  have h2 := hr (n : Int) (List.mem_map.mpr ⟨n, hn, rfl⟩)
  omega
theorem ok_written (T : Txt K mg) : FnOk P w K mg base CX0 4 T.a_written T.f_written ["prime", "row"] (sp_written K) := by
  refine T.F_written.ok sc_written (fun vs H Q E h => ?_) (fun cdv A outer s H vs Q E hr h => ?_)
  · obtain ⟨q, ns, a, rfl, _⟩ := h
    rfl
  · obtain ⟨p, ns, a, rfl, ha, hp, hrs, hl, q⟩ := h
    rw [show start ["prime", "row", "number"] [.int (p : Int), .ref a] = [some (.int (p : Int)), some (.ref a), none] from rfl]
    refine ⟨_, (pss_cons (ps_expr (pe_call (ok_check_prime T) (hr.mono (by decide)) (by rfl) T.g_check_prime T.F_check_prime.kp T.b_check_prime .nil passN (pa_cons (pv 0) pa_nil)))
      (pss_cons (ps_expr (pe_call (ok_check_row T) (hr.mono (by decide)) (by rfl) T.g_check_row T.F_check_row.kp T.b_check_row .nil passN (pa_cons (pv 0) (pa_cons (pv 1) pa_nil))))
      (pss_one (ps_ret (x_catS (x_catS (x_str T.n_str (by rfl) (pa_cons (pv 0) pa_nil)) pe_str) (x_join K rfl pe_str (pe_lc (own := [("number", 2)]) (g := (gName 2)) (tt := tYes) rfl sc_written.nd (xi_list K rfl (pv 1)) (blkOk_by (N := ["prime", "row", "number"]) (sc := defScope s_written) (by decide +kernel)) (fun _ _ _ _ _ => (pg_name (i := 2) sc_written.nd rfl (Or.inl rfl))) (fun _ _ _ _ _ => pts_nil) (fun _ _ _ _ _ => (x_catS pe_str (x_str T.n_str (by rfl) (pa_cons (pv 2) pa_nil))))))))))), ?_⟩
    refine q_checkPrime (ea_cons (ev_var rfl) ea_nil) (.no (.int _)) (fun _ H1 e1 => ?_) (fun z => by rw [hp] at z; cases z)
    refine q_check_row (ea_cons (ev_var rfl) (ea_cons (ev_var rfl) ea_nil)) (rests_nl (ex_l e1 ha) hl hrs) (fun _ H2 e2 => ?_) (fun z => by cases z)
    have h1 := prime_lt hp
    exact s_ret (ev_text (ev_var rfl) (by omega) (er_var rfl (ex_l (e1.trans e2) ha)) hl (rests_lt hp hrs) (fun _ => rfl) (fun _ => rfl)) fun H3 e3 => q H3 ((e1.trans e2).trans e3)
/-! number_in -/
def sp_number_in (C : Addr) : Sp := fun vs H Q E => ∃ w : List Nat, vs = [.str (SX.S w)] ∧ w.length ≤ 50000 ∧ (numOk w = true → RetV (.int (numV w)) H Q) ∧ (numOk w = false → ∀ H', Ex H H' → E (.ref C) none H')
theorem q_numberIn {C : Addr} {σ : L2.St} {H : Hp} {E : XK} {ta : TA} {w : List Nat} {i : Nat} {tz : TS} {D : Ends} (h : EvA ta σ H [.str (SX.S w)]) (hz : w.length ≤ 50000) (h1 : numOk w = true → ∀ H1, Ex H H1 → tz D (σ.set i (some (.int (numV w)))) H1) (h2 : numOk w = false → ∀ H', Ex H H' → E (.ref C) none H') :
    tSeq (tAsg (tCall (sp_number_in C) [] E ta) (gName i)) tz D σ H := h H (Ex.refl H) _ fun H1 e1 => ⟨w, rfl, hz, fun b H2 e2 => h1 b H2 (e1.trans e2), fun b H2 e2 => h2 b H2 (e1.trans e2)⟩
theorem ok_number_in (T : Txt K mg) : FnOk P w K mg base (L2N.CX P w) 1 T.a_number_in T.f_number_in ["word"] (sp_number_in T.a_BadText) := by
  refine T.F_number_in.okN sc_number_in (fun vs H Q E h => ?_) (fun cdv A outer s H vs Q E hr h => ?_)
  · obtain ⟨w, rfl, _⟩ := h
    rfl
  · obtain ⟨w, rfl, hw, q1, q2⟩ := h
    rw [show start ["word"] [.str (SX.S w)] = [some (.str (SX.S w))] from rfl]
    refine ⟨_, (pss_cons (ps_if (PW.pt (pw_or (pt_not (pt_chain op_le op_le pe_int (x_lenS T.n_len (by rfl) (pa_cons (pv 0) pa_nil)) pe_int)) (pw_or (pt_cmpR op_ne (x_strip (pv 0) (pe_glob (v := .str "0123456789") (by rfl) T.c_FIGURES ⟨_, rfl⟩)) pe_str (nomark _)) (pw_or1 (PW.pt (pw_and (pt_cmpR op_eq (pe_ix ix_str (pv 0) pe_int (fun _ _ => rfl)) pe_str (nomark _)) (pw_and1 (pt_cmpR op_ne (pv 0) pe_str (nomark _))))))))) (pss_one (L2N.ps_raise rfl (L2N.takes_of rfl rfl rfl rfl) (L2N.pmk_own PySem.F.excBase_ValueError T.x_BadText T.g_BadText T.kp_BadText (raises_own T.s_BadText T.t_BadText) (by rfl)))) pss_nil)
      (pss_one (ps_ret (x_intS T.n_int (by rfl) (pa_cons (pv 0) pa_nil))))), ?_⟩
    have hz : (SX.S w).length ≤ 100000 := by rw [sx_len]; omega
    refine q_when (b := !numOk w) ?_ (fun c H1 e1 => q2 (by simpa using c) H1 e1) (fun c H1 e1 => ?_)
    · refine et_is (et_or (b := !decide (w.all isDig = true) || (decide (w[0]? = some 48) && !decide (w = [48]))) (et_not (et_test (ev_chain ev_c (ev_lenS (ev_var rfl) hz) rv_le (fun _ => ev_c) fun _ => rv_le))) fun h1 => ?_) ?_
      · rw [sx_len] at h1
        simp only [Bool.not_eq_false', Bool.and_eq_true, decide_eq_true_eq] at h1
        obtain ⟨c, c1, c2⟩ := at_first (w := w) (by omega)
        refine et_is (et_or (b := decide (w[0]? = some 48) && !decide (w = [48])) (et_test (ev_neSb (ev_strip (ev_var rfl) ev_c hz) ev_c)) fun _ => ?_) (by rw [strip_dec])
        refine et_is (et_and (et_test (ev_eqSb (ev_ixS (ev_var rfl) ev_c hz c2) ev_c)) fun _ => et_test (ev_neSb (ev_var rfl) ev_c)) ?_
        rw [first_dec c1, whole_dec]
      · rw [sx_len, show (decide ((1 : Int) ≤ (w.length : Int)) && decide ((w.length : Int) ≤ 3)) = (decide (1 ≤ w.length) && decide (w.length ≤ 3)) by
          rw [show decide ((1 : Int) ≤ (w.length : Int)) = decide (1 ≤ w.length) from decide_eq_decide.mpr (by omega), show decide ((w.length : Int) ≤ 3) = decide (w.length ≤ 3) from decide_eq_decide.mpr (by omega)]]
        unfold numOk
        simp only [Bool.not_and, Bool.not_or, Bool.not_not, Bool.or_assoc, Bool.decide_eq_true]
    · have ok : numOk w = true := by simpa using c
      have l := (numOk_iff.mp ok).1.2
      exact s_ret (ev_intS (ev_var rfl) (num_int ok) (by rw [sx_len]; omega)) fun H2 e2 => q1 ok H2 (e1.trans e2)
/-! _law_number -/
def sp__law_number : Sp := fun vs H Q _ => ∃ w : List Nat, vs = [.str (SX.S w)] ∧ w.length ≤ 50000 ∧ RetV (if numOk w = true then .int (numV w) else .non) H Q
theorem ev_law_number {σ : L2.St} {H : Hp} {E : XK} {ta : TA} {w : List Nat} (h : EvA ta σ H [.str (SX.S w)]) (hz : w.length ≤ 50000) : Ev (tCall sp__law_number [] E ta) σ H (if numOk w = true then .int (numV w) else .non) := fun H1 e Q k =>
  h H1 e _ fun H2 e2 => ⟨w, rfl, hz, fun H3 e3 => k H3 (e2.trans e3)⟩
theorem ok__law_number (T : Txt K mg) : FnOk P w K mg base CX0 1 T.a__law_number T.f__law_number ["_law_text"] (sp__law_number) := by
  refine T.F__law_number.ok sc__law_number (fun vs H Q E h => ?_) (fun cdv A outer s H vs Q E hr h => ?_)
  · obtain ⟨w, rfl, _⟩ := h
    rfl
  · obtain ⟨w, rfl, hw, q⟩ := h
    rw [show start ["_law_text"] [.str (SX.S w)] = [some (.str (SX.S w))] from rfl]
    refine ⟨_, (pss_cons (ps_if (PW.pt (pw_or (pt_cmpR op_eq (pv 0) pe_str (nomark _)) (pw_or (pt_cmpR op_gt (x_lenS T.n_len (by rfl) (pa_cons (pv 0) pa_nil)) pe_int (nomark _)) (pw_or (pt_cmpR op_ne (x_strip (pv 0) pe_str) pe_str (nomark _)) (pw_or1 (PW.pt (pw_and (pt_cmpR op_eq (pe_ix ix_str (pv 0) pe_int (fun _ _ => rfl)) pe_str (nomark _)) (pw_and1 (pt_cmpR op_ne (pv 0) pe_str (nomark _)))))))))) (pss_one (ps_ret pe_non)) pss_nil)
      (pss_one (ps_ret (x_intS T.n_int (by rfl) (pa_cons (pv 0) pa_nil))))), ?_⟩
    have hz : (SX.S w).length ≤ 100000 := by rw [sx_len]; omega
    refine q_when (b := !numOk w) ?_ (fun c H1 e1 => ?_) (fun c H1 e1 => ?_)
    · refine et_is (et_or (b := decide (3 < w.length) || (!decide (w.all isDig = true) || (decide (w[0]? = some 48) && !decide (w = [48])))) (et_test (ev_eqSb (ev_var rfl) ev_c)) fun h1 => ?_) ?_
      · rw [o_nil, sx_eq] at h1
        have h1 := of_decide_eq_false h1
        have l1 : 1 ≤ w.length := List.length_pos_iff.mpr h1
        obtain ⟨c, c1, c2⟩ := at_first (w := w) l1
        refine et_is (et_or (b := !decide (w.all isDig = true) || (decide (w[0]? = some 48) && !decide (w = [48]))) (et_test (ev_gt (ev_lenS (ev_var rfl) hz) ev_c)) fun _ => ?_) (by rw [sx_len, show decide ((3 : Int) < (w.length : Int)) = decide (3 < w.length) from decide_eq_decide.mpr (by omega)])
        refine et_is (et_or (b := decide (w[0]? = some 48) && !decide (w = [48])) (et_test (ev_neSb (ev_strip (ev_var rfl) ev_c hz) ev_c)) fun _ => ?_) (by rw [strip_dec])
        refine et_is (et_and (et_test (ev_eqSb (ev_ixS (ev_var rfl) ev_c hz c2) ev_c)) fun _ => et_test (ev_neSb (ev_var rfl) ev_c)) ?_
        rw [first_dec c1, whole_dec]
      · rw [o_nil, sx_eq]
        unfold numOk
        rw [show decide (w = []) = !decide (1 ≤ w.length) by cases w <;> simp, show decide (3 < w.length) = !decide (w.length ≤ 3) by
          by_cases k : w.length ≤ 3
          · rw [decide_eq_true k, decide_eq_false (by omega)]; rfl
          · rw [decide_eq_false k, decide_eq_true (by omega)]; rfl]
        simp only [Bool.not_and, Bool.not_or, Bool.not_not, Bool.or_assoc, Bool.decide_eq_true]
    · have ok : numOk w = false := by simpa using c
      rw [ok] at q
      exact s_ret (v := .non) ev_c fun H2 e2 => q H2 (e1.trans e2)
    · have ok : numOk w = true := by simpa using c
      have l := (numOk_iff.mp ok).1.2
      rw [if_pos ok] at q
      exact s_ret (ev_intS (ev_var rfl) (num_int ok) (by rw [sx_len]; omega)) fun H2 e2 => q H2 (e1.trans e2)
/-! read -/
/-- what is no text -/
inductive NoS (K : PySem.W.Frag) (H : Hp) : V → Prop
  | non : NoS K H .non
  | int (i : Int) : NoS K H (.int i)
  | bl (b : Bool) : NoS K H (.bl b)
  | lst {a : Addr} {xs : List V} (h : SqL K H a xs) : NoS K H (.ref a)
theorem NoS.up {K : PySem.W.Frag} {H H' : Hp} {x : V} (h : NoS K H x) (e : Ex H H') : NoS K H' x := by
  cases h with
  | non => exact .non
  | int i => exact .int i
  | bl b => exact .bl b
  | lst h => exact .lst (ex_l e h)
theorem ev_noS {K : PySem.W.Frag} {σ : L2.St} {H : Hp} {ta : TE} {x : V} (h : NoS K H x) (ha : Ev ta σ H x) : Ev (tCB (rIsi K) (tCons ta (tCons (tC (.ty "str")) tNil))) σ H (.bl false) := by
  cases h with
  | non => exact isi_any ha (fun _ _ => .base .non) (kit_ty (by decide +kernel))
  | int i => exact isi_any ha (fun _ _ => .base (.int i)) (kit_ty (by decide +kernel))
  | bl b => exact isi_any ha (fun _ _ => .base (.bl b)) (kit_ty (by decide +kernel))
  | lst h => exact isi_any ha (fun _ e => tyx_sql (ex_l e h)) (kit_ty (by decide +kernel))
def sp_read (K : PySem.W.Frag) (cP cR C : Addr) : Sp := fun vs H Q E => ∃ x, vs = [x] ∧ ((∃ l : List Nat, x = .str (SX.S l) ∧ l.length ≤ 10000 ∧ (parse l = none → ∀ H', Ex H H' → E (.ref C) none H') ∧ (∀ p row, parse l = some (p, row) → RetP p row H Q)) ∨ (NoS K H x ∧ ∀ H', Ex H H' → E (.ref C) none H'))
theorem ep_read {K : PySem.W.Frag} {cP cR C : Addr} {σ : L2.St} {H : Hp} {E : XK} {ta : TA} {l : List Nat} {p : Int} {row : List Int} (h : EvA ta σ H [.str (SX.S l)]) (hl : l.length ≤ 10000) (hp : parse l = some (p, row)) : EvPr (tCall (sp_read K cP cR C) [] E ta) σ H p row := fun H1 e Q q =>
  h H1 e _ fun H2 e2 => ⟨_, rfl, .inl ⟨l, rfl, hl, fun z => (by rw [hp] at z; cases z), fun p' row' z => by
    rw [hp] at z
    cases z
    exact fun T r H3 nT nr ne e3 h1 h2 => q T r H3 (fresh_back e2 nT) (fresh_back e2 nr) ne (e2.trans e3) h1 h2⟩⟩
theorem ok_read (T : Txt K mg) : FnOk P w K mg base (L2K.CXk P w) 4 T.a_read T.f_read ["text"] (sp_read K T.a_BadPrime T.a_BadRow T.a_BadText) := by
  refine T.F_read.okK sc_read (fun vs H Q E h => ?_) (fun cdv A outer s H vs Q E hr h => ?_)
  · obtain ⟨x, rfl, _⟩ := h
    rfl
  · obtain ⟨x, rfl, hq⟩ := h
    rw [show start ["text", "head", "colon", "rest", "words", "prime", "row", "word"] [x] = [some x, none, none, none, none, none, none, none] from rfl]
    refine ⟨_, (pss_cons (ps_if (pt_not (pt_val (x_isi K rfl T.n_isinstance (by rfl) (pa_cons (pv 0) (pa_cons (x_ty "str" T.n_str (by rfl) (by decide +kernel)) pa_nil))))) (pss_one (L2N.ps_raise rfl (L2K.takes_ofK rfl rfl rfl rfl).toN (L2N.pmk_own PySem.F.excBase_ValueError T.x_BadText T.g_BadText T.kp_BadText (raises_own T.s_BadText T.t_BadText) (by rfl)))) pss_nil)
      (pss_cons (ps_asg (x_part (pv 0) pe_str) (xg_tup K rfl 3 rfl (pgs_cons (pg_name (i := 1) sc_read.nd rfl (.inl rfl)) (pgs_cons (pg_name (i := 2) sc_read.nd rfl (.inl rfl)) (pgs_cons (pg_name (i := 3) sc_read.nd rfl (.inl rfl)) pgs_nil)))))
      (pss_cons (ps_set (i := 4) sc_read.nd rfl (.inl rfl) (x_split (pv 3) pe_str))
      (pss_cons (ps_if (PW.pt (pw_or (pt_cmpR op_eq (pv 2) pe_str (nomark _)) (pw_or1 (pt_cmpR op_ne (x_ixL K rfl (pv 4) pe_int (fun _ _ => rfl)) pe_str (nomark _))))) (pss_one (L2N.ps_raise rfl (L2K.takes_ofK rfl rfl rfl rfl).toN (L2N.pmk_own PySem.F.excBase_ValueError T.x_BadText T.g_BadText T.kp_BadText (raises_own T.s_BadText T.t_BadText) (by rfl)))) pss_nil)
      (pss_cons (ps_set (i := 5) sc_read.nd rfl (.inl rfl) (pe_call (ok_number_in T) (hr.mono (by decide)) (by rfl) T.g_number_in T.F_number_in.kp T.b_number_in .nil (L2N.passes_call (L2K.takes_ofK rfl rfl rfl rfl).toN (fun _ _ _ _ h => h)) (pa_cons (pv 1) pa_nil)))
      (pss_cons (L2X.ps_setLcX (E := E) (i := 6) (own := [("word", 7)]) (g := gName 7) rfl rfl rfl sc_read.nd rfl rfl (sw_true rfl rfl rfl (by decide +kernel)) (L2K.takes_ofK rfl rfl rfl rfl).toN (xi_list K rfl (x_sl K rfl (pv 4) (po_some pe_int) po_none)) (blkOk_by (N := ["text", "head", "colon", "rest", "words", "prime", "row", "word"]) (sc := defScope s_read) (by decide +kernel)) (fun _ _ _ _ _ => (pg_name (i := 7) sc_read.nd rfl (Or.inl rfl))) (fun _ _ _ _ _ => (pe_callS (ok_number_in T) (hr.mono (by decide)) (by rfl) T.g_number_in T.F_number_in.kp T.b_number_in (fun σ => L2X.blkPass (E := E) σ) (pa_cons (pv 7) pa_nil))))
      (pss_cons (L2K.ps_turn rfl rfl ⟨rfl, by decide, .inl T.g_BadPrime⟩ ⟨rfl, by decide, .inl T.g_BadRow⟩ (L2H.passesAt_of rfl) (L2K.takes_ofK rfl rfl rfl rfl) (fun W pn xe tk _ => (pss_cons (ps_expr (pe_callS (ok_check_prime T) (hr.mono (by decide)) (by rfl) T.g_check_prime T.F_check_prime.kp T.b_check_prime (fun σ => L2N.passAt tk σ) (pa_cons (pv 5) pa_nil)))
      (pss_one (ps_expr (pe_callS (ok_check_row T) (hr.mono (by decide)) (by rfl) T.g_check_row T.F_check_row.kp T.b_check_row (fun σ => L2N.passAt tk σ) (pa_cons (pv 5) (pa_cons (pv 6) pa_nil))))))) (fun a pn => (L2N.pmk_own PySem.F.excBase_ValueError T.x_BadText T.g_BadText T.kp_BadText (raises_own T.s_BadText T.t_BadText) (by rfl))))
      (pss_one (ps_ret (pe_tup (pa_cons (pv 5) (pa_cons (pv 6) pa_nil)))))))))))), ?_⟩
    rcases hq with ⟨l, rfl, hl, q1, q2⟩ | ⟨hx, q1⟩
    · have hz : (SX.S l).length ≤ 100000 := by rw [sx_len]; omega
      refine q_skip (b := false) ?_ rfl fun H1 e1 => ?_
      · exact et_is (et_not (et_B (isi_any (b := true) (ev_var rfl) (fun _ _ => .base (.str _)) (kit_ty (by decide +kernel))))) rfl
      cases hp : TL.par [58] [] l with
      | none =>
        refine q_unp3 (i := 1) (j := 2) (k := 3) (eu_part (ev_var rfl) ev_c (by decide +kernel) hz) fun H2 e2 => ?_
        rw [part_none hp]
        refine q_asgL (i := 4) (el_split (ev_var rfl) ev_c (by decide +kernel) (by rw [sx_len]; decide)) fun wa H3 nw e3 hw => ?_
        exact q_when (b := true) (et_is (et_or (b := true) (et_test (ev_eqSb (ev_var rfl) ev_c)) (fun z => by rw [o_nil, sx_eq] at z; exact absurd rfl (of_decide_eq_false z))) (by rw [Bool.or_true])) (fun _ H4 e4 => q1 (parse_none hp) H4 (((e1.trans e2).trans e3).trans e4)) (fun z => by cases z)
      | some hr' =>
        obtain ⟨h, r⟩ := hr'
        have pl := par_len hp
        have sl := spl_len r
        refine q_unp3 (i := 1) (j := 2) (k := 3) (eu_part (ev_var rfl) ev_c (by decide +kernel) hz) fun H2 e2 => ?_
        rw [part_some hp]
        refine q_asgL (i := 4) (el_split (ev_var rfl) ev_c (by decide +kernel) (by rw [sx_len]; omega)) fun wa H3 nw e3 hw => ?_
        rw [split_is] at hw
        cases hs : TL.spl [32] 0 [] r with
        | nil => exact absurd hs (spl_ne [32] r 0 [])
        | cons w0 ws =>
          rw [hs] at hw sl
          have sl1 : ws.length ≤ 10000 := by have := sl.1; simp only [List.length_cons] at this; omega
          have E3 := (e1.trans e2).trans e3
          refine q_when (b := !decide (w0 = [])) ?_ (fun c H4 e4 => ?_) (fun c H4 e4 => ?_)
          · refine et_is (et_or (b := !decide (w0 = [])) (et_test (ev_eqSb (ev_var rfl) ev_c)) fun _ => ?_) (by rw [o_nil, sx_eq]; rfl)
            refine et_is (et_test (ev_neSb (ev_ixR (xs := (w0 :: ws).map fun w => V.str (SX.S w)) (er_var rfl (sq_of hw)) ev_c (atI_nat (j := 0) rfl)) ev_c)) ?_
            rw [o_nil, sx_eq]
          · exact q1 (parse_odd hp hs (of_decide_eq_false (by simpa using c))) H4 (E3.trans e4)
          have w00 : w0 = [] := by simpa using c
          rw [w00] at hs hw
          have pa := parse_at hp hs
          have hw4 := e4 _ _ hw
          have E4 := E3.trans e4
          refine q_numberIn (i := 5) (ea_cons (ev_var rfl) ea_nil) (by omega) (fun n1 H5 e5 => ?_) (fun n1 H5 e5 => q1 (by rw [pa, n1]; rfl) H5 (E4.trans e5))
          have hw5 := e5 _ _ hw4
          have E5 := E4.trans e5
          refine q_asgLcX (i := 6) (j := 7) (C := T.a_BadText) (ws := ws) (er_is (er_of_l (el_slR (er_var rfl (sq_of hw5)) (eo_some ev_c) eo_none)) (by rw [cut_fromI (by decide)]; rfl)) (by omega) (fun _ => rfl) (fun _ => rfl) (fun w hm H6 Q6 k1 k2 => ⟨w, rfl, by have := sl.2 w (List.mem_cons_of_mem _ hm); omega, k1, k2⟩) (fun n2 H6 e6 => q1 (by rw [pa, n2]; simp) H6 (E5.trans e6)) fun n2 ra H6 nra e6 hra => ?_
          have E6 := E5.trans e6
          have fin : ∀ H7, Ex H6 H7 → primeOk (.int (numV h)) = true → ((ws.map numV).all fun n => decide (n < numV h)) = true → tRet (tTup (tCons (tVar 5) (tCons (tVar 6) tNil))) { nx := fun x H' => Q V.non H', rt := Q } [some (.str (SX.S l)), some (.str (SX.S h)), some (.str (SX.S [58])), some (.str (SX.S r)), some (.ref wa), some (.int (numV h)), some (.ref ra), none] H7 := fun H7 e7 c1 c2 => by
            refine s_retP (row := ws.map numV) (ev_var rfl) (ev_var rfl) (e7 _ _ hra) fun Tp H8 nT e8 g1 g2 => ?_
            refine q2 (numV h) (ws.map numV) (by rw [pa, n1, n2, c1, c2]; rfl) Tp ra H8 (fresh_back (E6.trans e7) nT) (fresh_back E5 nra) (ne_of_none (e7 _ _ hra) nT).symm ((E6.trans e7).trans e8) g1 g2
          have bad : ∀ (D : Addr), PySem.W.exmAny K (.ref D) [.ref T.a_BadPrime, .ref T.a_BadRow] = some true → parse l = none → ∀ (σ : L2.St) H7, Ex H6 H7 → L2K.wTurn K (.ref T.a_BadPrime) (.ref T.a_BadRow) (fun _ H Q => Q (.ref T.a_BadText) none H) (fun cls d _ H => E cls d H) (.ref D) none σ H7 := fun D k1 k2 σ H7 e7 =>
            ⟨k1, fun a na => ⟨upd_same, q1 k2 _ ((E6.trans e7).trans (Ex.new na))⟩⟩
          have xP : PySem.W.exmAny K (.ref T.a_BadPrime) [.ref T.a_BadPrime, .ref T.a_BadRow] = some true := by
            unfold PySem.W.exmAny PySem.W.exmAny PySem.W.exmAny
            rw [T.exm_BadPrime_BadPrime, T.exm_BadPrime_BadRow]
            rfl
          have xR : PySem.W.exmAny K (.ref T.a_BadRow) [.ref T.a_BadPrime, .ref T.a_BadRow] = some true := by
            unfold PySem.W.exmAny PySem.W.exmAny PySem.W.exmAny
            rw [T.exm_BadRow_BadPrime, T.exm_BadRow_BadRow]
            rfl
          refine q_dropS (ea_cons (ev_var rfl) ea_nil) fun H7 e7 => ⟨_, rfl, .no (.int _), fun c1 H8 e8 => ?_, fun c1 H8 e8 => bad _ xP (by rw [pa, c1]; simp) _ _ (e7.trans e8)⟩
          refine s_dropS (ea_cons (ev_var rfl) (ea_cons (ev_var rfl) ea_nil)) fun H9 e9 => ⟨_, _, _, rfl, rests_nums (p := numV h) (ws := ws) (sq_of (((e7.trans e8).trans e9) _ _ hra)) (by omega), fun c2 H10 e10 => ?_, fun c2 H10 e10 => bad _ xR (by rw [pa, c2]; simp) _ _ (((e7.trans e8).trans e9).trans e10)⟩
          exact fin H10 (((e7.trans e8).trans e9).trans e10) c1 c2
    · refine q_when (b := true) (et_is (et_not (et_B (ev_noS hx (ev_var rfl)))) rfl) (fun _ H1 e1 => q1 H1 e1) (fun z => by cases z)
/-! _law_in -/
def sp__law_in (K : PySem.W.Frag) : Sp := fun vs H Q _ => ∃ l : List Nat, vs = [.str (SX.S l)] ∧ l.length ≤ 10000 ∧ (parse l = none → RetV .non H Q) ∧ (∀ p row, parse l = some (p, row) → RetP p row H Q)
theorem ep_law_in {K : PySem.W.Frag} {σ : L2.St} {H : Hp} {E : XK} {ta : TA} {l : List Nat} {p : Int} {row : List Int} (h : EvA ta σ H [.str (SX.S l)]) (hl : l.length ≤ 10000) (hp : parse l = some (p, row)) : EvPr (tCall (sp__law_in K) [] E ta) σ H p row := fun H1 e Q q =>
  h H1 e _ fun H2 e2 => ⟨l, rfl, hl, fun z => (by rw [hp] at z; cases z), fun p' row' z => by
    rw [hp] at z
    cases z
    exact fun T r H3 nT nr ne e3 h1 h2 => q T r H3 (fresh_back e2 nT) (fresh_back e2 nr) ne (e2.trans e3) h1 h2⟩
theorem ev_law_in {K : PySem.W.Frag} {σ : L2.St} {H : Hp} {E : XK} {ta : TA} {l : List Nat} (h : EvA ta σ H [.str (SX.S l)]) (hl : l.length ≤ 10000) (hp : parse l = none) : Ev (tCall (sp__law_in K) [] E ta) σ H .non := fun H1 e Q q =>
  h H1 e _ fun H2 e2 => ⟨l, rfl, hl, fun _ H3 e3 => q H3 (e2.trans e3), fun p row z => (by rw [hp] at z; cases z)⟩
theorem ok__law_in (T : Txt K mg) : FnOk P w K mg base CX0 2 T.a__law_in T.f__law_in ["_law_text"] (sp__law_in K) := by
  refine T.F__law_in.ok sc__law_in (fun vs H Q E h => ?_) (fun cdv A outer s H vs Q E hr h => ?_)
  · obtain ⟨l, rfl, _⟩ := h
    rfl
  · obtain ⟨l, rfl, hl, q1, q2⟩ := h
    rw [show start ["_law_text", "_law_head", "_law_colon", "_law_rest", "_law_words", "_law_prime_here", "_law_row_here", "_law_at", "_law_word"] [.str (SX.S l)] = [some (.str (SX.S l)), none, none, none, none, none, none, none, none] from rfl]
    refine ⟨_, (pss_cons (ps_asg (x_part (pv 0) pe_str) (xg_tup K rfl 3 rfl (pgs_cons (pg_name (i := 1) sc__law_in.nd rfl (.inl rfl)) (pgs_cons (pg_name (i := 2) sc__law_in.nd rfl (.inl rfl)) (pgs_cons (pg_name (i := 3) sc__law_in.nd rfl (.inl rfl)) pgs_nil)))))
      (pss_cons (ps_set (i := 4) sc__law_in.nd rfl (.inl rfl) (x_split (pv 3) pe_str))
      (pss_cons (ps_set (i := 5) sc__law_in.nd rfl (.inr rfl) (pe_call (ok__law_number T) (hr.mono (by decide)) (by rfl) T.g__law_number T.F__law_number.kp T.b__law_number .nil pass0 (pa_cons (pv 1) pa_nil)))
      (pss_cons (ps_if (PW.pt (pw_or (pt_cmpR op_eq (pv 2) pe_str (nomark _)) (pw_or (pt_cmpR op_ne (x_ixL K rfl (pv 4) pe_int (fun _ _ => rfl)) pe_str (nomark _)) (pw_or (pt_cmpR op_isN1 (pv 5) pe_non (nomark _)) (pw_or1 (pt_not (pt_chain op_le op_le pe_int (pv 5) pe_int))))))) (pss_one (ps_ret pe_non)) pss_nil)
      (pss_cons (ps_if (pt_val (x_any K rfl rfl T.n_any (by rfl) (pa_cons (pe_lc (own := [("_law_at", 7)]) (g := (gName 7)) (tt := tYes) rfl sc__law_in.nd (pi_range2 (by rfl) T.n_range (pa_cons pe_int (pa_cons (pv 5) pa_nil))) (blkOk_by (N := ["_law_text", "_law_head", "_law_colon", "_law_rest", "_law_words", "_law_prime_here", "_law_row_here", "_law_at", "_law_word"]) (sc := defScope s__law_in) (by decide +kernel)) (fun _ _ _ _ _ => (pg_name (i := 7) sc__law_in.nd rfl (Or.inl rfl))) (fun _ _ _ _ _ => pts_nil) (fun _ _ _ _ _ => (pe_cmpR op_eq (pe_op op_mod (pv 5) (pv 7)) pe_int (nomark _)))) pa_nil))) (pss_one (ps_ret pe_non)) pss_nil)
      (pss_cons (ps_setLc (i := 6) (own := [("_law_word", 8)]) (g := (gName 8)) (tt := tYes) rfl sc__law_in.nd rfl rfl (sw_true rfl rfl rfl (by decide +kernel)) (xi_list K rfl (x_sl K rfl (pv 4) (po_some pe_int) po_none)) (blkOk_by (N := ["_law_text", "_law_head", "_law_colon", "_law_rest", "_law_words", "_law_prime_here", "_law_row_here", "_law_at", "_law_word"]) (sc := defScope s__law_in) (by decide +kernel)) (fun _ _ _ _ _ => (pg_name (i := 8) sc__law_in.nd rfl (Or.inl rfl))) (fun _ _ _ _ _ => pts_nil) (fun _ _ _ _ _ => (pe_call (ok__law_number T) (hr.mono (by decide)) (by rfl) T.g__law_number T.F__law_number.kp T.b__law_number .nil pass0 (pa_cons (pv 8) pa_nil))))
      (pss_one (ps_ret (pe_ifExp (PW.pt (pw_or (x_inN K rfl pe_non (pv 6) (by rfl)) (pw_or1 (pt_cmpR op_ge (x_maxL K rfl rfl T.n_max (by rfl) (pa_cons (pe_op op_cat (pe_lst (pa_cons pe_int pa_nil)) (pv 6)) pa_nil)) (pv 5) (nomark _))))) pe_non (pe_tup (pa_cons (pv 5) (pa_cons (pv 6) pa_nil)))))))))))), ?_⟩
    have hz : (SX.S l).length ≤ 100000 := by rw [sx_len]; omega
    cases hp : TL.par [58] [] l with
    | none =>
      refine q_unp3 (i := 1) (j := 2) (k := 3) (eu_part (ev_var rfl) ev_c (by decide +kernel) hz) fun H2 e2 => ?_
      rw [part_none hp]
      refine q_asgL (i := 4) (el_split (ev_var rfl) ev_c (by decide +kernel) (by rw [sx_len]; decide)) fun wa H3 nw e3 hw => ?_
      refine q_asg (i := 5) (ev_law_number (w := l) (ea_cons (ev_var rfl) ea_nil) (by omega)) fun H4 e4 => ?_
      exact q_when (b := true) (et_is (et_or (b := true) (et_test (ev_eqSb (ev_var rfl) ev_c)) (fun z => by rw [o_nil, sx_eq] at z; exact absurd rfl (of_decide_eq_false z))) (by rw [Bool.or_true])) (fun _ H5 e5 => s_ret (v := .non) ev_c fun H6 e6 => q1 (parse_none hp) H6 ((((e2.trans e3).trans e4).trans e5).trans e6)) (fun z => by cases z)
    | some hr' =>
      obtain ⟨h, r⟩ := hr'
      have pl := par_len hp
      have sl := spl_len r
      refine q_unp3 (i := 1) (j := 2) (k := 3) (eu_part (ev_var rfl) ev_c (by decide +kernel) hz) fun H2 e2 => ?_
      rw [part_some hp]
      refine q_asgL (i := 4) (el_split (ev_var rfl) ev_c (by decide +kernel) (by rw [sx_len]; omega)) fun wa H3 nw e3 hw => ?_
      rw [split_is] at hw
      refine q_asg (i := 5) (ev_law_number (w := h) (ea_cons (ev_var rfl) ea_nil) (by omega)) fun H4 e4 => ?_
      have hw := e4 _ _ hw
      have E4 := (e2.trans e3).trans e4
      cases hs : TL.spl [32] 0 [] r with
      | nil => exact absurd hs (spl_ne [32] r 0 [])
      | cons w0 ws =>
        rw [hs] at hw sl
        have sl1 : ws.length ≤ 10000 := by have := sl.1; simp only [List.length_cons] at this; omega
        refine q_when (b := !decide (w0 = []) || (!numOk h || !(decide (2 ≤ numV h) && decide (numV h ≤ 997)))) ?_ (fun c H5 e5 => ?_) (fun c H5 e5 => ?_)
        · refine et_is (et_or (b := !decide (w0 = []) || (!numOk h || !(decide (2 ≤ numV h) && decide (numV h ≤ 997)))) (et_test (ev_eqSb (ev_var rfl) ev_c)) fun _ => ?_) (by rw [o_nil, sx_eq]; rfl)
          refine et_is (et_or (b := !numOk h || !(decide (2 ≤ numV h) && decide (numV h ≤ 997))) (et_test (ev_neSb (ev_ixR (xs := (w0 :: ws).map fun w => V.str (SX.S w)) (er_var rfl (sq_of hw)) ev_c (atI_nat (j := 0) rfl)) ev_c)) fun _ => ?_) (by rw [o_nil, sx_eq])
          cases n1 : numOk h with
          | false => exact et_is (et_or (b := true) (et_test (ev_isN (ev_var rfl) ev_c)) fun z => by rw [if_neg (by decide)] at z; exact absurd rfl (of_decide_eq_false z)) (by simp)
          | true =>
            refine et_is (et_or (b := !(decide (2 ≤ numV h) && decide (numV h ≤ 997))) (et_test (ev_isN (ev_var rfl) ev_c)) fun _ => et_not (et_test (ev_chain ev_c (ev_var (v := .int (numV h)) rfl) rv_le (fun _ => ev_c) fun _ => rv_le))) ?_
            rfl
        · refine s_ret (v := .non) ev_c fun H6 e6 => q1 ?_ H6 ((E4.trans e5).trans e6)
          by_cases k0 : w0 = []
          · rw [k0] at hs
            rw [parse_at hp hs]
            rw [decide_eq_true k0] at c
            cases n1 : numOk h with
            | false => rfl
            | true =>
              rw [n1] at c
              have : primeOk (.int (numV h)) = false := by
                show (decide (2 ≤ numV h) && decide (numV h ≤ 997) && _) = false
                cases c2 : (decide (2 ≤ numV h) && decide (numV h ≤ 997)) with
                | true =>
                  rw [c2] at c
                  exact absurd c (by decide)
                | false => rw [Bool.false_and]
              rw [this]
              simp
          · exact parse_odd hp hs k0
        simp only [Bool.or_eq_false_iff, Bool.not_eq_false', Bool.and_eq_true, decide_eq_true_eq] at c
        obtain ⟨w00, n1, p2, p9⟩ := c
        rw [w00] at hs hw
        have pa := parse_at hp hs
        have pi := prime_iff p2 p9
        rw [if_pos n1]
        have hw5 := e5 _ _ hw
        have E5 := E4.trans e5
        refine q_when (b := !noDiv (numV h)) ?_ (fun c H6 e6 => ?_) (fun c H6 e6 => ?_)
        · refine et_is (et_B (ev_anyR (er_of_l (el_lcRb (lo := 2) (hi := numV h) (fun i => decide (numV h % ((2 : Int) + i) = 0)) (ea_cons ev_c (ea_cons (ev_var rfl) ea_nil)) (by omega) (by omega) (fun _ => rfl) fun i H7 e7 hi => ev_eq (ev_mod (ev_var rfl) (ev_var rfl) (by omega)) ev_c (Sc.int _ _))))) ?_
          unfold noDiv
          rw [List.any_map, Bool.not_not]
          rfl
        · refine s_ret (v := .non) ev_c fun H7 e7 => q1 ?_ H7 ((E5.trans e6).trans e7)
          rw [pa, pi, show noDiv (numV h) = false by simpa using c]
          simp
        have c1 : noDiv (numV h) = true := by simpa using c
        have hw6 := e6 _ _ hw5
        have E6 := E5.trans e6
        refine q_asgL (i := 6) (xs := ws.map fun w => if numOk w = true then V.int (numV w) else .non) (el_is (el_lcV (xs := ws.map fun w => V.str (SX.S w)) numF (er_is (er_of_l (el_slR (er_var rfl (sq_of hw6)) (eo_some ev_c) eo_none)) (by rw [cut_fromI (by decide)]; rfl)) (by rw [List.length_map]; omega) (fun _ => rfl) ?_) (numF_words ws)) fun ra H7 nra e7 hra => ?_
        · intro x H8 e8 hx
          obtain ⟨w, hm, rfl⟩ := List.mem_map.mp hx
          exact ev_law_number (w := w) (ea_cons (ev_var rfl) ea_nil) (by have := sl.2 w (List.mem_cons_of_mem _ hm); omega)
        have E7 := E6.trans e7
        have inw := in_words ws
        cases n2 : ws.all numOk with
        | false =>
          rw [n2] at inw
          refine s_ret (v := .non) (ev_ifT (et_is (et_or (b := true) (et_test (ev_inN ev_c (er_var rfl (sq_of hra)) (flat_words ws))) fun z => by rw [inw] at z; cases z) (by rw [Bool.or_true])) ev_c) fun H8 e8 => q1 ?_ H8 (E7.trans e8)
          rw [pa, n2]
          simp
        | true =>
          rw [n2] at inw
          have hra2 := hra
          rw [all_words n2] at hra2
          obtain ⟨M, M1, M2⟩ := max_of ((0 : Int) :: ws.map numV) (by simp)
          have om := over_max (p := numV h) (by omega) M1 M2
          have test : ∀ b, decide (numV h ≤ M) = b → EvT (tOr (tTest (tOp (rIn K false) (tC .non) (tVar 6))) (tTest (tOp (rI0 fun i j => .bl (decide (j ≤ i))) (tCB (rMax K) (tCons (tOp rCat (tLst (tCons (tC (.int 0)) tNil)) (tVar 6)) tNil)) (tVar 5)))) [some (.str (SX.S l)), some (.str (SX.S h)), some (.str (SX.S [58])), some (.str (SX.S r)), some (.ref wa), some (.int (numV h)), some (.ref ra), none, none] H7 b := fun b hb =>
            et_is (et_or (b := b) (et_test (ev_inN ev_c (er_var rfl (sq_of hra)) (flat_words ws))) fun _ => et_is (et_test (ev_ge (ev_maxL (er_of_l (el_catI (ms := [0]) (ns := ws.map numV) (em_of_l (el_one ev_c)) (em_var rfl hra2) (by simp; omega))) M1 M2) (ev_var rfl))) hb) (by rw [inw]; rfl)
          cases n3 : ((ws.map numV).all fun n => decide (n < numV h)) with
          | false =>
            refine s_ret (v := .non) (ev_ifT (test true (by rw [om, n3]; rfl)) ev_c) fun H8 e8 => q1 ?_ H8 (E7.trans e8)
            rw [pa, n3]
            simp
          | true =>
            refine s_retIfF (test false (by rw [om, n3]; rfl)) fun H8 e8 => ?_
            refine s_retP (row := ws.map numV) (ev_var rfl) (ev_var rfl) (e8 _ _ hra2) fun Tp H9 nT e9 g1 g2 => ?_
            exact q2 (numV h) (ws.map numV) (by rw [pa, pi, n1, n2, c1, n3]; rfl) Tp ra H9 (fresh_back (E7.trans e8) nT) (fresh_back E6 nra) (ne_of_none (e8 _ _ hra2) nT).symm ((E7.trans e8).trans e9) g1 g2
/-! _law_refused -/
def sp__law_refused (K : PySem.W.Frag) (cP cR C : Addr) : Sp := fun vs H Q _ => ∃ x, vs = [x] ∧ ((∃ l : List Nat, x = .str (SX.S l) ∧ l.length ≤ 10000 ∧ parse l = none) ∨ NoS K H x) ∧ RetV (.bl true) H Q
theorem ev_refused {K : PySem.W.Frag} {cP cR C : Addr} {σ : L2.St} {H : Hp} {E : XK} {ta : TA} {x : V} (h : EvA ta σ H [x]) (hx : ∀ H1, Ex H H1 → (∃ l : List Nat, x = .str (SX.S l) ∧ l.length ≤ 10000 ∧ parse l = none) ∨ NoS K H1 x) : Ev (tCall (sp__law_refused K cP cR C) [] E ta) σ H (.bl true) := fun H1 e Q q =>
  h H1 e _ fun H2 e2 => ⟨x, rfl, hx H2 (e.trans e2), fun H3 e3 => q H3 (e2.trans e3)⟩
theorem ok__law_refused (T : Txt K mg) : FnOk P w K mg base CX0 5 T.a__law_refused T.f__law_refused ["_law_text"] (sp__law_refused K T.a_BadPrime T.a_BadRow T.a_BadText) := by
  refine T.F__law_refused.ok sc__law_refused (fun vs H Q E h => ?_) (fun cdv A outer s H vs Q E hr h => ?_)
  · obtain ⟨x, rfl, _⟩ := h
    rfl
  · obtain ⟨x, rfl, hx, q⟩ := h
    rw [show start ["_law_text", "error", "_law_others"] [x] = [some x, none, none] from rfl]
    refine ⟨_, (pss_cons (L2K.ps_try_asK (i := 1) rfl rfl sc__law_refused.nd rfl rfl ⟨rfl, by decide, .inl T.g_RuleError⟩ (fun W pn xe tk _ => (pss_one (ps_expr (pe_callS (ok_read T) (hr.mono (by decide)) (by rfl) T.g_read T.F_read.kp T.b_read (fun σ => L2K.passAtK (tk := tk) σ) (pa_cons (pv 0) pa_nil))))) (fun x a oe cls d pn hz hf => (pss_cons (ps_set (i := 2) sc__law_refused.nd rfl (.inl rfl) (pe_lst (pa_cons (L2K.x_isK K rfl hz hf T.n_isinstance (by rfl) (pa_cons (pv 1) (pa_cons (pe_glob (v := .ref T.a_BadPlace) (by rfl) T.g_BadPlace rfl) pa_nil))) (pa_cons (L2K.x_isK K rfl hz hf T.n_isinstance (by rfl) (pa_cons (pv 1) (pa_cons (pe_glob (v := .ref T.a_BadPrime) (by rfl) T.g_BadPrime rfl) pa_nil))) (pa_cons (L2K.x_isK K rfl hz hf T.n_isinstance (by rfl) (pa_cons (pv 1) (pa_cons (pe_glob (v := .ref T.a_BadRow) (by rfl) T.g_BadRow rfl) pa_nil))) pa_nil)))))
      (pss_cons (ps_set (i := 2) sc__law_refused.nd rfl (.inl rfl) (pe_op op_cat (pv 2) (pe_lst (pa_cons (L2K.x_isK K rfl hz hf T.n_isinstance (by rfl) (pa_cons (pv 1) (pa_cons (pe_glob (v := .ref T.a_BadRule) (by rfl) T.g_BadRule rfl) pa_nil))) (pa_cons (L2K.x_isK K rfl hz hf T.n_isinstance (by rfl) (pa_cons (pv 1) (pa_cons (pe_glob (v := .ref T.a_NoWay) (by rfl) T.g_NoWay rfl) pa_nil))) (pa_cons (L2K.x_isK K rfl hz hf T.n_isinstance (by rfl) (pa_cons (pv 1) (pa_cons (pe_glob (v := .ref T.a_TooFew) (by rfl) T.g_TooFew rfl) pa_nil))) pa_nil))))))
      (pss_one (ps_ret (pe_and (L2K.x_isK K rfl hz hf T.n_isinstance (by rfl) (pa_cons (pv 1) (pa_cons (pe_glob (v := .ref T.a_BadText) (by rfl) T.g_BadText rfl) pa_nil))) (pe_and (L2K.x_isK K rfl hz hf T.n_isinstance (by rfl) (pa_cons (pv 1) (pa_cons (x_ty "ValueError" T.n_ValueError (by rfl) (by decide +kernel)) pa_nil))) (pe_one (pe_not (L2K.x_anyK K rfl hz hf T.n_any (by rfl) (pa_cons (pv 2) pa_nil))))))))))))
      (pss_one (ps_ret pe_bl))), ?_⟩
    have own : ∀ {D : Addr}, ∀ u, RelV (.ref D) u → u = .ref D := fun _ r => r
    have own2 : ∀ u, RelV (.ty "ValueError") u → u = .type "ValueError" := fun _ r => r
    refine s_dropS (D := _) (ea_cons (ev_var rfl) ea_nil) fun H1 e1 => ⟨x, rfl, ?_⟩
    rcases hx with ⟨l, rfl, hl, hp⟩ | hx
    · refine .inl ⟨l, rfl, hl, fun _ H2 e2 => ⟨T.exm_BadText_RuleError, fun c a na hc => ?_⟩, fun p row z => by rw [hp] at z; cases z⟩
      refine q_asgL (i := 2) (xs := [.bl false, .bl false, .bl false]) (el_lst (ea_cons (ev_isX (ev_var rfl) ev_c rfl rfl T.xc_BadText own T.isa_BadText_BadPlace) (ea_cons (ev_isX (ev_var rfl) ev_c rfl rfl T.xc_BadText own T.isa_BadText_BadPrime) (ea_cons (ev_isX (ev_var rfl) ev_c rfl rfl T.xc_BadText own T.isa_BadText_BadRow) ea_nil))) (by simp)) fun l1 H3 n1 e3 h1 => ?_
      refine q_asgL (i := 2) (xs := [.bl false, .bl false, .bl false] ++ [.bl false, .bl false, .bl false]) (el_cat (em_v (ev_var rfl) h1) (em_of_l (el_lst (ea_cons (ev_isX (ev_var rfl) ev_c rfl rfl T.xc_BadText own T.isa_BadText_BadRule) (ea_cons (ev_isX (ev_var rfl) ev_c rfl rfl T.xc_BadText own T.isa_BadText_NoWay) (ea_cons (ev_isX (ev_var rfl) ev_c rfl rfl T.xc_BadText own T.isa_BadText_TooFew) ea_nil))) (by simp))) (by simp)) fun l2 H4 n2 e4 h2 => ?_
      refine s_ret (v := .bl true) (ev_is (ev_andV (ev_isX (ev_var rfl) ev_c rfl rfl T.xc_BadText own T.isa_BadText_BadText) fun _ => ev_andV (ev_isX (ev_var rfl) ev_c rfl rfl T.xc_BadText own2 T.isa_BadText_ValueError) fun _ => ev_notV (ev_anyK (bs := [false, false, false, false, false, false]) (fun x z => e4 _ _ (e3 _ _ (hc x z))) (er_var rfl (sq_of h2)))) rfl) fun H5 e5 => q H5 ((((e1.trans e2).trans e3).trans e4).trans e5)
    · refine .inr ⟨hx.up e1, fun H2 e2 => ⟨T.exm_BadText_RuleError, fun c a na hc => ?_⟩⟩
      refine q_asgL (i := 2) (xs := [.bl false, .bl false, .bl false]) (el_lst (ea_cons (ev_isX (ev_var rfl) ev_c rfl rfl T.xc_BadText own T.isa_BadText_BadPlace) (ea_cons (ev_isX (ev_var rfl) ev_c rfl rfl T.xc_BadText own T.isa_BadText_BadPrime) (ea_cons (ev_isX (ev_var rfl) ev_c rfl rfl T.xc_BadText own T.isa_BadText_BadRow) ea_nil))) (by simp)) fun l1 H3 n1 e3 h1 => ?_
      refine q_asgL (i := 2) (xs := [.bl false, .bl false, .bl false] ++ [.bl false, .bl false, .bl false]) (el_cat (em_v (ev_var rfl) h1) (em_of_l (el_lst (ea_cons (ev_isX (ev_var rfl) ev_c rfl rfl T.xc_BadText own T.isa_BadText_BadRule) (ea_cons (ev_isX (ev_var rfl) ev_c rfl rfl T.xc_BadText own T.isa_BadText_NoWay) (ea_cons (ev_isX (ev_var rfl) ev_c rfl rfl T.xc_BadText own T.isa_BadText_TooFew) ea_nil))) (by simp))) (by simp)) fun l2 H4 n2 e4 h2 => ?_
      refine s_ret (v := .bl true) (ev_is (ev_andV (ev_isX (ev_var rfl) ev_c rfl rfl T.xc_BadText own T.isa_BadText_BadText) fun _ => ev_andV (ev_isX (ev_var rfl) ev_c rfl rfl T.xc_BadText own2 T.isa_BadText_ValueError) fun _ => ev_notV (ev_anyK (bs := [false, false, false, false, false, false]) (fun x z => e4 _ _ (e3 _ _ (hc x z))) (er_var rfl (sq_of h2)))) rfl) fun H5 e5 => q H5 ((((e1.trans e2).trans e3).trans e4).trans e5)
/-! _law_right -/
def sp__law_right (K : PySem.W.Frag) : Sp := fun vs H Q _ => ∃ l : List Nat, vs = [.str (SX.S l)] ∧ l.length ≤ 10000 ∧ RetV (.bl true) H Q
theorem ev_right {K : PySem.W.Frag} {σ : L2.St} {H : Hp} {E : XK} {ta : TA} {s : Str} (h : EvA ta σ H [.str s]) (hl : s.length ≤ 10000) : Ev (tCall (sp__law_right K) [] E ta) σ H (.bl true) := fun H1 e Q q =>
  h H1 e _ fun H2 e2 => ⟨TL.tl s, by rw [show SX.S (TL.tl s) = s from TL.mk_tl s]; rfl, by rw [← TL.len_tl]; exact hl, fun H3 e3 => q H3 (e2.trans e3)⟩
theorem ok__law_right (T : Txt K mg) : FnOk P w K mg base CX0 6 T.a__law_right T.f__law_right ["_law_text"] (sp__law_right K) := by
  refine T.F__law_right.ok sc__law_right (fun vs H Q E h => ?_) (fun cdv A outer s H vs Q E hr h => ?_)
  · obtain ⟨l, rfl, _⟩ := h
    rfl
  · obtain ⟨l, rfl, hl, q⟩ := h
    rw [show start ["_law_text", "_law_due_here", "_law_found"] [.str (SX.S l)] = [some (.str (SX.S l)), none, none] from rfl]
    refine ⟨_, (pss_cons (ps_set (i := 1) sc__law_right.nd rfl (.inl rfl) (pe_call (ok__law_in T) (hr.mono (by decide)) (by rfl) T.g__law_in T.F__law_in.kp T.b__law_in .nil pass0 (pa_cons (pv 0) pa_nil)))
      (pss_cons (ps_if (pt_cmpR op_isN1 (pv 1) pe_non (nomark _)) (pss_one (ps_ret (pe_call (ok__law_refused T) (hr.mono (by decide)) (by rfl) T.g__law_refused T.F__law_refused.kp T.b__law_refused .nil pass0 (pa_cons (pv 0) pa_nil)))) pss_nil)
      (pss_cons (ps_set (i := 2) sc__law_right.nd rfl (.inl rfl) (pe_call (ok_read T) (hr.mono (by decide)) (by rfl) T.g_read T.F_read.kp T.b_read .nil L2K.passK (pa_cons (pv 0) pa_nil)))
      (pss_cons (ps_if (PW.pt (pw_or (pt_not (pt_val (x_isi K rfl T.n_isinstance (by rfl) (pa_cons (pv 2) (pa_cons (x_ty "tuple" T.n_tuple (by rfl) (by decide +kernel)) pa_nil))))) (pw_or (x_neDt K rfl hr.units (pv 2) (pv 1)) (pw_or1 (pt_cmpR op_ne (pe_call (ok_written T) (hr.mono (by decide)) (by rfl) T.g_written T.F_written.kp T.b_written .nil pass0 (pa_cons (x_ixT K rfl (pv 2) pe_int (fun _ _ => rfl)) (pa_cons (x_ixT K rfl (pv 2) pe_int (fun _ _ => rfl)) pa_nil))) (pv 0) (nomark _)))))) (pss_one (ps_ret pe_bl)) pss_nil)
      (pss_cons (ps_expr (x_append K rfl (x_ixT K rfl (pv 2) pe_int (fun _ _ => rfl)) (pa_cons pe_int pa_nil)))
      (pss_one (ps_ret (x_eqD K rfl hr.units (pe_call (ok_read T) (hr.mono (by decide)) (by rfl) T.g_read T.F_read.kp T.b_read .nil L2K.passK (pa_cons (pv 0) pa_nil)) (pv 1))))))))), ?_⟩
    cases hp : parse l with
    | none =>
      refine q_asg (i := 1) (ev_law_in (ea_cons (ev_var rfl) ea_nil) hl hp) fun H1 e1 => ?_
      exact q_when (b := true) (et_is (et_test (ev_isN (ev_var rfl) ev_c)) (decide_eq_true rfl)) (fun _ H2 e2 => s_ret (v := .bl true) (ev_refused (ea_cons (ev_var rfl) ea_nil) (fun H3 _ => .inl ⟨l, rfl, hl, hp⟩)) fun H3 e3 => q H3 ((e1.trans e2).trans e3)) (fun z => by cases z)
    | some pr =>
      obtain ⟨p, row⟩ := pr
      obtain ⟨qn, ns, rfl, rfl, hw, hpo, hrs, hln⟩ := parse_back hp
      refine q_asgP (i := 1) (ep_law_in (ea_cons (ev_var rfl) ea_nil) hl hp) fun T1 r1 H1 nT1 nr1 ne1 e1 g1 g2 => ?_
      refine q_skip (b := false) (et_is (et_test (ev_isN (x := .ref T1) (ev_var rfl) ev_c)) (decide_eq_false fun z => by cases z)) rfl fun H2 e2 => ?_
      refine q_asgP (i := 2) (ep_read (ea_cons (ev_var rfl) ea_nil) hl hp) fun T2 r2 H3 nT2 nr2 ne2 e3 g3 g4 => ?_
      have g1 := (e2.trans e3) _ _ g1
      have g2 := (e2.trans e3) _ _ g2
      refine q_skip (b := false) (et_is (et_or (b := false) (et_not (et_B (isi_any (b := true) (ev_var rfl) (fun _ e => .base (.tup (e _ _ g3))) (kit_ty (by decide +kernel))))) fun _ => et_is (et_or (b := false) (et_test (ev_neP (epr_var rfl g3 g4) (epr_var rfl g1 g2))) fun _ => et_is (et_test (ev_neSb (ev_written (q := qn) (ns := ns) (eps_cons mono_is (ep_v (ev_ixTvar rfl (st_of g3) ev_c (atI_nat (j := 0) rfl))) (eps_cons mono_l (ep_l (er_v (ev_ixTvar rfl (st_of g3) ev_c (atI_nat (j := 1) rfl)) (sq_of g4))) eps_nil)) hpo hrs (by omega)) (ev_var rfl))) ?_) ?_) rfl) rfl fun H4 e4 => ?_
      · rw [← hw, decide_eq_true rfl]
        rfl
      · rw [decide_eq_true rfl, decide_eq_true rfl]
        rfl
      have g1 := e4 _ _ g1
      have g2 := e4 _ _ g2
      have g3 := e4 _ _ g3
      have g4 := e4 _ _ g4
      have n2 : H1 r2 = none := fresh_back e2 nr2
      have d1 : T1 ≠ r2 := ne_of_none ((fun b o h => h : Ex H1 H1) _ _ ‹H1 T1 = _›) n2
      have d2 : r1 ≠ r2 := ne_of_none ‹H1 r1 = _› n2
      refine q_app (l := r2) g4 (ev_ixTvar rfl (st_of g3) ev_c (atI_nat (j := 1) rfl)) ev_c (by rw [il_len, List.length_map]; omega) fun H5 e5 => ?_
      have E5 : Ex H (upd H5 r2 (.lst (il (nl ns) ++ [.int 0]))) := Ex.mut ((((e1.trans e2).trans e3).trans e4).trans e5) (fresh_back (e1.trans e2) nr2)
      have k1 : (upd H5 r2 (.lst (il (nl ns) ++ [.int 0]))) T1 = _ := (upd_ne d1).trans (e5 _ _ g1)
      have k2 : (upd H5 r2 (.lst (il (nl ns) ++ [.int 0]))) r1 = _ := (upd_ne d2).trans (e5 _ _ g2)
      refine s_ret (v := .bl true) (ev_is (ev_eqP (epr_of (ep_read (ea_cons (ev_var rfl) ea_nil) hl hp)) (epr_var rfl k1 k2)) ?_) fun H6 e6 => q H6 (E5.trans e6)
      rw [decide_eq_true rfl, decide_eq_true rfl]
      rfl
/-! _law_few -/
def sp__law_few (K : PySem.W.Frag) : Sp := fun vs H Q _ => vs = [] ∧ ∀ ts : List Str, (∀ t ∈ ts, t.length ≤ 5000) → ts.length ≤ 100 → RetL (ts.map V.str) H Q
theorem ep_fewT {K : PySem.W.Frag} {σ : L2.St} {H : Hp} {E : XK} : EvP (tCall (sp__law_few K) [] E tNil) σ H (wThings K wTxt) := fun H1 e Q q => ⟨rfl, fun ts h1 h2 p H2 _ e2 hp => q _ H2 e2 ⟨p, ts.map V.str, rfl, sq_of hp, by rw [List.length_map]; omega, fun x hx => by
  obtain ⟨t, ht, rfl⟩ := List.mem_map.mp hx
  exact ⟨t, rfl, h1 t ht⟩⟩⟩
theorem ok__law_few (T : Txt K mg) : FnOk P w K mg base CX0 1 T.a__law_few T.f__law_few [] (sp__law_few K) := by
  refine T.F__law_few.ok sc__law_few (fun vs H Q E h => ?_) (fun cdv A outer s H vs Q E hr h => ?_)
  · rw [h.1]
    rfl
  · obtain ⟨rfl, q⟩ := h
    rw [show start ["_law_some"] [] = [none] from rfl]
    refine ⟨_, (pss_cons (ps_set (i := 0) sc__law_few.nd rfl (.inl rfl) (pe_lst (pa_cons pe_str (pa_cons pe_str (pa_cons pe_str (pa_cons pe_str (pa_cons pe_str (pa_cons pe_str (pa_cons pe_str (pa_cons pe_str (pa_cons pe_str (pa_cons pe_str (pa_cons pe_str (pa_cons pe_str (pa_cons pe_str (pa_cons pe_str pa_nil))))))))))))))))
      (pss_cons (ps_expr (x_append K rfl (pv 0) (pa_cons pe_str pa_nil)))
      (pss_cons (ps_set (i := 0) sc__law_few.nd rfl (.inl rfl) (pe_op op_cat (pv 0) (pe_lst (pa_cons pe_str (pa_cons pe_str (pa_cons pe_str (pa_cons pe_str (pa_cons pe_str (pa_cons pe_str (pa_cons pe_str (pa_cons pe_str (pa_cons pe_str (pa_cons pe_str pa_nil)))))))))))))
      (pss_cons (ps_set (i := 0) sc__law_few.nd rfl (.inl rfl) (pe_op op_cat (pv 0) (pe_lst (pa_cons pe_str (pa_cons pe_str (pa_cons pe_str (pa_cons pe_str (pa_cons pe_str (pa_cons pe_str (pa_cons pe_str (pa_cons pe_str (pa_cons pe_str (pa_cons pe_str pa_nil)))))))))))))
      (pss_cons (ps_set (i := 0) sc__law_few.nd rfl (.inl rfl) (pe_op op_cat (pv 0) (pe_lst (pa_cons pe_str (pa_cons pe_str pa_nil)))))
      (pss_one (ps_ret (pe_op op_cat (pv 0) (pe_lst (pa_cons pe_str (pa_cons (x_catS (x_mulS pe_str pe_int) pe_str) (pa_cons (x_catS pe_str (x_mulS pe_str pe_int)) pa_nil)))))))))))), ?_⟩
    refine q_asgL (i := 0) (el_lst (ea_cons ev_c (ea_cons ev_c (ea_cons ev_c (ea_cons ev_c (ea_cons ev_c (ea_cons ev_c (ea_cons ev_c (ea_cons ev_c (ea_cons ev_c (ea_cons ev_c (ea_cons ev_c (ea_cons ev_c (ea_cons ev_c (ea_cons ev_c ea_nil)))))))))))))) (by simp)) fun l1 H1 n1 e1 h1 => ?_
    refine q_app (l := l1) h1 (ev_var rfl) ev_c (by simp) fun H2 e2 => ?_
    refine q_asgL (i := 0) (el_cat (em_var rfl upd_same) (em_of_l (el_lst (ea_cons ev_c (ea_cons ev_c (ea_cons ev_c (ea_cons ev_c (ea_cons ev_c (ea_cons ev_c (ea_cons ev_c (ea_cons ev_c (ea_cons ev_c (ea_cons ev_c ea_nil)))))))))) (by simp))) (by simp)) fun l3 H3 n3 e3 h3 => ?_
    refine q_asgL (i := 0) (el_cat (em_var rfl h3) (em_of_l (el_lst (ea_cons ev_c (ea_cons ev_c (ea_cons ev_c (ea_cons ev_c (ea_cons ev_c (ea_cons ev_c (ea_cons ev_c (ea_cons ev_c (ea_cons ev_c (ea_cons ev_c ea_nil)))))))))) (by simp))) (by simp)) fun l4 H4 n4 e4 h4 => ?_
    refine q_asgL (i := 0) (el_cat (em_var rfl h4) (em_of_l (el_lst (ea_cons ev_c (ea_cons ev_c ea_nil)) (by simp))) (by simp)) fun l5 H5 n5 e5 h5 => ?_
    have m9 : MulOk (Str.ofString "9") 4000 := by
      unfold MulOk
      decide +kernel
    have m4 : MulOk (Str.ofString "4") 4000 := by
      unfold MulOk
      decide +kernel
    have l9 : (Txt.mul (Str.ofString "9") 4000).length ≤ 4000 := len_mul_leN (L := 1) (N := 4000) (by decide +kernel) (by omega)
    have l4 : (Txt.mul (Str.ofString "4") 4000).length ≤ 4000 := len_mul_leN (L := 1) (N := 4000) (by decide +kernel) (by omega)
    have la : (Str.ofString ": 0").length = 3 := by decide +kernel
    have lb : (Str.ofString "5: ").length = 3 := by decide +kernel
    have E5 : Ex H H5 := (((Ex.mut (e1.trans e2) n1).trans e3).trans e4).trans e5
    refine s_retL (el_cat (em_var rfl h5) (em_of_l (el_lst (ea_cons ev_c (ea_cons (ev_catS (ev_mulS ev_c ev_c m9) ev_c (by omega)) (ea_cons (ev_catS ev_c (ev_mulS ev_c ev_c m4) (by omega)) ea_nil))) (by simp))) (by simp)) fun l6 H6 n6 e6 h6 => ?_
    clear m9 m4
    revert h6 l9 l4
    generalize Txt.mul (Str.ofString "9") 4000 = t9
    generalize Txt.mul (Str.ofString "4") 4000 = t4
    intro l4 l9 h6
    have few : ∀ t ∈ ([Str.ofString "", Str.ofString ":", Str.ofString " ", Str.ofString "2", Str.ofString "2:", Str.ofString "2: ", Str.ofString "2: 0", Str.ofString "2:0", Str.ofString "2: 1 0 1", Str.ofString "2: 2", Str.ofString "2:  0", Str.ofString "2: 0 ", Str.ofString " 2: 0", Str.ofString "2 : 0", Str.ofString "4: 0", Str.ofString "1: 0", Str.ofString "0:", Str.ofString "9: 0", Str.ofString "997: 996", Str.ofString "997: 997", Str.ofString "961: 0", Str.ofString "991: 990", Str.ofString "1009: 0", Str.ofString "02: 0", Str.ofString "2: 00", Str.ofString "2: -0", Str.ofString "-2: 0", Str.ofString "2: 1,0", Str.ofString "2: 0\n", Str.ofString "2:\t0", Str.ofString "\n2: 0", Str.ofString "2: 0: 1", Str.ofString "2:: 0", Str.ofString "5: 1_0", Str.ofString "5: +1", Str.ofString "3: 01", Str.ofString "x: 0", Str.ofString "2: x"] : List Str), t.length ≤ 5000 := by decide +kernel
    refine q ([Str.ofString "", Str.ofString ":", Str.ofString " ", Str.ofString "2", Str.ofString "2:", Str.ofString "2: ", Str.ofString "2: 0", Str.ofString "2:0", Str.ofString "2: 1 0 1", Str.ofString "2: 2", Str.ofString "2:  0", Str.ofString "2: 0 ", Str.ofString " 2: 0", Str.ofString "2 : 0", Str.ofString "4: 0", Str.ofString "1: 0", Str.ofString "0:", Str.ofString "9: 0", Str.ofString "997: 996", Str.ofString "997: 997", Str.ofString "961: 0", Str.ofString "991: 990", Str.ofString "1009: 0", Str.ofString "02: 0", Str.ofString "2: 00", Str.ofString "2: -0", Str.ofString "-2: 0", Str.ofString "2: 1,0", Str.ofString "2: 0\n", Str.ofString "2:\t0", Str.ofString "\n2: 0", Str.ofString "2: 0: 1", Str.ofString "2:: 0", Str.ofString "5: 1_0", Str.ofString "5: +1", Str.ofString "3: 01", Str.ofString "x: 0", Str.ofString "2: x"] ++ [t9 ++ Str.ofString ": 0", Str.ofString "5: " ++ t4]) (fun t ht => (List.mem_append.1 ht).elim (few t) fun h2 => ?_) (by simp) l6 H6 (fresh_back E5 n6) (E5.trans e6) h6
    rcases List.mem_cons.1 h2 with rfl | h2
    · rw [Str.length_append]; omega
    rcases List.mem_cons.1 h2 with rfl | h2
    · rw [Str.length_append]; omega
    exact absurd h2 (by simp)
/-! law -/
def sp_law (K : PySem.W.Frag) : Sp := fun vs H Q _ => ∃ (a : Addr) (ns : List Int), vs = [.ref a] ∧ SqL K H a (il ns) ∧ ns.length ≤ 63 ∧ ∀ H', Q (.bl true) H'
theorem law_start {K : PySem.W.Frag} {H : Hp} {a : Addr} {ns : List Int} {E : XK} (hl : ns.length ≤ 63) (hS : SqL K H a (ns.map V.int)) : sp_law K [.ref a] H (fun v _ => v = .bl true) E := ⟨a, ns, rfl, hS, hl, fun _ => rfl⟩
theorem ok_law (T : Txt K mg) : FnOk P w K mg base CX0 7 T.a_law T.f_law ["_law_script"] (sp_law K) := by
  refine T.F_law.ok sc_law (fun vs H Q E h => ?_) (fun cdv A outer s H vs Q E hr h => ?_)
  · obtain ⟨a, ns, rfl, _⟩ := h
    rfl
  · obtain ⟨a, ns, rfl, hS, hlen, q⟩ := h
    rw [show start ["_law_script", "_law_prime_here", "_law_row_here", "_law_text", "_law_handed", "_law_cell", "_law_k", "_law_at", "_law_sign", "_law_number_here", "_law_other", "_law_thing"] [.ref a] = [some (.ref a), none, none, none, none, none, none, none, none, none, none, none] from rfl]
    refine ⟨_, (pss_cons (ps_set (i := 1) sc_law.nd rfl (.inl rfl) (pe_call (ok__law_prime T) (hr.mono (by decide)) (by rfl) T.g__law_prime T.F__law_prime.kp T.b__law_prime .nil pass0 (pa_cons (pv 0) pa_nil)))
      (pss_cons (ps_set (i := 2) sc_law.nd rfl (.inl rfl) (pe_call (ok__law_row T) (hr.mono (by decide)) (by rfl) T.g__law_row T.F__law_row.kp T.b__law_row .nil pass0 (pa_cons (pv 0) (pa_cons (pv 1) pa_nil))))
      (pss_cons (ps_set (i := 3) sc_law.nd rfl (.inl rfl) (x_catS (x_catS (x_str T.n_str (by rfl) (pa_cons (pv 1) pa_nil)) pe_str) (x_join K rfl pe_str (pe_lc (own := [("_law_number_here", 9)]) (g := (gName 9)) (tt := tYes) rfl sc_law.nd (xi_list K rfl (pv 2)) (blkOk_by (N := ["_law_script", "_law_prime_here", "_law_row_here", "_law_text", "_law_handed", "_law_cell", "_law_k", "_law_at", "_law_sign", "_law_number_here", "_law_other", "_law_thing"]) (sc := defScope s_law) (by decide +kernel)) (fun _ _ _ _ _ => (pg_name (i := 9) sc_law.nd rfl (Or.inl rfl))) (fun _ _ _ _ _ => pts_nil) (fun _ _ _ _ _ => (x_catS pe_str (x_str T.n_str (by rfl) (pa_cons (pv 9) pa_nil))))))))
      (pss_cons (ps_set (i := 4) sc_law.nd rfl (.inl rfl) (x_list K rfl T.n_list (by rfl) (pa_cons (pv 2) pa_nil)))
      (pss_cons (ps_if (PW.pt (pw_or (pt_cmpR op_ne (pe_call (ok_written T) (hr.mono (by decide)) (by rfl) T.g_written T.F_written.kp T.b_written .nil pass0 (pa_cons (pv 1) (pa_cons (pv 4) pa_nil))) (pv 3) (nomark _)) (pw_or (x_neDt K rfl hr.units (pv 4) (pv 2)) (pw_or1 (pt_not (pt_val (pe_call (ok__law_right T) (hr.mono (by decide)) (by rfl) T.g__law_right T.F__law_right.kp T.b__law_right .nil pass0 (pa_cons (pv 3) pa_nil)))))))) (pss_one (ps_ret pe_bl)) pss_nil)
      (pss_cons (ps_set (i := 5) sc_law.nd rfl (.inl rfl) (pe_op op_add (pe_call (ok__law_cell_at T) (hr.mono (by decide)) (by rfl) T.g__law_cell_at T.F__law_cell_at.kp T.b__law_cell_at .nil pass0 (pa_cons (pv 0) (pa_cons pe_int pa_nil))) (pe_op op_mul pe_int (pe_call (ok__law_cell_at T) (hr.mono (by decide)) (by rfl) T.g__law_cell_at T.F__law_cell_at.kp T.b__law_cell_at .nil pass0 (pa_cons (pv 0) (pa_cons pe_int pa_nil))))))
      (pss_cons (ps_for PassesOwn.never rfl (pi_range1 (by rfl) T.n_range (pa_cons pe_int pa_nil)) (pg_name (i := 6) sc_law.nd rfl (.inl rfl)) (pss_cons (ps_set (i := 7) sc_law.nd rfl (.inl rfl) (pe_call (ok__law_draw T) (hr.mono (by decide)) (by rfl) T.g__law_draw T.F__law_draw.kp T.b__law_draw .nil pass0 (pa_cons (pe_op op_add (pv 5) (pv 6)) (pa_cons pe_int (pa_cons (pe_op op_add (x_lenS T.n_len (by rfl) (pa_cons (pv 3) pa_nil)) pe_int) pa_nil)))))
      (pss_cons (ps_set (i := 8) sc_law.nd rfl (.inl rfl) (x_ixT K rfl (pe_tup (pa_cons pe_str (pa_cons (pe_ix ix_str pe_str (pe_call (ok__law_draw T) (hr.mono (by decide)) (by rfl) T.g__law_draw T.F__law_draw.kp T.b__law_draw .nil pass0 (pa_cons (pe_op op_add (pv 5) (pv 6)) (pa_cons pe_int (pa_cons pe_int pa_nil)))) (fun _ _ => rfl)) pa_nil))) (pe_call (ok__law_draw T) (hr.mono (by decide)) (by rfl) T.g__law_draw T.F__law_draw.kp T.b__law_draw .nil pass0 (pa_cons (pe_op op_add (pv 5) (pv 6)) (pa_cons pe_int (pa_cons pe_int pa_nil)))) (fun _ _ => rfl)))
      (pss_one (ps_if (pt_not (pt_val (pe_call (ok__law_right T) (hr.mono (by decide)) (by rfl) T.g__law_right T.F__law_right.kp T.b__law_right .nil pass0 (pa_cons (x_catS (x_catS (pe_slice sl_str (pv 3) po_none (po_some (pv 7))) (pv 8)) (pe_slice sl_str (pv 3) (po_some (pe_op op_add (pv 7) (pe_call (ok__law_draw T) (hr.mono (by decide)) (by rfl) T.g__law_draw T.F__law_draw.kp T.b__law_draw .nil pass0 (pa_cons (pe_op op_add (pv 5) (pv 6)) (pa_cons pe_int (pa_cons pe_int pa_nil)))))) po_none)) pa_nil)))) (pss_one (ps_ret pe_bl)) pss_nil)))))
      (pss_cons (ps_if (pt_not (pt_val (x_all K rfl rfl T.n_all (by rfl) (pa_cons (pe_lc (own := [("_law_other", 10)]) (g := (gName 10)) (tt := tYes) rfl sc_law.nd (xi_list K rfl (pe_call0 (ok__law_few T) (hr.mono (by decide)) (by rfl) T.g__law_few T.F__law_few.kp T.b__law_few .nil pass0)) (blkOk_by (N := ["_law_script", "_law_prime_here", "_law_row_here", "_law_text", "_law_handed", "_law_cell", "_law_k", "_law_at", "_law_sign", "_law_number_here", "_law_other", "_law_thing"]) (sc := defScope s_law) (by decide +kernel)) (fun _ _ _ _ _ => (pg_name (i := 10) sc_law.nd rfl (Or.inl rfl))) (fun _ _ _ _ _ => pts_nil) (fun _ _ _ _ _ => (pe_call (ok__law_right T) (hr.mono (by decide)) (by rfl) T.g__law_right T.F__law_right.kp T.b__law_right .nil pass0 (pa_cons (pv 10) pa_nil)))) pa_nil)))) (pss_one (ps_ret pe_bl)) pss_nil)
      (pss_one (ps_ret (x_all K rfl rfl T.n_all (by rfl) (pa_cons (pe_lc (own := [("_law_thing", 11)]) (g := (gName 11)) (tt := tYes) rfl sc_law.nd (xi_list K rfl (pe_lst (pa_cons pe_non (pa_cons pe_int (pa_cons (pe_lst (pa_cons pe_str pa_nil)) (pa_cons pe_bl pa_nil)))))) (blkOk_by (N := ["_law_script", "_law_prime_here", "_law_row_here", "_law_text", "_law_handed", "_law_cell", "_law_k", "_law_at", "_law_sign", "_law_number_here", "_law_other", "_law_thing"]) (sc := defScope s_law) (by decide +kernel)) (fun _ _ _ _ _ => (pg_name (i := 11) sc_law.nd rfl (Or.inl rfl))) (fun _ _ _ _ _ => pts_nil) (fun _ _ _ _ _ => (pe_call (ok__law_refused T) (hr.mono (by decide)) (by rfl) T.g__law_refused T.F__law_refused.kp T.b__law_refused .nil pass0 (pa_cons (pv 11) pa_nil)))) pa_nil)))))))))))), ?_⟩
    have hpg := lawPrime_good ns
    have p2 := hpg.two
    have p9 := hpg.most
    obtain ⟨qn, hq⟩ : ∃ qn : Nat, lawPrime ns = (qn : Int) := ⟨(lawPrime ns).toNat, by omega⟩
    have Rr : Rs (lawPrime ns) (lawRow ns (lawPrime ns)) := lawRow_rs hpg.pos
    have Rl := lawRow_len ns (lawPrime ns)
    obtain ⟨rr, hrr⟩ := nl_g (lawRow ns (lawPrime ns)) (fun m hm => (Rr m hm).1)
    refine q_asg (i := 1) (v := .int (lawPrime ns)) ?_ fun H1 e1 => ?_
    · walk_at "ev"
    have hS1 := ex_l e1 hS
    refine q_asgL (i := 2) (xs := il (nl rr)) ?_ fun ra H2 nra e2 hra => ?_
    · rw [← hrr]
      walk_at "ev"
      all_goals exact ⟨hpg, hlen⟩
    have hS2 := ex_l e2 hS1
    have hok := good_ok hpg
    rw [hrr] at Rr Rl
    rw [hq] at Rr hok ⊢
    have ql : qn < 1000 := by omega
    have nlt := rests_lt hok Rr
    have rl : rr.length ≤ 63 := by rw [List.length_map] at Rl; omega
    have wl := writeL_len ql nlt
    refine q_asg (i := 3) (v := .str (SX.S (writeL qn rr))) (ev_text (ev_var rfl) ql (er_var rfl (sq_of hra)) (by omega) nlt (fun _ => rfl) (fun _ => rfl)) fun H3 e3 => ?_
    have hra3 := e3 _ _ hra
    refine q_asgL (i := 4) (xs := il (nl rr)) (el_listR (er_var rfl (sq_of hra3))) fun ka H4 nka e4 hka => ?_
    have hra4 := e4 _ _ hra3
    have hS4 := ex_l (e3.trans e4) hS2
    refine q_skip (b := false) (et_is (et_or (b := false) (et_test (ev_neSb (ev_written (q := qn) (ns := rr) (eps_cons mono_is (ep_v (ev_var rfl)) (eps_cons mono_l (ep_l (er_var rfl (sq_of hka))) eps_nil)) hok Rr (by omega)) (ev_var rfl))) fun _ => et_is (et_or (b := false) (et_test (ev_neL (er_var rfl (sq_of hka)) (er_var rfl (sq_of hra4)))) fun _ => et_is (et_not (et_B (ev_right (ea_cons (ev_var rfl) ea_nil) (by rw [sx_len]; omega)))) rfl) ?_) ?_) rfl fun H5 e5 => ?_
    · rw [decide_eq_true rfl]
      rfl
    · rw [decide_eq_true rfl]
      rfl
    have hS5 := ex_l e5 hS4
    refine q_asg (i := 5) (v := .int (g ns (Int.toNat 3) + 7 * g ns (Int.toNat 0))) ?_ fun H6 e6 => ?_
    · walk_at "ev"
    obtain ⟨CE, hCE⟩ : ∃ z, g ns (Int.toNat 3) + 7 * g ns (Int.toNat 0) = z := ⟨_, rfl⟩
    rw [hCE]
    have tl : (SX.S (writeL qn rr)).length ≤ 300 := by rw [sx_len]; omega
    refine q_forR1 (j := 6) (n := 2) (by walk_at "ev") (by omega) (fun i σ' H' => ∃ x6 x7 x8, σ' = [some (.ref a), some (.int (qn : Int)), some (.ref ra), some (.str (SX.S (writeL qn rr))), some (.ref ka), some (.int CE), x6, x7, x8, none, none, none] ∧ Ex H6 H') (fun H7 e7 => ⟨_, _, _, rfl, e7⟩) ?_ ?_
    · rintro i σ' H7 hi ⟨x6, x7, x8, rfl, e7⟩
      have d1 := draw_in (c := CE + (i : Int)) (k := 1) (m := ((SX.S (writeL qn rr)).length : Int) + 1) (by omega)
      have d2 := draw_in (c := CE + (i : Int)) (k := 2) (m := 15) (by omega)
      have d3 := draw_in (c := CE + (i : Int)) (k := 3) (m := 2) (by omega)
      refine q_asg (i := 7) (v := .int (draw (CE + (i : Int)) 1 (((SX.S (writeL qn rr)).length : Int) + 1))) (ev__law_draw (eas_v (ev_add (ev_var rfl) (ev_var rfl)) (eas_v ev_c (eas_v (ev_add (ev_lenS (ev_var rfl) (by omega)) ev_c) eas_nil))) (by omega)) fun H8 e8 => ?_
      obtain ⟨AT, hAT⟩ : ∃ z, draw (CE + (i : Int)) 1 (((SX.S (writeL qn rr)).length : Int) + 1) = z := ⟨_, rfl⟩
      rw [hAT]
      obtain ⟨c, hc⟩ := signs_at d2
      obtain ⟨sg, hsg, sgl⟩ := two_at (s := ⟨#[c]⟩) d3 (by show (1 : Nat) ≤ 1; omega)
      refine q_asg (i := 8) (v := .str sg) (ev_ixU (eu_tup (ea_cons ev_c (ea_cons (ev_ixS ev_c (ev__law_draw (eas_v (ev_add (ev_var rfl) (ev_var rfl)) (eas_v ev_c (eas_v ev_c eas_nil))) (by omega)) (by decide +kernel) hc) ea_nil)) (by simp)) (ev__law_draw (eas_v (ev_add (ev_var rfl) (ev_var rfl)) (eas_v ev_c (eas_v ev_c eas_nil))) (by omega)) hsg) fun H9 e9 => ?_
      have l1 := cutS_length (SX.S (writeL qn rr)) none (some AT)
      have l2 := cutS_length (SX.S (writeL qn rr)) (some (AT + draw (CE + (i : Int)) 4 2)) none
      have l3 : (cutS (SX.S (writeL qn rr)) none (some AT) ++ sg).length ≤ 301 := by
        rw [Str.length_append]
        omega
      refine s_skip (b := false) (et_is (et_not (et_B (ev_right (ea_cons (ev_catS (ev_catS (ev_slS (ev_var rfl) eo_none (eo_some (ev_var rfl)) (by omega)) (ev_var rfl) (by omega)) (ev_slS (ev_var rfl) (eo_some (ev_add (ev_var rfl) (ev__law_draw (eas_v (ev_add (ev_var rfl) (ev_var rfl)) (eas_v ev_c (eas_v ev_c eas_nil))) (by omega)))) eo_none (by omega)) (by omega)) ea_nil) ?_))) rfl) rfl fun H10 e10 => ⟨_, _, _, rfl, ((e7.trans e8).trans e9).trans e10⟩
      rw [Str.length_append]
      omega
    rintro σ' H7 ⟨x6, x7, x8, rfl, e7⟩
    refine q_skip (b := false) (et_is (et_not (et_B (ev_allT (ep_lcT ep_fewT (fun _ => rfl) fun x H8 e8 hx => ?_)))) rfl) rfl fun H8 e8 => ?_
    · obtain ⟨s, rfl, hs⟩ := hx
      exact ev_right (ea_cons (ev_var rfl) ea_nil) (by omega)
    refine s_ret (v := .bl true) (ev_allT (ep_lcT (φ := (fun x H => NoS K H x)) (ep_things (φs := List.replicate 4 (fun x H => NoS K H x)) (fun ψ h => by rw [rep_mem h]; exact fun v G G' e w => NoS.up w e) (show EvPs _ _ _ [(fun x H => NoS K H x), (fun x H => NoS K H x), (fun x H => NoS K H x), (fun x H => NoS K H x)] from (eps_cons (fun v G G2 e w => NoS.up w e) ((ep_v ev_c).imp fun v G w => by rw [show v = _ from w]; exact .non) (eps_cons (fun v G G2 e w => NoS.up w e) ((ep_v ev_c).imp fun v G w => by rw [show v = _ from w]; exact .int _) (eps_cons (fun v G G2 e w => NoS.up w e) ((ep_m (em_of_l (el_lst (ea_cons ev_c ea_nil) (by simp)))).imp fun v G w => by obtain ⟨p, e, hp⟩ := w; rw [e]; exact .lst (sq_of hp)) (eps_cons (fun v G G2 e w => NoS.up w e) ((ep_v ev_c).imp fun v G w => by rw [show v = _ from w]; exact .bl _) eps_nil))))) (by simp) (fun ψ h y G w => by rw [rep_mem h] at w; exact w)) (fun _ => rfl) fun x H9 e9 hx => ev_refused (ea_cons (ev_var rfl) ea_nil) fun G2 g2 => .inr (NoS.up hx g2))) fun H9 e9 => q H9
end
def txt_mk {K : PySem.W.Frag} {h : Heap} {mg : Str → Option Value} (X : K.In h) (G : h.Ns mainGlobals mg)
    {x_is_whole : Addr} {od_is_whole an_is_whole : Option Addr} {sl_is_whole : Array (Option Value)} {oc_is_whole kV_is_whole dc_is_whole pm_is_whole cd_is_whole ct_is_whole : Value}
    {x_check_prime : Addr} {od_check_prime an_check_prime : Option Addr} {sl_check_prime : Array (Option Value)} {oc_check_prime kV_check_prime dc_check_prime pm_check_prime cd_check_prime ct_check_prime : Value}
    {x_are_rests : Addr} {od_are_rests an_are_rests : Option Addr} {sl_are_rests : Array (Option Value)} {oc_are_rests kV_are_rests dc_are_rests pm_are_rests cd_are_rests ct_are_rests : Value}
    {x_check_row : Addr} {od_check_row an_check_row : Option Addr} {sl_check_row : Array (Option Value)} {oc_check_row kV_check_row dc_check_row pm_check_row cd_check_row ct_check_row : Value}
    {x__law_cell_at : Addr} {od__law_cell_at an__law_cell_at : Option Addr} {sl__law_cell_at : Array (Option Value)} {oc__law_cell_at kV__law_cell_at dc__law_cell_at pm__law_cell_at cd__law_cell_at ct__law_cell_at : Value}
    {x__law_draw : Addr} {od__law_draw an__law_draw : Option Addr} {sl__law_draw : Array (Option Value)} {oc__law_draw kV__law_draw dc__law_draw pm__law_draw cd__law_draw ct__law_draw : Value}
    {x__law_prime : Addr} {od__law_prime an__law_prime : Option Addr} {sl__law_prime : Array (Option Value)} {oc__law_prime kV__law_prime dc__law_prime pm__law_prime cd__law_prime ct__law_prime : Value}
    {x__law_rests : Addr} {od__law_rests an__law_rests : Option Addr} {sl__law_rests : Array (Option Value)} {oc__law_rests kV__law_rests dc__law_rests pm__law_rests cd__law_rests ct__law_rests : Value}
    {x__law_due : Addr} {od__law_due an__law_due : Option Addr} {sl__law_due : Array (Option Value)} {oc__law_due kV__law_due dc__law_due pm__law_due cd__law_due ct__law_due : Value}
    {x__law_row : Addr} {od__law_row an__law_row : Option Addr} {sl__law_row : Array (Option Value)} {oc__law_row kV__law_row dc__law_row pm__law_row cd__law_row ct__law_row : Value}
    {x_written : Addr} {od_written an_written : Option Addr} {sl_written : Array (Option Value)} {oc_written kV_written dc_written pm_written cd_written ct_written : Value}
    {x_number_in : Addr} {od_number_in an_number_in : Option Addr} {sl_number_in : Array (Option Value)} {oc_number_in kV_number_in dc_number_in pm_number_in cd_number_in ct_number_in : Value}
    {x__law_number : Addr} {od__law_number an__law_number : Option Addr} {sl__law_number : Array (Option Value)} {oc__law_number kV__law_number dc__law_number pm__law_number cd__law_number ct__law_number : Value}
    {x_read : Addr} {od_read an_read : Option Addr} {sl_read : Array (Option Value)} {oc_read kV_read dc_read pm_read cd_read ct_read : Value}
    {x__law_in : Addr} {od__law_in an__law_in : Option Addr} {sl__law_in : Array (Option Value)} {oc__law_in kV__law_in dc__law_in pm__law_in cd__law_in ct__law_in : Value}
    {x__law_refused : Addr} {od__law_refused an__law_refused : Option Addr} {sl__law_refused : Array (Option Value)} {oc__law_refused kV__law_refused dc__law_refused pm__law_refused cd__law_refused ct__law_refused : Value}
    {x__law_right : Addr} {od__law_right an__law_right : Option Addr} {sl__law_right : Array (Option Value)} {oc__law_right kV__law_right dc__law_right pm__law_right cd__law_right ct__law_right : Value}
    {x__law_few : Addr} {od__law_few an__law_few : Option Addr} {sl__law_few : Array (Option Value)} {oc__law_few kV__law_few dc__law_few pm__law_few cd__law_few ct__law_few : Value}
    {x_law : Addr} {od_law an_law : Option Addr} {sl_law : Array (Option Value)} {oc_law kV_law dc_law pm_law cd_law ct_law : Value}
    {x_RuleError : Addr}
    {x_BadPrime : Addr}
    {x_BadRow : Addr}
    {x_BadRule : Addr}
    {x_BadPlace : Addr}
    {x_TooFew : Addr}
    {x_NoWay : Addr}
    {x_BadText : Addr}
    {u_GREATEST : Tok}
    {u_FIGURES : Tok}
    (ac_RuleError : PySem.W.nsIn K mainGlobals "RuleError" = some (some (.ref x_RuleError)))
    (ac_BadPrime : PySem.W.nsIn K mainGlobals "BadPrime" = some (some (.ref x_BadPrime)))
    (xk_BadPrime : PySem.W.excIn K x_BadPrime [.type "ValueError", .type "Exception", .type "BaseException", .type "object"] "ValueError.__new__" = true)
    (kc_BadPrime : PySem.W.keepIn K (.ref x_BadPrime) = true)
    (q1_BadPrime : PySem.W.findIn K (.ref x_BadPrime) "__getattribute__" = some (some (.builtin "BaseException.__getattribute__")))
    (q2_BadPrime : PySem.W.findIn K (.ref x_BadPrime) "__getattr__" = some none)
    (q3_BadPrime : PySem.W.findIn K (.ref x_BadPrime) "__class__" = some (some (.builtin "object.__class__")))
    (q4_BadPrime : PySem.W.mroIn K x_BadPrime (.type "object") = some true)
    (ac_BadRow : PySem.W.nsIn K mainGlobals "BadRow" = some (some (.ref x_BadRow)))
    (xk_BadRow : PySem.W.excIn K x_BadRow [.type "ValueError", .type "Exception", .type "BaseException", .type "object"] "ValueError.__new__" = true)
    (kc_BadRow : PySem.W.keepIn K (.ref x_BadRow) = true)
    (q1_BadRow : PySem.W.findIn K (.ref x_BadRow) "__getattribute__" = some (some (.builtin "BaseException.__getattribute__")))
    (q2_BadRow : PySem.W.findIn K (.ref x_BadRow) "__getattr__" = some none)
    (q3_BadRow : PySem.W.findIn K (.ref x_BadRow) "__class__" = some (some (.builtin "object.__class__")))
    (q4_BadRow : PySem.W.mroIn K x_BadRow (.type "object") = some true)
    (ac_BadRule : PySem.W.nsIn K mainGlobals "BadRule" = some (some (.ref x_BadRule)))
    (ac_BadPlace : PySem.W.nsIn K mainGlobals "BadPlace" = some (some (.ref x_BadPlace)))
    (ac_TooFew : PySem.W.nsIn K mainGlobals "TooFew" = some (some (.ref x_TooFew)))
    (ac_NoWay : PySem.W.nsIn K mainGlobals "NoWay" = some (some (.ref x_NoWay)))
    (ac_BadText : PySem.W.nsIn K mainGlobals "BadText" = some (some (.ref x_BadText)))
    (xk_BadText : PySem.W.excIn K x_BadText [.type "ValueError", .type "Exception", .type "BaseException", .type "object"] "ValueError.__new__" = true)
    (kc_BadText : PySem.W.keepIn K (.ref x_BadText) = true)
    (q1_BadText : PySem.W.findIn K (.ref x_BadText) "__getattribute__" = some (some (.builtin "BaseException.__getattribute__")))
    (q2_BadText : PySem.W.findIn K (.ref x_BadText) "__getattr__" = some none)
    (q3_BadText : PySem.W.findIn K (.ref x_BadText) "__class__" = some (some (.builtin "object.__class__")))
    (q4_BadText : PySem.W.mroIn K x_BadText (.type "object") = some true)
    (j2 : PySem.W.specialIn K (.builtin "object.__class__") "__get__" = some (some (.builtin "getset_descriptor.__get__")))
    (j3 : PySem.W.takesIn K (.builtin "object.__class__") = some true)
    (hd_BadPrime : PySem.W.hasDictIn K x_BadPrime = true)
    (sb_BadPrime : PySem.W.subIn K (.ref x_BadPrime) (.type "BaseException") = some true)
    (ty_BadPrime : PySem.W.typeIn K (.ref x_BadPrime) = some (.type "type"))
    (is_BadRow : PySem.W.isClsIn K x_BadRow = true)
    (ty_BadRow : PySem.W.typeIn K (.ref x_BadRow) = some (.type "type"))
    (sub_BadPrime_BadRow : PySem.W.subIn K (.ref x_BadPrime) (.ref x_BadRow) = some false)
    (ne_BadPrime_BadRow : x_BadPrime ≠ x_BadRow)
    (is_BadRule : PySem.W.isClsIn K x_BadRule = true)
    (ty_BadRule : PySem.W.typeIn K (.ref x_BadRule) = some (.type "type"))
    (sub_BadPrime_BadRule : PySem.W.subIn K (.ref x_BadPrime) (.ref x_BadRule) = some false)
    (ne_BadPrime_BadRule : x_BadPrime ≠ x_BadRule)
    (is_BadPlace : PySem.W.isClsIn K x_BadPlace = true)
    (ty_BadPlace : PySem.W.typeIn K (.ref x_BadPlace) = some (.type "type"))
    (sub_BadPrime_BadPlace : PySem.W.subIn K (.ref x_BadPrime) (.ref x_BadPlace) = some false)
    (ne_BadPrime_BadPlace : x_BadPrime ≠ x_BadPlace)
    (is_TooFew : PySem.W.isClsIn K x_TooFew = true)
    (ty_TooFew : PySem.W.typeIn K (.ref x_TooFew) = some (.type "type"))
    (sub_BadPrime_TooFew : PySem.W.subIn K (.ref x_BadPrime) (.ref x_TooFew) = some false)
    (ne_BadPrime_TooFew : x_BadPrime ≠ x_TooFew)
    (is_NoWay : PySem.W.isClsIn K x_NoWay = true)
    (ty_NoWay : PySem.W.typeIn K (.ref x_NoWay) = some (.type "type"))
    (sub_BadPrime_NoWay : PySem.W.subIn K (.ref x_BadPrime) (.ref x_NoWay) = some false)
    (ne_BadPrime_NoWay : x_BadPrime ≠ x_NoWay)
    (is_BadText : PySem.W.isClsIn K x_BadText = true)
    (ty_BadText : PySem.W.typeIn K (.ref x_BadText) = some (.type "type"))
    (sub_BadPrime_BadText : PySem.W.subIn K (.ref x_BadPrime) (.ref x_BadText) = some false)
    (ne_BadPrime_BadText : x_BadPrime ≠ x_BadText)
    (sub_BadPrime_ValueError : PySem.W.subIn K (.ref x_BadPrime) (.type "ValueError") = some true)
    (hd_RuleError : PySem.W.hasDictIn K x_RuleError = true)
    (sb_RuleError : PySem.W.subIn K (.ref x_RuleError) (.type "BaseException") = some true)
    (ty_RuleError : PySem.W.typeIn K (.ref x_RuleError) = some (.type "type"))
    (sub_BadPrime_RuleError : PySem.W.subIn K (.ref x_BadPrime) (.ref x_RuleError) = some true)
    (sub_BadPrime_BadPrime : PySem.W.subIn K (.ref x_BadPrime) (.ref x_BadPrime) = some true)
    (hd_BadRow : PySem.W.hasDictIn K x_BadRow = true)
    (sb_BadRow : PySem.W.subIn K (.ref x_BadRow) (.type "BaseException") = some true)
    (is_BadPrime : PySem.W.isClsIn K x_BadPrime = true)
    (sub_BadRow_BadPrime : PySem.W.subIn K (.ref x_BadRow) (.ref x_BadPrime) = some false)
    (ne_BadRow_BadPrime : x_BadRow ≠ x_BadPrime)
    (sub_BadRow_BadRule : PySem.W.subIn K (.ref x_BadRow) (.ref x_BadRule) = some false)
    (ne_BadRow_BadRule : x_BadRow ≠ x_BadRule)
    (sub_BadRow_BadPlace : PySem.W.subIn K (.ref x_BadRow) (.ref x_BadPlace) = some false)
    (ne_BadRow_BadPlace : x_BadRow ≠ x_BadPlace)
    (sub_BadRow_TooFew : PySem.W.subIn K (.ref x_BadRow) (.ref x_TooFew) = some false)
    (ne_BadRow_TooFew : x_BadRow ≠ x_TooFew)
    (sub_BadRow_NoWay : PySem.W.subIn K (.ref x_BadRow) (.ref x_NoWay) = some false)
    (ne_BadRow_NoWay : x_BadRow ≠ x_NoWay)
    (sub_BadRow_BadText : PySem.W.subIn K (.ref x_BadRow) (.ref x_BadText) = some false)
    (ne_BadRow_BadText : x_BadRow ≠ x_BadText)
    (sub_BadRow_ValueError : PySem.W.subIn K (.ref x_BadRow) (.type "ValueError") = some true)
    (sub_BadRow_RuleError : PySem.W.subIn K (.ref x_BadRow) (.ref x_RuleError) = some true)
    (sub_BadRow_BadRow : PySem.W.subIn K (.ref x_BadRow) (.ref x_BadRow) = some true)
    (hd_BadText : PySem.W.hasDictIn K x_BadText = true)
    (sb_BadText : PySem.W.subIn K (.ref x_BadText) (.type "BaseException") = some true)
    (sub_BadText_BadPrime : PySem.W.subIn K (.ref x_BadText) (.ref x_BadPrime) = some false)
    (ne_BadText_BadPrime : x_BadText ≠ x_BadPrime)
    (sub_BadText_BadRow : PySem.W.subIn K (.ref x_BadText) (.ref x_BadRow) = some false)
    (ne_BadText_BadRow : x_BadText ≠ x_BadRow)
    (sub_BadText_BadRule : PySem.W.subIn K (.ref x_BadText) (.ref x_BadRule) = some false)
    (ne_BadText_BadRule : x_BadText ≠ x_BadRule)
    (sub_BadText_BadPlace : PySem.W.subIn K (.ref x_BadText) (.ref x_BadPlace) = some false)
    (ne_BadText_BadPlace : x_BadText ≠ x_BadPlace)
    (sub_BadText_TooFew : PySem.W.subIn K (.ref x_BadText) (.ref x_TooFew) = some false)
    (ne_BadText_TooFew : x_BadText ≠ x_TooFew)
    (sub_BadText_NoWay : PySem.W.subIn K (.ref x_BadText) (.ref x_NoWay) = some false)
    (ne_BadText_NoWay : x_BadText ≠ x_NoWay)
    (sub_BadText_ValueError : PySem.W.subIn K (.ref x_BadText) (.type "ValueError") = some true)
    (sub_BadText_RuleError : PySem.W.subIn K (.ref x_BadText) (.ref x_RuleError) = some true)
    (a_is_whole : PySem.W.nsIn K mainGlobals "is_whole" = some (some (.ref x_is_whole)))
    (l_is_whole : K.lookup x_is_whole = some ⟨oc_is_whole, od_is_whole, .func (PySem.W.fnOf "is_whole" "is_whole" (defArgs s_is_whole) (defBody s_is_whole) (defScope s_is_whole) .none kV_is_whole dc_is_whole pm_is_whole an_is_whole cd_is_whole ct_is_whole), sl_is_whole⟩)
    (c_is_whole : PySem.W.codeIn K cd_is_whole "is_whole" = true)
    (k_is_whole : PySem.W.keepIn K (.ref x_is_whole) = true)
    (a_check_prime : PySem.W.nsIn K mainGlobals "check_prime" = some (some (.ref x_check_prime)))
    (l_check_prime : K.lookup x_check_prime = some ⟨oc_check_prime, od_check_prime, .func (PySem.W.fnOf "check_prime" "check_prime" (defArgs s_check_prime) (defBody s_check_prime) (defScope s_check_prime) .none kV_check_prime dc_check_prime pm_check_prime an_check_prime cd_check_prime ct_check_prime), sl_check_prime⟩)
    (c_check_prime : PySem.W.codeIn K cd_check_prime "check_prime" = true)
    (k_check_prime : PySem.W.keepIn K (.ref x_check_prime) = true)
    (a_are_rests : PySem.W.nsIn K mainGlobals "are_rests" = some (some (.ref x_are_rests)))
    (l_are_rests : K.lookup x_are_rests = some ⟨oc_are_rests, od_are_rests, .func (PySem.W.fnOf "are_rests" "are_rests" (defArgs s_are_rests) (defBody s_are_rests) (defScope s_are_rests) .none kV_are_rests dc_are_rests pm_are_rests an_are_rests cd_are_rests ct_are_rests), sl_are_rests⟩)
    (c_are_rests : PySem.W.codeIn K cd_are_rests "are_rests" = true)
    (k_are_rests : PySem.W.keepIn K (.ref x_are_rests) = true)
    (a_check_row : PySem.W.nsIn K mainGlobals "check_row" = some (some (.ref x_check_row)))
    (l_check_row : K.lookup x_check_row = some ⟨oc_check_row, od_check_row, .func (PySem.W.fnOf "check_row" "check_row" (defArgs s_check_row) (defBody s_check_row) (defScope s_check_row) .none kV_check_row dc_check_row pm_check_row an_check_row cd_check_row ct_check_row), sl_check_row⟩)
    (c_check_row : PySem.W.codeIn K cd_check_row "check_row" = true)
    (k_check_row : PySem.W.keepIn K (.ref x_check_row) = true)
    (a__law_cell_at : PySem.W.nsIn K mainGlobals "_law_cell_at" = some (some (.ref x__law_cell_at)))
    (l__law_cell_at : K.lookup x__law_cell_at = some ⟨oc__law_cell_at, od__law_cell_at, .func (PySem.W.fnOf "_law_cell_at" "_law_cell_at" (defArgs s__law_cell_at) (defBody s__law_cell_at) (defScope s__law_cell_at) .none kV__law_cell_at dc__law_cell_at pm__law_cell_at an__law_cell_at cd__law_cell_at ct__law_cell_at), sl__law_cell_at⟩)
    (c__law_cell_at : PySem.W.codeIn K cd__law_cell_at "_law_cell_at" = true)
    (k__law_cell_at : PySem.W.keepIn K (.ref x__law_cell_at) = true)
    (a__law_draw : PySem.W.nsIn K mainGlobals "_law_draw" = some (some (.ref x__law_draw)))
    (l__law_draw : K.lookup x__law_draw = some ⟨oc__law_draw, od__law_draw, .func (PySem.W.fnOf "_law_draw" "_law_draw" (defArgs s__law_draw) (defBody s__law_draw) (defScope s__law_draw) .none kV__law_draw dc__law_draw pm__law_draw an__law_draw cd__law_draw ct__law_draw), sl__law_draw⟩)
    (c__law_draw : PySem.W.codeIn K cd__law_draw "_law_draw" = true)
    (k__law_draw : PySem.W.keepIn K (.ref x__law_draw) = true)
    (a__law_prime : PySem.W.nsIn K mainGlobals "_law_prime" = some (some (.ref x__law_prime)))
    (l__law_prime : K.lookup x__law_prime = some ⟨oc__law_prime, od__law_prime, .func (PySem.W.fnOf "_law_prime" "_law_prime" (defArgs s__law_prime) (defBody s__law_prime) (defScope s__law_prime) .none kV__law_prime dc__law_prime pm__law_prime an__law_prime cd__law_prime ct__law_prime), sl__law_prime⟩)
    (c__law_prime : PySem.W.codeIn K cd__law_prime "_law_prime" = true)
    (k__law_prime : PySem.W.keepIn K (.ref x__law_prime) = true)
    (a__law_rests : PySem.W.nsIn K mainGlobals "_law_rests" = some (some (.ref x__law_rests)))
    (l__law_rests : K.lookup x__law_rests = some ⟨oc__law_rests, od__law_rests, .func (PySem.W.fnOf "_law_rests" "_law_rests" (defArgs s__law_rests) (defBody s__law_rests) (defScope s__law_rests) .none kV__law_rests dc__law_rests pm__law_rests an__law_rests cd__law_rests ct__law_rests), sl__law_rests⟩)
    (c__law_rests : PySem.W.codeIn K cd__law_rests "_law_rests" = true)
    (k__law_rests : PySem.W.keepIn K (.ref x__law_rests) = true)
    (a__law_due : PySem.W.nsIn K mainGlobals "_law_due" = some (some (.ref x__law_due)))
    (l__law_due : K.lookup x__law_due = some ⟨oc__law_due, od__law_due, .func (PySem.W.fnOf "_law_due" "_law_due" (defArgs s__law_due) (defBody s__law_due) (defScope s__law_due) .none kV__law_due dc__law_due pm__law_due an__law_due cd__law_due ct__law_due), sl__law_due⟩)
    (c__law_due : PySem.W.codeIn K cd__law_due "_law_due" = true)
    (k__law_due : PySem.W.keepIn K (.ref x__law_due) = true)
    (a__law_row : PySem.W.nsIn K mainGlobals "_law_row" = some (some (.ref x__law_row)))
    (l__law_row : K.lookup x__law_row = some ⟨oc__law_row, od__law_row, .func (PySem.W.fnOf "_law_row" "_law_row" (defArgs s__law_row) (defBody s__law_row) (defScope s__law_row) .none kV__law_row dc__law_row pm__law_row an__law_row cd__law_row ct__law_row), sl__law_row⟩)
    (c__law_row : PySem.W.codeIn K cd__law_row "_law_row" = true)
    (k__law_row : PySem.W.keepIn K (.ref x__law_row) = true)
    (a_written : PySem.W.nsIn K mainGlobals "written" = some (some (.ref x_written)))
    (l_written : K.lookup x_written = some ⟨oc_written, od_written, .func (PySem.W.fnOf "written" "written" (defArgs s_written) (defBody s_written) (defScope s_written) .none kV_written dc_written pm_written an_written cd_written ct_written), sl_written⟩)
    (c_written : PySem.W.codeIn K cd_written "written" = true)
    (k_written : PySem.W.keepIn K (.ref x_written) = true)
    (a_number_in : PySem.W.nsIn K mainGlobals "number_in" = some (some (.ref x_number_in)))
    (l_number_in : K.lookup x_number_in = some ⟨oc_number_in, od_number_in, .func (PySem.W.fnOf "number_in" "number_in" (defArgs s_number_in) (defBody s_number_in) (defScope s_number_in) .none kV_number_in dc_number_in pm_number_in an_number_in cd_number_in ct_number_in), sl_number_in⟩)
    (c_number_in : PySem.W.codeIn K cd_number_in "number_in" = true)
    (k_number_in : PySem.W.keepIn K (.ref x_number_in) = true)
    (a__law_number : PySem.W.nsIn K mainGlobals "_law_number" = some (some (.ref x__law_number)))
    (l__law_number : K.lookup x__law_number = some ⟨oc__law_number, od__law_number, .func (PySem.W.fnOf "_law_number" "_law_number" (defArgs s__law_number) (defBody s__law_number) (defScope s__law_number) .none kV__law_number dc__law_number pm__law_number an__law_number cd__law_number ct__law_number), sl__law_number⟩)
    (c__law_number : PySem.W.codeIn K cd__law_number "_law_number" = true)
    (k__law_number : PySem.W.keepIn K (.ref x__law_number) = true)
    (a_read : PySem.W.nsIn K mainGlobals "read" = some (some (.ref x_read)))
    (l_read : K.lookup x_read = some ⟨oc_read, od_read, .func (PySem.W.fnOf "read" "read" (defArgs s_read) (defBody s_read) (defScope s_read) .none kV_read dc_read pm_read an_read cd_read ct_read), sl_read⟩)
    (c_read : PySem.W.codeIn K cd_read "read" = true)
    (k_read : PySem.W.keepIn K (.ref x_read) = true)
    (a__law_in : PySem.W.nsIn K mainGlobals "_law_in" = some (some (.ref x__law_in)))
    (l__law_in : K.lookup x__law_in = some ⟨oc__law_in, od__law_in, .func (PySem.W.fnOf "_law_in" "_law_in" (defArgs s__law_in) (defBody s__law_in) (defScope s__law_in) .none kV__law_in dc__law_in pm__law_in an__law_in cd__law_in ct__law_in), sl__law_in⟩)
    (c__law_in : PySem.W.codeIn K cd__law_in "_law_in" = true)
    (k__law_in : PySem.W.keepIn K (.ref x__law_in) = true)
    (a__law_refused : PySem.W.nsIn K mainGlobals "_law_refused" = some (some (.ref x__law_refused)))
    (l__law_refused : K.lookup x__law_refused = some ⟨oc__law_refused, od__law_refused, .func (PySem.W.fnOf "_law_refused" "_law_refused" (defArgs s__law_refused) (defBody s__law_refused) (defScope s__law_refused) .none kV__law_refused dc__law_refused pm__law_refused an__law_refused cd__law_refused ct__law_refused), sl__law_refused⟩)
    (c__law_refused : PySem.W.codeIn K cd__law_refused "_law_refused" = true)
    (k__law_refused : PySem.W.keepIn K (.ref x__law_refused) = true)
    (a__law_right : PySem.W.nsIn K mainGlobals "_law_right" = some (some (.ref x__law_right)))
    (l__law_right : K.lookup x__law_right = some ⟨oc__law_right, od__law_right, .func (PySem.W.fnOf "_law_right" "_law_right" (defArgs s__law_right) (defBody s__law_right) (defScope s__law_right) .none kV__law_right dc__law_right pm__law_right an__law_right cd__law_right ct__law_right), sl__law_right⟩)
    (c__law_right : PySem.W.codeIn K cd__law_right "_law_right" = true)
    (k__law_right : PySem.W.keepIn K (.ref x__law_right) = true)
    (a__law_few : PySem.W.nsIn K mainGlobals "_law_few" = some (some (.ref x__law_few)))
    (l__law_few : K.lookup x__law_few = some ⟨oc__law_few, od__law_few, .func (PySem.W.fnOf "_law_few" "_law_few" (defArgs s__law_few) (defBody s__law_few) (defScope s__law_few) .none kV__law_few dc__law_few pm__law_few an__law_few cd__law_few ct__law_few), sl__law_few⟩)
    (c__law_few : PySem.W.codeIn K cd__law_few "_law_few" = true)
    (k__law_few : PySem.W.keepIn K (.ref x__law_few) = true)
    (a_law : PySem.W.nsIn K mainGlobals "law" = some (some (.ref x_law)))
    (l_law : K.lookup x_law = some ⟨oc_law, od_law, .func (PySem.W.fnOf "law" "law" (defArgs s_law) (defBody s_law) (defScope s_law) .none kV_law dc_law pm_law an_law cd_law ct_law), sl_law⟩)
    (c_law : PySem.W.codeIn K cd_law "law" = true)
    (k_law : PySem.W.keepIn K (.ref x_law) = true)
    (z_len : PySem.W.nsIn K mainGlobals "len" = some none)
    (z_sum : PySem.W.nsIn K mainGlobals "sum" = some none)
    (z_all : PySem.W.nsIn K mainGlobals "all" = some none)
    (z_any : PySem.W.nsIn K mainGlobals "any" = some none)
    (z_list : PySem.W.nsIn K mainGlobals "list" = some none)
    (z_max : PySem.W.nsIn K mainGlobals "max" = some none)
    (z_isinstance : PySem.W.nsIn K mainGlobals "isinstance" = some none)
    (z_range : PySem.W.nsIn K mainGlobals "range" = some none)
    (z_enumerate : PySem.W.nsIn K mainGlobals "enumerate" = some none)
    (z_int : PySem.W.nsIn K mainGlobals "int" = some none)
    (z_bool : PySem.W.nsIn K mainGlobals "bool" = some none)
    (z_abs : PySem.W.nsIn K mainGlobals "abs" = some none)
    (z_reversed : PySem.W.nsIn K mainGlobals "reversed" = some none)
    (z_str : PySem.W.nsIn K mainGlobals "str" = some none)
    (z_tuple : PySem.W.nsIn K mainGlobals "tuple" = some none)
    (z_ValueError : PySem.W.nsIn K mainGlobals "ValueError" = some none)
    (z_GREATEST : PySem.W.nsIn K mainGlobals "GREATEST" = some (some (.int 997 u_GREATEST)))
    (z_FIGURES : PySem.W.nsIn K mainGlobals "FIGURES" = some (some (.str "0123456789" u_FIGURES))) : Txt K mg where
  a_is_whole := x_is_whole
  f_is_whole := _
  F_is_whole := fun_mk (st := s_is_whole) l_is_whole c_is_whole k_is_whole
  b_is_whole := (fun_mk (st := s_is_whole) l_is_whole c_is_whole k_is_whole).binds (ps := ["thing"]) fun _ _ _ _ _ _ us hl => match us, hl with | [_], _ => rfl
  g_is_whole := PySem.W.mg_of X G a_is_whole
  a_check_prime := x_check_prime
  f_check_prime := _
  F_check_prime := fun_mk (st := s_check_prime) l_check_prime c_check_prime k_check_prime
  b_check_prime := (fun_mk (st := s_check_prime) l_check_prime c_check_prime k_check_prime).binds (ps := ["prime"]) fun _ _ _ _ _ _ us hl => match us, hl with | [_], _ => rfl
  g_check_prime := PySem.W.mg_of X G a_check_prime
  a_are_rests := x_are_rests
  f_are_rests := _
  F_are_rests := fun_mk (st := s_are_rests) l_are_rests c_are_rests k_are_rests
  b_are_rests := (fun_mk (st := s_are_rests) l_are_rests c_are_rests k_are_rests).binds (ps := ["prime", "thing"]) fun _ _ _ _ _ _ us hl => match us, hl with | [_, _], _ => rfl
  g_are_rests := PySem.W.mg_of X G a_are_rests
  a_check_row := x_check_row
  f_check_row := _
  F_check_row := fun_mk (st := s_check_row) l_check_row c_check_row k_check_row
  b_check_row := (fun_mk (st := s_check_row) l_check_row c_check_row k_check_row).binds (ps := ["prime", "row"]) fun _ _ _ _ _ _ us hl => match us, hl with | [_, _], _ => rfl
  g_check_row := PySem.W.mg_of X G a_check_row
  a__law_cell_at := x__law_cell_at
  f__law_cell_at := _
  F__law_cell_at := fun_mk (st := s__law_cell_at) l__law_cell_at c__law_cell_at k__law_cell_at
  b__law_cell_at := (fun_mk (st := s__law_cell_at) l__law_cell_at c__law_cell_at k__law_cell_at).binds (ps := ["_law_script", "_law_k"]) fun _ _ _ _ _ _ us hl => match us, hl with | [_, _], _ => rfl
  g__law_cell_at := PySem.W.mg_of X G a__law_cell_at
  a__law_draw := x__law_draw
  f__law_draw := _
  F__law_draw := fun_mk (st := s__law_draw) l__law_draw c__law_draw k__law_draw
  b__law_draw := (fun_mk (st := s__law_draw) l__law_draw c__law_draw k__law_draw).binds (ps := ["_law_cell", "_law_k", "_law_many"]) fun _ _ _ _ _ _ us hl => match us, hl with | [_, _, _], _ => rfl
  g__law_draw := PySem.W.mg_of X G a__law_draw
  a__law_prime := x__law_prime
  f__law_prime := _
  F__law_prime := fun_mk (st := s__law_prime) l__law_prime c__law_prime k__law_prime
  b__law_prime := (fun_mk (st := s__law_prime) l__law_prime c__law_prime k__law_prime).binds (ps := ["_law_script"]) fun _ _ _ _ _ _ us hl => match us, hl with | [_], _ => rfl
  g__law_prime := PySem.W.mg_of X G a__law_prime
  a__law_rests := x__law_rests
  f__law_rests := _
  F__law_rests := fun_mk (st := s__law_rests) l__law_rests c__law_rests k__law_rests
  b__law_rests := (fun_mk (st := s__law_rests) l__law_rests c__law_rests k__law_rests).binds (ps := ["_law_script", "_law_by", "_law_prime_here", "_law_many"]) fun _ _ _ _ _ _ us hl => match us, hl with | [_, _, _, _], _ => rfl
  g__law_rests := PySem.W.mg_of X G a__law_rests
  a__law_due := x__law_due
  f__law_due := _
  F__law_due := fun_mk (st := s__law_due) l__law_due c__law_due k__law_due
  b__law_due := (fun_mk (st := s__law_due) l__law_due c__law_due k__law_due).binds (ps := ["_law_prime_here", "_law_rule", "_law_row_here", "_law_place"]) fun _ _ _ _ _ _ us hl => match us, hl with | [_, _, _, _], _ => rfl
  g__law_due := PySem.W.mg_of X G a__law_due
  a__law_row := x__law_row
  f__law_row := _
  F__law_row := fun_mk (st := s__law_row) l__law_row c__law_row k__law_row
  b__law_row := (fun_mk (st := s__law_row) l__law_row c__law_row k__law_row).binds (ps := ["_law_script", "_law_prime_here"]) fun _ _ _ _ _ _ us hl => match us, hl with | [_, _], _ => rfl
  g__law_row := PySem.W.mg_of X G a__law_row
  a_written := x_written
  f_written := _
  F_written := fun_mk (st := s_written) l_written c_written k_written
  b_written := (fun_mk (st := s_written) l_written c_written k_written).binds (ps := ["prime", "row"]) fun _ _ _ _ _ _ us hl => match us, hl with | [_, _], _ => rfl
  g_written := PySem.W.mg_of X G a_written
  a_number_in := x_number_in
  f_number_in := _
  F_number_in := fun_mk (st := s_number_in) l_number_in c_number_in k_number_in
  b_number_in := (fun_mk (st := s_number_in) l_number_in c_number_in k_number_in).binds (ps := ["word"]) fun _ _ _ _ _ _ us hl => match us, hl with | [_], _ => rfl
  g_number_in := PySem.W.mg_of X G a_number_in
  a__law_number := x__law_number
  f__law_number := _
  F__law_number := fun_mk (st := s__law_number) l__law_number c__law_number k__law_number
  b__law_number := (fun_mk (st := s__law_number) l__law_number c__law_number k__law_number).binds (ps := ["_law_text"]) fun _ _ _ _ _ _ us hl => match us, hl with | [_], _ => rfl
  g__law_number := PySem.W.mg_of X G a__law_number
  a_read := x_read
  f_read := _
  F_read := fun_mk (st := s_read) l_read c_read k_read
  b_read := (fun_mk (st := s_read) l_read c_read k_read).binds (ps := ["text"]) fun _ _ _ _ _ _ us hl => match us, hl with | [_], _ => rfl
  g_read := PySem.W.mg_of X G a_read
  a__law_in := x__law_in
  f__law_in := _
  F__law_in := fun_mk (st := s__law_in) l__law_in c__law_in k__law_in
  b__law_in := (fun_mk (st := s__law_in) l__law_in c__law_in k__law_in).binds (ps := ["_law_text"]) fun _ _ _ _ _ _ us hl => match us, hl with | [_], _ => rfl
  g__law_in := PySem.W.mg_of X G a__law_in
  a__law_refused := x__law_refused
  f__law_refused := _
  F__law_refused := fun_mk (st := s__law_refused) l__law_refused c__law_refused k__law_refused
  b__law_refused := (fun_mk (st := s__law_refused) l__law_refused c__law_refused k__law_refused).binds (ps := ["_law_text"]) fun _ _ _ _ _ _ us hl => match us, hl with | [_], _ => rfl
  g__law_refused := PySem.W.mg_of X G a__law_refused
  a__law_right := x__law_right
  f__law_right := _
  F__law_right := fun_mk (st := s__law_right) l__law_right c__law_right k__law_right
  b__law_right := (fun_mk (st := s__law_right) l__law_right c__law_right k__law_right).binds (ps := ["_law_text"]) fun _ _ _ _ _ _ us hl => match us, hl with | [_], _ => rfl
  g__law_right := PySem.W.mg_of X G a__law_right
  a__law_few := x__law_few
  f__law_few := _
  F__law_few := fun_mk (st := s__law_few) l__law_few c__law_few k__law_few
  b__law_few := (fun_mk (st := s__law_few) l__law_few c__law_few k__law_few).binds (ps := []) fun _ _ _ _ _ _ us hl => match us, hl with | [], _ => rfl
  g__law_few := PySem.W.mg_of X G a__law_few
  a_law := x_law
  f_law := _
  F_law := fun_mk (st := s_law) l_law c_law k_law
  b_law := (fun_mk (st := s_law) l_law c_law k_law).binds (ps := ["_law_script"]) fun _ _ _ _ _ _ us hl => match us, hl with | [_], _ => rfl
  g_law := PySem.W.mg_of X G a_law
  a_RuleError := x_RuleError
  g_RuleError := PySem.W.mg_of X G ac_RuleError
  a_BadPrime := x_BadPrime
  g_BadPrime := PySem.W.mg_of X G ac_BadPrime
  x_BadPrime := xk_BadPrime
  kp_BadPrime := kc_BadPrime
  s_BadPrime := sb_BadPrime
  t_BadPrime := ty_BadPrime
  xc_BadPrime := ⟨q1_BadPrime, q2_BadPrime, sb_BadPrime, hd_BadPrime, q3_BadPrime, j2, j3, q4_BadPrime⟩
  isa_BadPrime_BadPrime := kit_self
  isa_BadPrime_BadRow := kit_own is_BadRow ty_BadRow sub_BadPrime_BadRow (.inr ne_BadPrime_BadRow)
  isa_BadPrime_BadRule := kit_own is_BadRule ty_BadRule sub_BadPrime_BadRule (.inr ne_BadPrime_BadRule)
  isa_BadPrime_BadPlace := kit_own is_BadPlace ty_BadPlace sub_BadPrime_BadPlace (.inr ne_BadPrime_BadPlace)
  isa_BadPrime_TooFew := kit_own is_TooFew ty_TooFew sub_BadPrime_TooFew (.inr ne_BadPrime_TooFew)
  isa_BadPrime_NoWay := kit_own is_NoWay ty_NoWay sub_BadPrime_NoWay (.inr ne_BadPrime_NoWay)
  isa_BadPrime_BadText := kit_own is_BadText ty_BadText sub_BadPrime_BadText (.inr ne_BadPrime_BadText)
  isa_BadPrime_ValueError := kit_blt (by decide +kernel) sub_BadPrime_ValueError
  exm_BadPrime_RuleError := PySem.W.exm_ref sb_RuleError hd_RuleError ty_RuleError sub_BadPrime_RuleError
  exm_BadPrime_BadPrime := PySem.W.exm_ref sb_BadPrime hd_BadPrime ty_BadPrime sub_BadPrime_BadPrime
  exm_BadPrime_BadRow := PySem.W.exm_ref sb_BadRow hd_BadRow ty_BadRow sub_BadPrime_BadRow
  a_BadRow := x_BadRow
  g_BadRow := PySem.W.mg_of X G ac_BadRow
  x_BadRow := xk_BadRow
  kp_BadRow := kc_BadRow
  s_BadRow := sb_BadRow
  t_BadRow := ty_BadRow
  xc_BadRow := ⟨q1_BadRow, q2_BadRow, sb_BadRow, hd_BadRow, q3_BadRow, j2, j3, q4_BadRow⟩
  isa_BadRow_BadPrime := kit_own is_BadPrime ty_BadPrime sub_BadRow_BadPrime (.inr ne_BadRow_BadPrime)
  isa_BadRow_BadRow := kit_self
  isa_BadRow_BadRule := kit_own is_BadRule ty_BadRule sub_BadRow_BadRule (.inr ne_BadRow_BadRule)
  isa_BadRow_BadPlace := kit_own is_BadPlace ty_BadPlace sub_BadRow_BadPlace (.inr ne_BadRow_BadPlace)
  isa_BadRow_TooFew := kit_own is_TooFew ty_TooFew sub_BadRow_TooFew (.inr ne_BadRow_TooFew)
  isa_BadRow_NoWay := kit_own is_NoWay ty_NoWay sub_BadRow_NoWay (.inr ne_BadRow_NoWay)
  isa_BadRow_BadText := kit_own is_BadText ty_BadText sub_BadRow_BadText (.inr ne_BadRow_BadText)
  isa_BadRow_ValueError := kit_blt (by decide +kernel) sub_BadRow_ValueError
  exm_BadRow_RuleError := PySem.W.exm_ref sb_RuleError hd_RuleError ty_RuleError sub_BadRow_RuleError
  exm_BadRow_BadPrime := PySem.W.exm_ref sb_BadPrime hd_BadPrime ty_BadPrime sub_BadRow_BadPrime
  exm_BadRow_BadRow := PySem.W.exm_ref sb_BadRow hd_BadRow ty_BadRow sub_BadRow_BadRow
  a_BadRule := x_BadRule
  g_BadRule := PySem.W.mg_of X G ac_BadRule
  a_BadPlace := x_BadPlace
  g_BadPlace := PySem.W.mg_of X G ac_BadPlace
  a_TooFew := x_TooFew
  g_TooFew := PySem.W.mg_of X G ac_TooFew
  a_NoWay := x_NoWay
  g_NoWay := PySem.W.mg_of X G ac_NoWay
  a_BadText := x_BadText
  g_BadText := PySem.W.mg_of X G ac_BadText
  x_BadText := xk_BadText
  kp_BadText := kc_BadText
  s_BadText := sb_BadText
  t_BadText := ty_BadText
  xc_BadText := ⟨q1_BadText, q2_BadText, sb_BadText, hd_BadText, q3_BadText, j2, j3, q4_BadText⟩
  isa_BadText_BadPrime := kit_own is_BadPrime ty_BadPrime sub_BadText_BadPrime (.inr ne_BadText_BadPrime)
  isa_BadText_BadRow := kit_own is_BadRow ty_BadRow sub_BadText_BadRow (.inr ne_BadText_BadRow)
  isa_BadText_BadRule := kit_own is_BadRule ty_BadRule sub_BadText_BadRule (.inr ne_BadText_BadRule)
  isa_BadText_BadPlace := kit_own is_BadPlace ty_BadPlace sub_BadText_BadPlace (.inr ne_BadText_BadPlace)
  isa_BadText_TooFew := kit_own is_TooFew ty_TooFew sub_BadText_TooFew (.inr ne_BadText_TooFew)
  isa_BadText_NoWay := kit_own is_NoWay ty_NoWay sub_BadText_NoWay (.inr ne_BadText_NoWay)
  isa_BadText_BadText := kit_self
  isa_BadText_ValueError := kit_blt (by decide +kernel) sub_BadText_ValueError
  exm_BadText_RuleError := PySem.W.exm_ref sb_RuleError hd_RuleError ty_RuleError sub_BadText_RuleError
  exm_BadText_BadPrime := PySem.W.exm_ref sb_BadPrime hd_BadPrime ty_BadPrime sub_BadText_BadPrime
  exm_BadText_BadRow := PySem.W.exm_ref sb_BadRow hd_BadRow ty_BadRow sub_BadText_BadRow
  n_len := PySem.W.mg_none_of X G z_len
  n_sum := PySem.W.mg_none_of X G z_sum
  n_all := PySem.W.mg_none_of X G z_all
  n_any := PySem.W.mg_none_of X G z_any
  n_list := PySem.W.mg_none_of X G z_list
  n_max := PySem.W.mg_none_of X G z_max
  n_isinstance := PySem.W.mg_none_of X G z_isinstance
  n_range := PySem.W.mg_none_of X G z_range
  n_enumerate := PySem.W.mg_none_of X G z_enumerate
  n_int := PySem.W.mg_none_of X G z_int
  n_bool := PySem.W.mg_none_of X G z_bool
  n_abs := PySem.W.mg_none_of X G z_abs
  n_reversed := PySem.W.mg_none_of X G z_reversed
  n_str := PySem.W.mg_none_of X G z_str
  n_tuple := PySem.W.mg_none_of X G z_tuple
  n_ValueError := PySem.W.mg_none_of X G z_ValueError
  t_GREATEST := u_GREATEST
  c_GREATEST := PySem.W.mg_of X G z_GREATEST
  t_FIGURES := u_FIGURES
  c_FIGURES := PySem.W.mg_of X G z_FIGURES
theorem all_mk {l : PySem.W.OpenLaw} {w : World} {K : PySem.W.Frag} {h : Heap} {mg : Str → Option Value} {fa : Addr} (X : K.In h) (G : h.Ns mainGlobals mg) (hfa : mg "law" = some (.ref fa))
    {x_is_whole : Addr} {od_is_whole an_is_whole : Option Addr} {sl_is_whole : Array (Option Value)} {oc_is_whole kV_is_whole dc_is_whole pm_is_whole cd_is_whole ct_is_whole : Value}
    {x_check_prime : Addr} {od_check_prime an_check_prime : Option Addr} {sl_check_prime : Array (Option Value)} {oc_check_prime kV_check_prime dc_check_prime pm_check_prime cd_check_prime ct_check_prime : Value}
    {x_are_rests : Addr} {od_are_rests an_are_rests : Option Addr} {sl_are_rests : Array (Option Value)} {oc_are_rests kV_are_rests dc_are_rests pm_are_rests cd_are_rests ct_are_rests : Value}
    {x_check_row : Addr} {od_check_row an_check_row : Option Addr} {sl_check_row : Array (Option Value)} {oc_check_row kV_check_row dc_check_row pm_check_row cd_check_row ct_check_row : Value}
    {x__law_cell_at : Addr} {od__law_cell_at an__law_cell_at : Option Addr} {sl__law_cell_at : Array (Option Value)} {oc__law_cell_at kV__law_cell_at dc__law_cell_at pm__law_cell_at cd__law_cell_at ct__law_cell_at : Value}
    {x__law_draw : Addr} {od__law_draw an__law_draw : Option Addr} {sl__law_draw : Array (Option Value)} {oc__law_draw kV__law_draw dc__law_draw pm__law_draw cd__law_draw ct__law_draw : Value}
    {x__law_prime : Addr} {od__law_prime an__law_prime : Option Addr} {sl__law_prime : Array (Option Value)} {oc__law_prime kV__law_prime dc__law_prime pm__law_prime cd__law_prime ct__law_prime : Value}
    {x__law_rests : Addr} {od__law_rests an__law_rests : Option Addr} {sl__law_rests : Array (Option Value)} {oc__law_rests kV__law_rests dc__law_rests pm__law_rests cd__law_rests ct__law_rests : Value}
    {x__law_due : Addr} {od__law_due an__law_due : Option Addr} {sl__law_due : Array (Option Value)} {oc__law_due kV__law_due dc__law_due pm__law_due cd__law_due ct__law_due : Value}
    {x__law_row : Addr} {od__law_row an__law_row : Option Addr} {sl__law_row : Array (Option Value)} {oc__law_row kV__law_row dc__law_row pm__law_row cd__law_row ct__law_row : Value}
    {x_written : Addr} {od_written an_written : Option Addr} {sl_written : Array (Option Value)} {oc_written kV_written dc_written pm_written cd_written ct_written : Value}
    {x_number_in : Addr} {od_number_in an_number_in : Option Addr} {sl_number_in : Array (Option Value)} {oc_number_in kV_number_in dc_number_in pm_number_in cd_number_in ct_number_in : Value}
    {x__law_number : Addr} {od__law_number an__law_number : Option Addr} {sl__law_number : Array (Option Value)} {oc__law_number kV__law_number dc__law_number pm__law_number cd__law_number ct__law_number : Value}
    {x_read : Addr} {od_read an_read : Option Addr} {sl_read : Array (Option Value)} {oc_read kV_read dc_read pm_read cd_read ct_read : Value}
    {x__law_in : Addr} {od__law_in an__law_in : Option Addr} {sl__law_in : Array (Option Value)} {oc__law_in kV__law_in dc__law_in pm__law_in cd__law_in ct__law_in : Value}
    {x__law_refused : Addr} {od__law_refused an__law_refused : Option Addr} {sl__law_refused : Array (Option Value)} {oc__law_refused kV__law_refused dc__law_refused pm__law_refused cd__law_refused ct__law_refused : Value}
    {x__law_right : Addr} {od__law_right an__law_right : Option Addr} {sl__law_right : Array (Option Value)} {oc__law_right kV__law_right dc__law_right pm__law_right cd__law_right ct__law_right : Value}
    {x__law_few : Addr} {od__law_few an__law_few : Option Addr} {sl__law_few : Array (Option Value)} {oc__law_few kV__law_few dc__law_few pm__law_few cd__law_few ct__law_few : Value}
    {x_law : Addr} {od_law an_law : Option Addr} {sl_law : Array (Option Value)} {oc_law kV_law dc_law pm_law cd_law ct_law : Value}
    {x_RuleError : Addr}
    {x_BadPrime : Addr}
    {x_BadRow : Addr}
    {x_BadRule : Addr}
    {x_BadPlace : Addr}
    {x_TooFew : Addr}
    {x_NoWay : Addr}
    {x_BadText : Addr}
    {u_GREATEST : Tok}
    {u_FIGURES : Tok}
    (ac_RuleError : PySem.W.nsIn K mainGlobals "RuleError" = some (some (.ref x_RuleError)))
    (ac_BadPrime : PySem.W.nsIn K mainGlobals "BadPrime" = some (some (.ref x_BadPrime)))
    (xk_BadPrime : PySem.W.excIn K x_BadPrime [.type "ValueError", .type "Exception", .type "BaseException", .type "object"] "ValueError.__new__" = true)
    (kc_BadPrime : PySem.W.keepIn K (.ref x_BadPrime) = true)
    (q1_BadPrime : PySem.W.findIn K (.ref x_BadPrime) "__getattribute__" = some (some (.builtin "BaseException.__getattribute__")))
    (q2_BadPrime : PySem.W.findIn K (.ref x_BadPrime) "__getattr__" = some none)
    (q3_BadPrime : PySem.W.findIn K (.ref x_BadPrime) "__class__" = some (some (.builtin "object.__class__")))
    (q4_BadPrime : PySem.W.mroIn K x_BadPrime (.type "object") = some true)
    (ac_BadRow : PySem.W.nsIn K mainGlobals "BadRow" = some (some (.ref x_BadRow)))
    (xk_BadRow : PySem.W.excIn K x_BadRow [.type "ValueError", .type "Exception", .type "BaseException", .type "object"] "ValueError.__new__" = true)
    (kc_BadRow : PySem.W.keepIn K (.ref x_BadRow) = true)
    (q1_BadRow : PySem.W.findIn K (.ref x_BadRow) "__getattribute__" = some (some (.builtin "BaseException.__getattribute__")))
    (q2_BadRow : PySem.W.findIn K (.ref x_BadRow) "__getattr__" = some none)
    (q3_BadRow : PySem.W.findIn K (.ref x_BadRow) "__class__" = some (some (.builtin "object.__class__")))
    (q4_BadRow : PySem.W.mroIn K x_BadRow (.type "object") = some true)
    (ac_BadRule : PySem.W.nsIn K mainGlobals "BadRule" = some (some (.ref x_BadRule)))
    (ac_BadPlace : PySem.W.nsIn K mainGlobals "BadPlace" = some (some (.ref x_BadPlace)))
    (ac_TooFew : PySem.W.nsIn K mainGlobals "TooFew" = some (some (.ref x_TooFew)))
    (ac_NoWay : PySem.W.nsIn K mainGlobals "NoWay" = some (some (.ref x_NoWay)))
    (ac_BadText : PySem.W.nsIn K mainGlobals "BadText" = some (some (.ref x_BadText)))
    (xk_BadText : PySem.W.excIn K x_BadText [.type "ValueError", .type "Exception", .type "BaseException", .type "object"] "ValueError.__new__" = true)
    (kc_BadText : PySem.W.keepIn K (.ref x_BadText) = true)
    (q1_BadText : PySem.W.findIn K (.ref x_BadText) "__getattribute__" = some (some (.builtin "BaseException.__getattribute__")))
    (q2_BadText : PySem.W.findIn K (.ref x_BadText) "__getattr__" = some none)
    (q3_BadText : PySem.W.findIn K (.ref x_BadText) "__class__" = some (some (.builtin "object.__class__")))
    (q4_BadText : PySem.W.mroIn K x_BadText (.type "object") = some true)
    (j2 : PySem.W.specialIn K (.builtin "object.__class__") "__get__" = some (some (.builtin "getset_descriptor.__get__")))
    (j3 : PySem.W.takesIn K (.builtin "object.__class__") = some true)
    (hd_BadPrime : PySem.W.hasDictIn K x_BadPrime = true)
    (sb_BadPrime : PySem.W.subIn K (.ref x_BadPrime) (.type "BaseException") = some true)
    (ty_BadPrime : PySem.W.typeIn K (.ref x_BadPrime) = some (.type "type"))
    (is_BadRow : PySem.W.isClsIn K x_BadRow = true)
    (ty_BadRow : PySem.W.typeIn K (.ref x_BadRow) = some (.type "type"))
    (sub_BadPrime_BadRow : PySem.W.subIn K (.ref x_BadPrime) (.ref x_BadRow) = some false)
    (ne_BadPrime_BadRow : x_BadPrime ≠ x_BadRow)
    (is_BadRule : PySem.W.isClsIn K x_BadRule = true)
    (ty_BadRule : PySem.W.typeIn K (.ref x_BadRule) = some (.type "type"))
    (sub_BadPrime_BadRule : PySem.W.subIn K (.ref x_BadPrime) (.ref x_BadRule) = some false)
    (ne_BadPrime_BadRule : x_BadPrime ≠ x_BadRule)
    (is_BadPlace : PySem.W.isClsIn K x_BadPlace = true)
    (ty_BadPlace : PySem.W.typeIn K (.ref x_BadPlace) = some (.type "type"))
    (sub_BadPrime_BadPlace : PySem.W.subIn K (.ref x_BadPrime) (.ref x_BadPlace) = some false)
    (ne_BadPrime_BadPlace : x_BadPrime ≠ x_BadPlace)
    (is_TooFew : PySem.W.isClsIn K x_TooFew = true)
    (ty_TooFew : PySem.W.typeIn K (.ref x_TooFew) = some (.type "type"))
    (sub_BadPrime_TooFew : PySem.W.subIn K (.ref x_BadPrime) (.ref x_TooFew) = some false)
    (ne_BadPrime_TooFew : x_BadPrime ≠ x_TooFew)
    (is_NoWay : PySem.W.isClsIn K x_NoWay = true)
    (ty_NoWay : PySem.W.typeIn K (.ref x_NoWay) = some (.type "type"))
    (sub_BadPrime_NoWay : PySem.W.subIn K (.ref x_BadPrime) (.ref x_NoWay) = some false)
    (ne_BadPrime_NoWay : x_BadPrime ≠ x_NoWay)
    (is_BadText : PySem.W.isClsIn K x_BadText = true)
    (ty_BadText : PySem.W.typeIn K (.ref x_BadText) = some (.type "type"))
    (sub_BadPrime_BadText : PySem.W.subIn K (.ref x_BadPrime) (.ref x_BadText) = some false)
    (ne_BadPrime_BadText : x_BadPrime ≠ x_BadText)
    (sub_BadPrime_ValueError : PySem.W.subIn K (.ref x_BadPrime) (.type "ValueError") = some true)
    (hd_RuleError : PySem.W.hasDictIn K x_RuleError = true)
    (sb_RuleError : PySem.W.subIn K (.ref x_RuleError) (.type "BaseException") = some true)
    (ty_RuleError : PySem.W.typeIn K (.ref x_RuleError) = some (.type "type"))
    (sub_BadPrime_RuleError : PySem.W.subIn K (.ref x_BadPrime) (.ref x_RuleError) = some true)
    (sub_BadPrime_BadPrime : PySem.W.subIn K (.ref x_BadPrime) (.ref x_BadPrime) = some true)
    (hd_BadRow : PySem.W.hasDictIn K x_BadRow = true)
    (sb_BadRow : PySem.W.subIn K (.ref x_BadRow) (.type "BaseException") = some true)
    (is_BadPrime : PySem.W.isClsIn K x_BadPrime = true)
    (sub_BadRow_BadPrime : PySem.W.subIn K (.ref x_BadRow) (.ref x_BadPrime) = some false)
    (ne_BadRow_BadPrime : x_BadRow ≠ x_BadPrime)
    (sub_BadRow_BadRule : PySem.W.subIn K (.ref x_BadRow) (.ref x_BadRule) = some false)
    (ne_BadRow_BadRule : x_BadRow ≠ x_BadRule)
    (sub_BadRow_BadPlace : PySem.W.subIn K (.ref x_BadRow) (.ref x_BadPlace) = some false)
    (ne_BadRow_BadPlace : x_BadRow ≠ x_BadPlace)
    (sub_BadRow_TooFew : PySem.W.subIn K (.ref x_BadRow) (.ref x_TooFew) = some false)
    (ne_BadRow_TooFew : x_BadRow ≠ x_TooFew)
    (sub_BadRow_NoWay : PySem.W.subIn K (.ref x_BadRow) (.ref x_NoWay) = some false)
    (ne_BadRow_NoWay : x_BadRow ≠ x_NoWay)
    (sub_BadRow_BadText : PySem.W.subIn K (.ref x_BadRow) (.ref x_BadText) = some false)
    (ne_BadRow_BadText : x_BadRow ≠ x_BadText)
    (sub_BadRow_ValueError : PySem.W.subIn K (.ref x_BadRow) (.type "ValueError") = some true)
    (sub_BadRow_RuleError : PySem.W.subIn K (.ref x_BadRow) (.ref x_RuleError) = some true)
    (sub_BadRow_BadRow : PySem.W.subIn K (.ref x_BadRow) (.ref x_BadRow) = some true)
    (hd_BadText : PySem.W.hasDictIn K x_BadText = true)
    (sb_BadText : PySem.W.subIn K (.ref x_BadText) (.type "BaseException") = some true)
    (sub_BadText_BadPrime : PySem.W.subIn K (.ref x_BadText) (.ref x_BadPrime) = some false)
    (ne_BadText_BadPrime : x_BadText ≠ x_BadPrime)
    (sub_BadText_BadRow : PySem.W.subIn K (.ref x_BadText) (.ref x_BadRow) = some false)
    (ne_BadText_BadRow : x_BadText ≠ x_BadRow)
    (sub_BadText_BadRule : PySem.W.subIn K (.ref x_BadText) (.ref x_BadRule) = some false)
    (ne_BadText_BadRule : x_BadText ≠ x_BadRule)
    (sub_BadText_BadPlace : PySem.W.subIn K (.ref x_BadText) (.ref x_BadPlace) = some false)
    (ne_BadText_BadPlace : x_BadText ≠ x_BadPlace)
    (sub_BadText_TooFew : PySem.W.subIn K (.ref x_BadText) (.ref x_TooFew) = some false)
    (ne_BadText_TooFew : x_BadText ≠ x_TooFew)
    (sub_BadText_NoWay : PySem.W.subIn K (.ref x_BadText) (.ref x_NoWay) = some false)
    (ne_BadText_NoWay : x_BadText ≠ x_NoWay)
    (sub_BadText_ValueError : PySem.W.subIn K (.ref x_BadText) (.type "ValueError") = some true)
    (sub_BadText_RuleError : PySem.W.subIn K (.ref x_BadText) (.ref x_RuleError) = some true)
    (a_is_whole : PySem.W.nsIn K mainGlobals "is_whole" = some (some (.ref x_is_whole)))
    (l_is_whole : K.lookup x_is_whole = some ⟨oc_is_whole, od_is_whole, .func (PySem.W.fnOf "is_whole" "is_whole" (defArgs s_is_whole) (defBody s_is_whole) (defScope s_is_whole) .none kV_is_whole dc_is_whole pm_is_whole an_is_whole cd_is_whole ct_is_whole), sl_is_whole⟩)
    (c_is_whole : PySem.W.codeIn K cd_is_whole "is_whole" = true)
    (k_is_whole : PySem.W.keepIn K (.ref x_is_whole) = true)
    (a_check_prime : PySem.W.nsIn K mainGlobals "check_prime" = some (some (.ref x_check_prime)))
    (l_check_prime : K.lookup x_check_prime = some ⟨oc_check_prime, od_check_prime, .func (PySem.W.fnOf "check_prime" "check_prime" (defArgs s_check_prime) (defBody s_check_prime) (defScope s_check_prime) .none kV_check_prime dc_check_prime pm_check_prime an_check_prime cd_check_prime ct_check_prime), sl_check_prime⟩)
    (c_check_prime : PySem.W.codeIn K cd_check_prime "check_prime" = true)
    (k_check_prime : PySem.W.keepIn K (.ref x_check_prime) = true)
    (a_are_rests : PySem.W.nsIn K mainGlobals "are_rests" = some (some (.ref x_are_rests)))
    (l_are_rests : K.lookup x_are_rests = some ⟨oc_are_rests, od_are_rests, .func (PySem.W.fnOf "are_rests" "are_rests" (defArgs s_are_rests) (defBody s_are_rests) (defScope s_are_rests) .none kV_are_rests dc_are_rests pm_are_rests an_are_rests cd_are_rests ct_are_rests), sl_are_rests⟩)
    (c_are_rests : PySem.W.codeIn K cd_are_rests "are_rests" = true)
    (k_are_rests : PySem.W.keepIn K (.ref x_are_rests) = true)
    (a_check_row : PySem.W.nsIn K mainGlobals "check_row" = some (some (.ref x_check_row)))
    (l_check_row : K.lookup x_check_row = some ⟨oc_check_row, od_check_row, .func (PySem.W.fnOf "check_row" "check_row" (defArgs s_check_row) (defBody s_check_row) (defScope s_check_row) .none kV_check_row dc_check_row pm_check_row an_check_row cd_check_row ct_check_row), sl_check_row⟩)
    (c_check_row : PySem.W.codeIn K cd_check_row "check_row" = true)
    (k_check_row : PySem.W.keepIn K (.ref x_check_row) = true)
    (a__law_cell_at : PySem.W.nsIn K mainGlobals "_law_cell_at" = some (some (.ref x__law_cell_at)))
    (l__law_cell_at : K.lookup x__law_cell_at = some ⟨oc__law_cell_at, od__law_cell_at, .func (PySem.W.fnOf "_law_cell_at" "_law_cell_at" (defArgs s__law_cell_at) (defBody s__law_cell_at) (defScope s__law_cell_at) .none kV__law_cell_at dc__law_cell_at pm__law_cell_at an__law_cell_at cd__law_cell_at ct__law_cell_at), sl__law_cell_at⟩)
    (c__law_cell_at : PySem.W.codeIn K cd__law_cell_at "_law_cell_at" = true)
    (k__law_cell_at : PySem.W.keepIn K (.ref x__law_cell_at) = true)
    (a__law_draw : PySem.W.nsIn K mainGlobals "_law_draw" = some (some (.ref x__law_draw)))
    (l__law_draw : K.lookup x__law_draw = some ⟨oc__law_draw, od__law_draw, .func (PySem.W.fnOf "_law_draw" "_law_draw" (defArgs s__law_draw) (defBody s__law_draw) (defScope s__law_draw) .none kV__law_draw dc__law_draw pm__law_draw an__law_draw cd__law_draw ct__law_draw), sl__law_draw⟩)
    (c__law_draw : PySem.W.codeIn K cd__law_draw "_law_draw" = true)
    (k__law_draw : PySem.W.keepIn K (.ref x__law_draw) = true)
    (a__law_prime : PySem.W.nsIn K mainGlobals "_law_prime" = some (some (.ref x__law_prime)))
    (l__law_prime : K.lookup x__law_prime = some ⟨oc__law_prime, od__law_prime, .func (PySem.W.fnOf "_law_prime" "_law_prime" (defArgs s__law_prime) (defBody s__law_prime) (defScope s__law_prime) .none kV__law_prime dc__law_prime pm__law_prime an__law_prime cd__law_prime ct__law_prime), sl__law_prime⟩)
    (c__law_prime : PySem.W.codeIn K cd__law_prime "_law_prime" = true)
    (k__law_prime : PySem.W.keepIn K (.ref x__law_prime) = true)
    (a__law_rests : PySem.W.nsIn K mainGlobals "_law_rests" = some (some (.ref x__law_rests)))
    (l__law_rests : K.lookup x__law_rests = some ⟨oc__law_rests, od__law_rests, .func (PySem.W.fnOf "_law_rests" "_law_rests" (defArgs s__law_rests) (defBody s__law_rests) (defScope s__law_rests) .none kV__law_rests dc__law_rests pm__law_rests an__law_rests cd__law_rests ct__law_rests), sl__law_rests⟩)
    (c__law_rests : PySem.W.codeIn K cd__law_rests "_law_rests" = true)
    (k__law_rests : PySem.W.keepIn K (.ref x__law_rests) = true)
    (a__law_due : PySem.W.nsIn K mainGlobals "_law_due" = some (some (.ref x__law_due)))
    (l__law_due : K.lookup x__law_due = some ⟨oc__law_due, od__law_due, .func (PySem.W.fnOf "_law_due" "_law_due" (defArgs s__law_due) (defBody s__law_due) (defScope s__law_due) .none kV__law_due dc__law_due pm__law_due an__law_due cd__law_due ct__law_due), sl__law_due⟩)
    (c__law_due : PySem.W.codeIn K cd__law_due "_law_due" = true)
    (k__law_due : PySem.W.keepIn K (.ref x__law_due) = true)
    (a__law_row : PySem.W.nsIn K mainGlobals "_law_row" = some (some (.ref x__law_row)))
    (l__law_row : K.lookup x__law_row = some ⟨oc__law_row, od__law_row, .func (PySem.W.fnOf "_law_row" "_law_row" (defArgs s__law_row) (defBody s__law_row) (defScope s__law_row) .none kV__law_row dc__law_row pm__law_row an__law_row cd__law_row ct__law_row), sl__law_row⟩)
    (c__law_row : PySem.W.codeIn K cd__law_row "_law_row" = true)
    (k__law_row : PySem.W.keepIn K (.ref x__law_row) = true)
    (a_written : PySem.W.nsIn K mainGlobals "written" = some (some (.ref x_written)))
    (l_written : K.lookup x_written = some ⟨oc_written, od_written, .func (PySem.W.fnOf "written" "written" (defArgs s_written) (defBody s_written) (defScope s_written) .none kV_written dc_written pm_written an_written cd_written ct_written), sl_written⟩)
    (c_written : PySem.W.codeIn K cd_written "written" = true)
    (k_written : PySem.W.keepIn K (.ref x_written) = true)
    (a_number_in : PySem.W.nsIn K mainGlobals "number_in" = some (some (.ref x_number_in)))
    (l_number_in : K.lookup x_number_in = some ⟨oc_number_in, od_number_in, .func (PySem.W.fnOf "number_in" "number_in" (defArgs s_number_in) (defBody s_number_in) (defScope s_number_in) .none kV_number_in dc_number_in pm_number_in an_number_in cd_number_in ct_number_in), sl_number_in⟩)
    (c_number_in : PySem.W.codeIn K cd_number_in "number_in" = true)
    (k_number_in : PySem.W.keepIn K (.ref x_number_in) = true)
    (a__law_number : PySem.W.nsIn K mainGlobals "_law_number" = some (some (.ref x__law_number)))
    (l__law_number : K.lookup x__law_number = some ⟨oc__law_number, od__law_number, .func (PySem.W.fnOf "_law_number" "_law_number" (defArgs s__law_number) (defBody s__law_number) (defScope s__law_number) .none kV__law_number dc__law_number pm__law_number an__law_number cd__law_number ct__law_number), sl__law_number⟩)
    (c__law_number : PySem.W.codeIn K cd__law_number "_law_number" = true)
    (k__law_number : PySem.W.keepIn K (.ref x__law_number) = true)
    (a_read : PySem.W.nsIn K mainGlobals "read" = some (some (.ref x_read)))
    (l_read : K.lookup x_read = some ⟨oc_read, od_read, .func (PySem.W.fnOf "read" "read" (defArgs s_read) (defBody s_read) (defScope s_read) .none kV_read dc_read pm_read an_read cd_read ct_read), sl_read⟩)
    (c_read : PySem.W.codeIn K cd_read "read" = true)
    (k_read : PySem.W.keepIn K (.ref x_read) = true)
    (a__law_in : PySem.W.nsIn K mainGlobals "_law_in" = some (some (.ref x__law_in)))
    (l__law_in : K.lookup x__law_in = some ⟨oc__law_in, od__law_in, .func (PySem.W.fnOf "_law_in" "_law_in" (defArgs s__law_in) (defBody s__law_in) (defScope s__law_in) .none kV__law_in dc__law_in pm__law_in an__law_in cd__law_in ct__law_in), sl__law_in⟩)
    (c__law_in : PySem.W.codeIn K cd__law_in "_law_in" = true)
    (k__law_in : PySem.W.keepIn K (.ref x__law_in) = true)
    (a__law_refused : PySem.W.nsIn K mainGlobals "_law_refused" = some (some (.ref x__law_refused)))
    (l__law_refused : K.lookup x__law_refused = some ⟨oc__law_refused, od__law_refused, .func (PySem.W.fnOf "_law_refused" "_law_refused" (defArgs s__law_refused) (defBody s__law_refused) (defScope s__law_refused) .none kV__law_refused dc__law_refused pm__law_refused an__law_refused cd__law_refused ct__law_refused), sl__law_refused⟩)
    (c__law_refused : PySem.W.codeIn K cd__law_refused "_law_refused" = true)
    (k__law_refused : PySem.W.keepIn K (.ref x__law_refused) = true)
    (a__law_right : PySem.W.nsIn K mainGlobals "_law_right" = some (some (.ref x__law_right)))
    (l__law_right : K.lookup x__law_right = some ⟨oc__law_right, od__law_right, .func (PySem.W.fnOf "_law_right" "_law_right" (defArgs s__law_right) (defBody s__law_right) (defScope s__law_right) .none kV__law_right dc__law_right pm__law_right an__law_right cd__law_right ct__law_right), sl__law_right⟩)
    (c__law_right : PySem.W.codeIn K cd__law_right "_law_right" = true)
    (k__law_right : PySem.W.keepIn K (.ref x__law_right) = true)
    (a__law_few : PySem.W.nsIn K mainGlobals "_law_few" = some (some (.ref x__law_few)))
    (l__law_few : K.lookup x__law_few = some ⟨oc__law_few, od__law_few, .func (PySem.W.fnOf "_law_few" "_law_few" (defArgs s__law_few) (defBody s__law_few) (defScope s__law_few) .none kV__law_few dc__law_few pm__law_few an__law_few cd__law_few ct__law_few), sl__law_few⟩)
    (c__law_few : PySem.W.codeIn K cd__law_few "_law_few" = true)
    (k__law_few : PySem.W.keepIn K (.ref x__law_few) = true)
    (a_law : PySem.W.nsIn K mainGlobals "law" = some (some (.ref x_law)))
    (l_law : K.lookup x_law = some ⟨oc_law, od_law, .func (PySem.W.fnOf "law" "law" (defArgs s_law) (defBody s_law) (defScope s_law) .none kV_law dc_law pm_law an_law cd_law ct_law), sl_law⟩)
    (c_law : PySem.W.codeIn K cd_law "law" = true)
    (k_law : PySem.W.keepIn K (.ref x_law) = true)
    (z_len : PySem.W.nsIn K mainGlobals "len" = some none)
    (z_sum : PySem.W.nsIn K mainGlobals "sum" = some none)
    (z_all : PySem.W.nsIn K mainGlobals "all" = some none)
    (z_any : PySem.W.nsIn K mainGlobals "any" = some none)
    (z_list : PySem.W.nsIn K mainGlobals "list" = some none)
    (z_max : PySem.W.nsIn K mainGlobals "max" = some none)
    (z_isinstance : PySem.W.nsIn K mainGlobals "isinstance" = some none)
    (z_range : PySem.W.nsIn K mainGlobals "range" = some none)
    (z_enumerate : PySem.W.nsIn K mainGlobals "enumerate" = some none)
    (z_int : PySem.W.nsIn K mainGlobals "int" = some none)
    (z_bool : PySem.W.nsIn K mainGlobals "bool" = some none)
    (z_abs : PySem.W.nsIn K mainGlobals "abs" = some none)
    (z_reversed : PySem.W.nsIn K mainGlobals "reversed" = some none)
    (z_str : PySem.W.nsIn K mainGlobals "str" = some none)
    (z_tuple : PySem.W.nsIn K mainGlobals "tuple" = some none)
    (z_ValueError : PySem.W.nsIn K mainGlobals "ValueError" = some none)
    (z_GREATEST : PySem.W.nsIn K mainGlobals "GREATEST" = some (some (.int 997 u_GREATEST)))
    (z_FIGURES : PySem.W.nsIn K mainGlobals "FIGURES" = some (some (.str "0123456789" u_FIGURES))) :
    ∃ fd : FuncData, (∀ (s : Shared) (v : Value), BindsTo s fd ⟨[v], []⟩ [("_law_script", v)]) ∧ ∀ base : Heap, K.In base → base.Ns mainGlobals mg → FnOk l.prog w K mg base CX0 7 fa fd ["_law_script"] (sp_law K) := by
  have e := hfa.symm.trans (PySem.W.mg_of X G a_law)
  cases e
  let T := txt_mk X G ac_RuleError ac_BadPrime xk_BadPrime kc_BadPrime q1_BadPrime q2_BadPrime q3_BadPrime q4_BadPrime ac_BadRow xk_BadRow kc_BadRow q1_BadRow q2_BadRow q3_BadRow q4_BadRow ac_BadRule ac_BadPlace ac_TooFew ac_NoWay ac_BadText xk_BadText kc_BadText q1_BadText q2_BadText q3_BadText q4_BadText j2 j3 hd_BadPrime sb_BadPrime ty_BadPrime is_BadRow ty_BadRow sub_BadPrime_BadRow ne_BadPrime_BadRow is_BadRule ty_BadRule sub_BadPrime_BadRule ne_BadPrime_BadRule is_BadPlace ty_BadPlace sub_BadPrime_BadPlace ne_BadPrime_BadPlace is_TooFew ty_TooFew sub_BadPrime_TooFew ne_BadPrime_TooFew is_NoWay ty_NoWay sub_BadPrime_NoWay ne_BadPrime_NoWay is_BadText ty_BadText sub_BadPrime_BadText ne_BadPrime_BadText sub_BadPrime_ValueError hd_RuleError sb_RuleError ty_RuleError sub_BadPrime_RuleError sub_BadPrime_BadPrime hd_BadRow sb_BadRow is_BadPrime sub_BadRow_BadPrime ne_BadRow_BadPrime sub_BadRow_BadRule ne_BadRow_BadRule sub_BadRow_BadPlace ne_BadRow_BadPlace sub_BadRow_TooFew ne_BadRow_TooFew sub_BadRow_NoWay ne_BadRow_NoWay sub_BadRow_BadText ne_BadRow_BadText sub_BadRow_ValueError sub_BadRow_RuleError sub_BadRow_BadRow hd_BadText sb_BadText sub_BadText_BadPrime ne_BadText_BadPrime sub_BadText_BadRow ne_BadText_BadRow sub_BadText_BadRule ne_BadText_BadRule sub_BadText_BadPlace ne_BadText_BadPlace sub_BadText_TooFew ne_BadText_TooFew sub_BadText_NoWay ne_BadText_NoWay sub_BadText_ValueError sub_BadText_RuleError a_is_whole l_is_whole c_is_whole k_is_whole a_check_prime l_check_prime c_check_prime k_check_prime a_are_rests l_are_rests c_are_rests k_are_rests a_check_row l_check_row c_check_row k_check_row a__law_cell_at l__law_cell_at c__law_cell_at k__law_cell_at a__law_draw l__law_draw c__law_draw k__law_draw a__law_prime l__law_prime c__law_prime k__law_prime a__law_rests l__law_rests c__law_rests k__law_rests a__law_due l__law_due c__law_due k__law_due a__law_row l__law_row c__law_row k__law_row a_written l_written c_written k_written a_number_in l_number_in c_number_in k_number_in a__law_number l__law_number c__law_number k__law_number a_read l_read c_read k_read a__law_in l__law_in c__law_in k__law_in a__law_refused l__law_refused c__law_refused k__law_refused a__law_right l__law_right c__law_right k__law_right a__law_few l__law_few c__law_few k__law_few a_law l_law c_law k_law z_len z_sum z_all z_any z_list z_max z_isinstance z_range z_enumerate z_int z_bool z_abs z_reversed z_str z_tuple z_ValueError z_GREATEST z_FIGURES
  exact ⟨T.f_law, fun s v => .of_eq rfl, fun base _ _ => ok_law T⟩
end RP
open PySem PySem.W PyProof.Rows
set_option maxRecDepth 100000 in
set_option maxHeartbeats 0 in
theorem PySem.Challenge.cw_rulerow_k06_written_holds : PySem.Challenge.rw_rulerow_k06_written.Holds := by
  w_on; o_law; k_head; (case hw => w_witness2)
  k_fill
  refine L2.walk_of (l := PySem.Challenge.rw_rulerow_k06_written) (n := 63) (k := 7) (x := "_law_script") (CX := fun w => L2.CX0) (sp := fun w => RP.sp_law _) rfl (by decide) rfl ⟨rfl, by decide, by decide⟩ (fun w h Y => PySem.W.kIn_of Y) ?F (fun _ _ a ns hl _ hS => RP.law_start hl hS) fun _ _ _ _ _ h => h
  case F =>
    intro w mg fa h KX G hmg
    refine' RP.all_mk KX G hmg ?ac_RuleError ?ac_BadPrime ?xk_BadPrime ?kc_BadPrime ?q1_BadPrime ?q2_BadPrime ?q3_BadPrime ?q4_BadPrime ?ac_BadRow ?xk_BadRow ?kc_BadRow ?q1_BadRow ?q2_BadRow ?q3_BadRow ?q4_BadRow ?ac_BadRule ?ac_BadPlace ?ac_TooFew ?ac_NoWay ?ac_BadText ?xk_BadText ?kc_BadText ?q1_BadText ?q2_BadText ?q3_BadText ?q4_BadText ?j2 ?j3 ?hd_BadPrime ?sb_BadPrime ?ty_BadPrime ?is_BadRow ?ty_BadRow ?sub_BadPrime_BadRow ?ne_BadPrime_BadRow ?is_BadRule ?ty_BadRule ?sub_BadPrime_BadRule ?ne_BadPrime_BadRule ?is_BadPlace ?ty_BadPlace ?sub_BadPrime_BadPlace ?ne_BadPrime_BadPlace ?is_TooFew ?ty_TooFew ?sub_BadPrime_TooFew ?ne_BadPrime_TooFew ?is_NoWay ?ty_NoWay ?sub_BadPrime_NoWay ?ne_BadPrime_NoWay ?is_BadText ?ty_BadText ?sub_BadPrime_BadText ?ne_BadPrime_BadText ?sub_BadPrime_ValueError ?hd_RuleError ?sb_RuleError ?ty_RuleError ?sub_BadPrime_RuleError ?sub_BadPrime_BadPrime ?hd_BadRow ?sb_BadRow ?is_BadPrime ?sub_BadRow_BadPrime ?ne_BadRow_BadPrime ?sub_BadRow_BadRule ?ne_BadRow_BadRule ?sub_BadRow_BadPlace ?ne_BadRow_BadPlace ?sub_BadRow_TooFew ?ne_BadRow_TooFew ?sub_BadRow_NoWay ?ne_BadRow_NoWay ?sub_BadRow_BadText ?ne_BadRow_BadText ?sub_BadRow_ValueError ?sub_BadRow_RuleError ?sub_BadRow_BadRow ?hd_BadText ?sb_BadText ?sub_BadText_BadPrime ?ne_BadText_BadPrime ?sub_BadText_BadRow ?ne_BadText_BadRow ?sub_BadText_BadRule ?ne_BadText_BadRule ?sub_BadText_BadPlace ?ne_BadText_BadPlace ?sub_BadText_TooFew ?ne_BadText_TooFew ?sub_BadText_NoWay ?ne_BadText_NoWay ?sub_BadText_ValueError ?sub_BadText_RuleError ?a_is_whole ?l_is_whole ?c_is_whole ?k_is_whole ?a_check_prime ?l_check_prime ?c_check_prime ?k_check_prime ?a_are_rests ?l_are_rests ?c_are_rests ?k_are_rests ?a_check_row ?l_check_row ?c_check_row ?k_check_row ?a__law_cell_at ?l__law_cell_at ?c__law_cell_at ?k__law_cell_at ?a__law_draw ?l__law_draw ?c__law_draw ?k__law_draw ?a__law_prime ?l__law_prime ?c__law_prime ?k__law_prime ?a__law_rests ?l__law_rests ?c__law_rests ?k__law_rests ?a__law_due ?l__law_due ?c__law_due ?k__law_due ?a__law_row ?l__law_row ?c__law_row ?k__law_row ?a_written ?l_written ?c_written ?k_written ?a_number_in ?l_number_in ?c_number_in ?k_number_in ?a__law_number ?l__law_number ?c__law_number ?k__law_number ?a_read ?l_read ?c_read ?k_read ?a__law_in ?l__law_in ?c__law_in ?k__law_in ?a__law_refused ?l__law_refused ?c__law_refused ?k__law_refused ?a__law_right ?l__law_right ?c__law_right ?k__law_right ?a__law_few ?l__law_few ?c__law_few ?k__law_few ?a_law ?l_law ?c_law ?k_law ?z_len ?z_sum ?z_all ?z_any ?z_list ?z_max ?z_isinstance ?z_range ?z_enumerate ?z_int ?z_bool ?z_abs ?z_reversed ?z_str ?z_tuple ?z_ValueError ?z_GREATEST ?z_FIGURES
    (case ac_RuleError => k_is)
    (case ac_BadPrime => k_is)
    (case xk_BadPrime => k_exc)
    (case kc_BadPrime => k_is)
    (case q1_BadPrime => k_is)
    (case q2_BadPrime => k_is)
    (case q3_BadPrime => k_is)
    (case q4_BadPrime => k_is)
    (case ac_BadRow => k_is)
    (case xk_BadRow => k_exc)
    (case kc_BadRow => k_is)
    (case q1_BadRow => k_is)
    (case q2_BadRow => k_is)
    (case q3_BadRow => k_is)
    (case q4_BadRow => k_is)
    (case ac_BadRule => k_is)
    (case ac_BadPlace => k_is)
    (case ac_TooFew => k_is)
    (case ac_NoWay => k_is)
    (case ac_BadText => k_is)
    (case xk_BadText => k_exc)
    (case kc_BadText => k_is)
    (case q1_BadText => k_is)
    (case q2_BadText => k_is)
    (case q3_BadText => k_is)
    (case q4_BadText => k_is)
    (case j2 => k_is)
    (case j3 => k_is)
    (case hd_BadPrime => k_is)
    (case sb_BadPrime => k_is)
    (case ty_BadPrime => k_is)
    (case is_BadRow => k_is)
    (case ty_BadRow => k_is)
    (case sub_BadPrime_BadRow => k_is)
    (case ne_BadPrime_BadRow => decide)
    (case is_BadRule => k_is)
    (case ty_BadRule => k_is)
    (case sub_BadPrime_BadRule => k_is)
    (case ne_BadPrime_BadRule => decide)
    (case is_BadPlace => k_is)
    (case ty_BadPlace => k_is)
    (case sub_BadPrime_BadPlace => k_is)
    (case ne_BadPrime_BadPlace => decide)
    (case is_TooFew => k_is)
    (case ty_TooFew => k_is)
    (case sub_BadPrime_TooFew => k_is)
    (case ne_BadPrime_TooFew => decide)
    (case is_NoWay => k_is)
    (case ty_NoWay => k_is)
    (case sub_BadPrime_NoWay => k_is)
    (case ne_BadPrime_NoWay => decide)
    (case is_BadText => k_is)
    (case ty_BadText => k_is)
    (case sub_BadPrime_BadText => k_is)
    (case ne_BadPrime_BadText => decide)
    (case sub_BadPrime_ValueError => k_is)
    (case hd_RuleError => k_is)
    (case sb_RuleError => k_is)
    (case ty_RuleError => k_is)
    (case sub_BadPrime_RuleError => k_is)
    (case sub_BadPrime_BadPrime => k_is)
    (case hd_BadRow => k_is)
    (case sb_BadRow => k_is)
    (case is_BadPrime => k_is)
    (case sub_BadRow_BadPrime => k_is)
    (case ne_BadRow_BadPrime => decide)
    (case sub_BadRow_BadRule => k_is)
    (case ne_BadRow_BadRule => decide)
    (case sub_BadRow_BadPlace => k_is)
    (case ne_BadRow_BadPlace => decide)
    (case sub_BadRow_TooFew => k_is)
    (case ne_BadRow_TooFew => decide)
    (case sub_BadRow_NoWay => k_is)
    (case ne_BadRow_NoWay => decide)
    (case sub_BadRow_BadText => k_is)
    (case ne_BadRow_BadText => decide)
    (case sub_BadRow_ValueError => k_is)
    (case sub_BadRow_RuleError => k_is)
    (case sub_BadRow_BadRow => k_is)
    (case hd_BadText => k_is)
    (case sb_BadText => k_is)
    (case sub_BadText_BadPrime => k_is)
    (case ne_BadText_BadPrime => decide)
    (case sub_BadText_BadRow => k_is)
    (case ne_BadText_BadRow => decide)
    (case sub_BadText_BadRule => k_is)
    (case ne_BadText_BadRule => decide)
    (case sub_BadText_BadPlace => k_is)
    (case ne_BadText_BadPlace => decide)
    (case sub_BadText_TooFew => k_is)
    (case ne_BadText_TooFew => decide)
    (case sub_BadText_NoWay => k_is)
    (case ne_BadText_NoWay => decide)
    (case sub_BadText_ValueError => k_is)
    (case sub_BadText_RuleError => k_is)
    (case a_is_whole => k_is)
    (case l_is_whole => k_is)
    (case c_is_whole => k_is)
    (case k_is_whole => k_is)
    (case a_check_prime => k_is)
    (case l_check_prime => k_is)
    (case c_check_prime => k_is)
    (case k_check_prime => k_is)
    (case a_are_rests => k_is)
    (case l_are_rests => k_is)
    (case c_are_rests => k_is)
    (case k_are_rests => k_is)
    (case a_check_row => k_is)
    (case l_check_row => k_is)
    (case c_check_row => k_is)
    (case k_check_row => k_is)
    (case a__law_cell_at => k_is)
    (case l__law_cell_at => k_is)
    (case c__law_cell_at => k_is)
    (case k__law_cell_at => k_is)
    (case a__law_draw => k_is)
    (case l__law_draw => k_is)
    (case c__law_draw => k_is)
    (case k__law_draw => k_is)
    (case a__law_prime => k_is)
    (case l__law_prime => k_is)
    (case c__law_prime => k_is)
    (case k__law_prime => k_is)
    (case a__law_rests => k_is)
    (case l__law_rests => k_is)
    (case c__law_rests => k_is)
    (case k__law_rests => k_is)
    (case a__law_due => k_is)
    (case l__law_due => k_is)
    (case c__law_due => k_is)
    (case k__law_due => k_is)
    (case a__law_row => k_is)
    (case l__law_row => k_is)
    (case c__law_row => k_is)
    (case k__law_row => k_is)
    (case a_written => k_is)
    (case l_written => k_is)
    (case c_written => k_is)
    (case k_written => k_is)
    (case a_number_in => k_is)
    (case l_number_in => k_is)
    (case c_number_in => k_is)
    (case k_number_in => k_is)
    (case a__law_number => k_is)
    (case l__law_number => k_is)
    (case c__law_number => k_is)
    (case k__law_number => k_is)
    (case a_read => k_is)
    (case l_read => k_is)
    (case c_read => k_is)
    (case k_read => k_is)
    (case a__law_in => k_is)
    (case l__law_in => k_is)
    (case c__law_in => k_is)
    (case k__law_in => k_is)
    (case a__law_refused => k_is)
    (case l__law_refused => k_is)
    (case c__law_refused => k_is)
    (case k__law_refused => k_is)
    (case a__law_right => k_is)
    (case l__law_right => k_is)
    (case c__law_right => k_is)
    (case k__law_right => k_is)
    (case a__law_few => k_is)
    (case l__law_few => k_is)
    (case c__law_few => k_is)
    (case k__law_few => k_is)
    (case a_law => k_is)
    (case l_law => k_is)
    (case c_law => k_is)
    (case k_law => k_is)
    (case z_len => k_is)
    (case z_sum => k_is)
    (case z_all => k_is)
    (case z_any => k_is)
    (case z_list => k_is)
    (case z_max => k_is)
    (case z_isinstance => k_is)
    (case z_range => k_is)
    (case z_enumerate => k_is)
    (case z_int => k_is)
    (case z_bool => k_is)
    (case z_abs => k_is)
    (case z_reversed => k_is)
    (case z_str => k_is)
    (case z_tuple => k_is)
    (case z_ValueError => k_is)
    (case z_GREATEST => k_is)
    (case z_FIGURES => k_is)
