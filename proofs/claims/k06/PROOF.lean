import PyProof.Rows.All
import Wide.All
import OpenK.AllK
import Wide.FinOn
import HandS.ForMost
import HandS.Exc
import HandS.TryOnly
import HandS.ExcOwn
import HandS.ExcIs
import HandS.WordsExc
import HandS.IsInst
import HandS.Style
import HandS.TupAny
import HandS.Conv
import HandS.Zip
import HandS.Defaults
import HandS.MakeKwOnly
import HandS.Evl
import HandS.Wide
import HandS.ExcInit
import KE.GoesEnum
import KE.KTupSum
import KE.KExcSuper
import HandS.ExcField
import KE.KExcIs
import PyProof.Rows.NestShow
import KE.KSuper
import HandS.HeadWalk
import HandS.HeadHook2
import HandS.HeadEnd
import HandS.Head0
import HandS.Head1
import HandS.Head2
import HandS.HeadHook1
import PySem.Challenge.RW_logsapart_k06_whole_numbers_of_stories_a
set_option Elab.async false
set_option linter.all false
set_option maxRecDepth 100000
set_option maxHeartbeats 0
namespace K6

/-! ### factorials, products -/
def fact : Nat → Nat
  | 0 => 1
  | n + 1 => fact n * (n + 1)
theorem fact_pos : ∀ n, 0 < fact n
  | 0 => Nat.one_pos
  | n + 1 => Nat.mul_pos (fact_pos n) (Nat.succ_pos n)
def choose : Nat → Nat → Nat
  | _, 0 => 1
  | 0, _ + 1 => 0
  | n + 1, k + 1 => choose n k + choose n (k + 1)
theorem choose_zero : ∀ n, choose n 0 = 1
  | 0 => rfl
  | _ + 1 => rfl
theorem choose_lt : ∀ n k, choose n (n + k + 1) = 0
  | 0, k => by rw [show 0 + k + 1 = k + 1 by omega]; rfl
  | n + 1, k => by
    have h1 := choose_lt n k
    have h2 := choose_lt n (k + 1)
    show choose n (n + 1 + k) + choose n (n + 1 + k + 1) = 0
    rw [show n + 1 + k = n + k + 1 by omega, show n + k + 1 + 1 = n + (k + 1) + 1 by omega, h1, h2]
theorem choose_self : ∀ n, choose n n = 1
  | 0 => rfl
  | n + 1 => by
    show choose n n + choose n (n + 1) = 1
    have h := choose_lt n 0
    rw [show n + 0 + 1 = n + 1 by omega] at h
    rw [choose_self n, h]
theorem choose_fact : ∀ s a b, a + b = s → choose s a * (fact a * fact b) = fact s
  | 0, a, b, h => by
    have ha : a = 0 := by omega
    have hb : b = 0 := by omega
    subst ha hb
    rfl
  | s + 1, 0, b, h => by
    have hb : b = s + 1 := by omega
    subst hb
    rw [choose_zero]
    show 1 * (1 * fact (s + 1)) = fact (s + 1)
    omega
  | s + 1, a + 1, 0, h => by
    have ha : a + 1 = s + 1 := by omega
    rw [ha, choose_self]
    show 1 * (fact (s + 1) * 1) = fact (s + 1)
    omega
  | s + 1, a + 1, b + 1, h => by
    have h1 := choose_fact s a (b + 1) (by omega)
    have h2 := choose_fact s (a + 1) b (by omega)
    show (choose s a + choose s (a + 1)) * (fact (a + 1) * fact (b + 1)) = fact s * (s + 1)
    have e1 : choose s a * (fact (a + 1) * fact (b + 1)) = fact s * (a + 1) := by
      rw [← h1]
      show choose s a * ((fact a * (a + 1)) * fact (b + 1)) = choose s a * (fact a * fact (b + 1)) * (a + 1)
      ac_rfl
    have e2 : choose s (a + 1) * (fact (a + 1) * fact (b + 1)) = fact s * (b + 1) := by
      rw [← h2]
      show choose s (a + 1) * (fact (a + 1) * (fact b * (b + 1))) = choose s (a + 1) * (fact (a + 1) * fact b) * (b + 1)
      ac_rfl
    rw [Nat.add_mul, e1, e2, ← Nat.mul_add, show a + 1 + (b + 1) = s + 1 by omega]

def bot : List Nat → Nat
  | [] => 1
  | c :: r => fact c * bot r
theorem bot_pos : ∀ c, 0 < bot c
  | [] => Nat.one_pos
  | c :: r => Nat.mul_pos (fact_pos c) (bot_pos r)
theorem bot_append : ∀ p q, bot (p ++ q) = bot p * bot q
  | [], q => by show bot q = 1 * bot q; omega
  | c :: p, q => by
    show fact c * bot (p ++ q) = fact c * bot p * bot q
    rw [bot_append p q, Nat.mul_assoc]
theorem bot_dvd : ∀ c : List Nat, bot c ∣ fact c.sum
  | [] => ⟨1, rfl⟩
  | c :: r => by
    obtain ⟨k, hk⟩ := bot_dvd r
    refine ⟨k * choose (c + r.sum) c, ?_⟩
    rw [List.sum_cons, ← choose_fact (c + r.sum) c r.sum rfl, hk]
    show choose (c + r.sum) c * (fact c * (bot r * k)) = fact c * bot r * (k * choose (c + r.sum) c)
    ac_rfl
/-- how many rows have each hand so often -/
def ord (c : List Nat) : Nat := fact c.sum / bot c
theorem ord_mul (c : List Nat) : ord c * bot c = fact c.sum := Nat.div_mul_cancel (bot_dvd c)
theorem ord_unique {c : List Nat} {n : Nat} (h : n * bot c = fact c.sum) : ord c = n := by
  have h2 := ord_mul c
  rw [← h] at h2
  exact Nat.eq_of_mul_eq_mul_right (bot_pos c) h2
theorem ord_nil : ord [] = 1 := rfl
theorem ord_zero (p : List Nat) : ord (p ++ [0]) = ord p := by
  apply ord_unique
  rw [bot_append]
  show ord p * (bot p * (1 * 1)) = fact (p ++ [0]).sum
  rw [List.sum_append, Nat.mul_one]
  have z : p.sum + [0].sum = p.sum := by simp
  rw [z]
  exact ord_mul p
theorem ord_pos (c : List Nat) : 0 < ord c := by
  rcases Nat.eq_zero_or_pos (ord c) with h | h
  · have e := ord_mul c
    rw [h, Nat.zero_mul] at e
    have p := fact_pos c.sum
    omega
  · exact h
theorem exact_div {a b m : Nat} (hb : 0 < b) (h : m * b = a) : a / b = m := by
  rw [← h]
  exact Nat.mul_div_cancel _ hb
/-- the program's step -/
theorem ord_step_mul (p : List Nat) (d : Nat) : ord (p ++ [d + 1]) * (d + 1) = ord (p ++ [d]) * (p.sum + d + 1) := by
  have h1 := ord_mul (p ++ [d + 1])
  have h2 := ord_mul (p ++ [d])
  rw [bot_append, List.sum_append] at h1 h2
  have b1 : bot [d + 1] = fact d * (d + 1) := by show fact d * (d + 1) * 1 = _; omega
  have b2 : bot [d] = fact d := by show fact d * 1 = _; omega
  have s1 : [d + 1].sum = d + 1 := by simp
  have s2 : [d].sum = d := by simp
  rw [b1, s1] at h1
  rw [b2, s2] at h2
  have hp : 0 < bot p * fact d := Nat.mul_pos (bot_pos p) (fact_pos d)
  apply Nat.eq_of_mul_eq_mul_right hp
  have e : fact (p.sum + (d + 1)) = fact (p.sum + d) * (p.sum + d + 1) := rfl
  rw [e, ← h2] at h1
  calc ord (p ++ [d + 1]) * (d + 1) * (bot p * fact d) = ord (p ++ [d + 1]) * (bot p * (fact d * (d + 1))) := by ac_rfl
    _ = ord (p ++ [d]) * (bot p * fact d) * (p.sum + d + 1) := h1
    _ = ord (p ++ [d]) * (p.sum + d + 1) * (bot p * fact d) := by ac_rfl
theorem ord_step (p : List Nat) (d : Nat) : ord (p ++ [d]) * (p.sum + d + 1) / (d + 1) = ord (p ++ [d + 1]) :=
  exact_div (Nat.succ_pos d) (ord_step_mul p d)

/-! ### one more deed of a hand -/
def inc : List Nat → Nat → List Nat
  | [], _ => []
  | c :: r, 0 => (c + 1) :: r
  | c :: r, h + 1 => c :: inc r h
theorem inc_set : ∀ (c : List Nat) (h k : Nat), c[h]? = some k → c.set h (k + 1) = inc c h
  | [], h, k, e => by simp at e
  | c :: r, 0, k, e => by
    have e' : c = k := by simpa using e
    subst e'
    rfl
  | c :: r, h + 1, k, e => by
    show c :: r.set h (k + 1) = c :: inc r h
    rw [inc_set r h k (by simpa using e)]
theorem inc_length : ∀ (c : List Nat) (h : Nat), (inc c h).length = c.length
  | [], _ => rfl
  | c :: r, 0 => rfl
  | c :: r, h + 1 => by show (inc r h).length + 1 = r.length + 1; rw [inc_length r h]
theorem inc_sum : ∀ (c : List Nat) (h : Nat), h < c.length → (inc c h).sum = c.sum + 1
  | [], h, e => by simp at e
  | c :: r, 0, _ => by show ((c + 1) :: r).sum = (c :: r).sum + 1; rw [List.sum_cons, List.sum_cons]; omega
  | c :: r, h + 1, e => by
    show (c :: inc r h).sum = (c :: r).sum + 1
    rw [List.sum_cons, List.sum_cons, inc_sum r h (by simpa using e)]
    omega
theorem inc_bot : ∀ (c : List Nat) (h k : Nat), c[h]? = some k → bot (inc c h) = bot c * (k + 1)
  | [], h, k, e => by simp at e
  | c :: r, 0, k, e => by
    have e' : c = k := by simpa using e
    subst e'
    show fact c * (c + 1) * bot r = fact c * bot r * (c + 1)
    ac_rfl
  | c :: r, h + 1, k, e => by
    show fact c * bot (inc r h) = fact c * bot r * (k + 1)
    rw [inc_bot r h k (by simpa using e)]
    ac_rfl
theorem ord_inc {c : List Nat} {h k : Nat} (e : c[h]? = some k) : ord c * (c.sum + 1) / (k + 1) = ord (inc c h) := by
  apply exact_div (Nat.succ_pos k)
  have hl : h < c.length := by
    have := List.getElem?_eq_some_iff.mp e
    exact this.1
  have h1 := ord_mul (inc c h)
  rw [inc_bot c h k e, inc_sum c h hl] at h1
  have e2 : fact (c.sum + 1) = fact c.sum * (c.sum + 1) := rfl
  rw [e2, ← ord_mul c] at h1
  apply Nat.eq_of_mul_eq_mul_right (bot_pos c)
  calc ord (inc c h) * (k + 1) * bot c = ord (inc c h) * (bot c * (k + 1)) := by ac_rfl
    _ = ord c * bot c * (c.sum + 1) := h1
    _ = ord c * (c.sum + 1) * bot c := by ac_rfl

/-! ### fillings -/
def fil : List Nat → List Nat → Nat
  | m :: ms, c :: cs => m ^ c * fil ms cs
  | _, _ => 1
def Pos (ms : List Nat) : Prop := ∀ m ∈ ms, 1 ≤ m
theorem Pos.tail {m : Nat} {ms : List Nat} (h : Pos (m :: ms)) : Pos ms := fun x hx => h x (List.mem_cons_of_mem _ hx)
theorem Pos.head {m : Nat} {ms : List Nat} (h : Pos (m :: ms)) : 1 ≤ m := h m List.mem_cons_self
theorem fil_pos : ∀ {ms : List Nat} (c : List Nat), Pos ms → 0 < fil ms c
  | [], _, _ => Nat.one_pos
  | m :: ms, [], _ => Nat.one_pos
  | m :: ms, c :: cs, h => Nat.mul_pos (Nat.pow_pos h.head) (fil_pos cs h.tail)
theorem fil_inc : ∀ (ms c : List Nat) (h m : Nat), h < c.length → ms[h]? = some m → fil ms (inc c h) = fil ms c * m
  | _, [], h, m, e, _ => by simp at e
  | [], _ :: _, h, m, _, e => by simp at e
  | x :: ms, c :: r, 0, m, _, e => by
    have e' : x = m := by simpa using e
    subst e'
    show x ^ (c + 1) * fil ms r = x ^ c * fil ms r * x
    rw [Nat.pow_succ]
    ac_rfl
  | x :: ms, c :: r, h + 1, m, hl, e => by
    show x ^ c * fil ms (inc r h) = x ^ c * fil ms r * m
    rw [fil_inc ms r h m (by simpa using hl) (by simpa using e)]
    ac_rfl
/-- all together: fewer of these, more stories for each logs -/
def wt (ms c : List Nat) : Nat := bot c * fil ms c
theorem wt_pos {ms : List Nat} (c : List Nat) (h : Pos ms) : 0 < wt ms c := Nat.mul_pos (bot_pos c) (fil_pos c h)
theorem fails_iff {ms c : List Nat} : fil ms c < ord c ↔ wt ms c < fact c.sum := by
  rw [← ord_mul c, wt, Nat.mul_comm (bot c)]
  exact (Nat.mul_lt_mul_right (bot_pos c)).symm

/-! ### balanced counts have the least weight -/
def BalL (l : Nat) : List Nat → List Nat → Prop
  | m :: ms, c :: cs => m * c ≤ l ∧ l ≤ m * (c + 1) ∧ BalL l ms cs
  | _, _ => True
def w1 (m c : Nat) : Nat := fact c * m ^ c
theorem w1_up {m l c : Nat} (h : l ≤ m * (c + 1)) : ∀ k, w1 m c * l ^ k ≤ w1 m (c + k)
  | 0 => by simp
  | k + 1 => by
    have ih := w1_up h k
    have e : w1 m (c + (k + 1)) = w1 m (c + k) * (m * (c + k + 1)) := by
      show fact (c + k) * (c + k + 1) * m ^ (c + k + 1) = fact (c + k) * m ^ (c + k) * (m * (c + k + 1))
      rw [Nat.pow_succ]
      ac_rfl
    rw [e, Nat.pow_succ, ← Nat.mul_assoc]
    exact Nat.mul_le_mul ih (Nat.le_trans h (Nat.mul_le_mul_left m (by omega)))
theorem w1_down {m l : Nat} : ∀ (k d : Nat), m * (d + k) ≤ l → w1 m (d + k) ≤ w1 m d * l ^ k
  | 0, d, _ => by simp
  | k + 1, d, h => by
    have ih := w1_down (m := m) (l := l) k d (Nat.le_trans (Nat.mul_le_mul_left m (by omega)) h)
    have e : w1 m (d + (k + 1)) = w1 m (d + k) * (m * (d + (k + 1))) := by
      show fact (d + k) * (d + k + 1) * m ^ (d + k + 1) = fact (d + k) * m ^ (d + k) * (m * (d + k + 1))
      rw [Nat.pow_succ]
      ac_rfl
    rw [e, Nat.pow_succ]
    calc w1 m (d + k) * (m * (d + (k + 1))) ≤ w1 m d * l ^ k * l := Nat.mul_le_mul ih h
      _ = w1 m d * (l ^ k * l) := by ac_rfl
theorem w1_bal {m l c d : Nat} (h1 : m * c ≤ l) (h2 : l ≤ m * (c + 1)) : w1 m c * l ^ d ≤ w1 m d * l ^ c := by
  rcases Nat.le_total c d with h | h
  · obtain ⟨k, rfl⟩ := Nat.le.dest h
    rw [Nat.pow_add, Nat.mul_comm (l ^ c), ← Nat.mul_assoc]
    exact Nat.mul_le_mul_right _ (w1_up h2 k)
  · obtain ⟨k, rfl⟩ := Nat.le.dest h
    rw [Nat.pow_add, Nat.mul_comm (l ^ d) (l ^ k), ← Nat.mul_assoc]
    exact Nat.mul_le_mul_right _ (w1_down k d h1)
theorem wt_cons (m : Nat) (ms : List Nat) (c : Nat) (cs : List Nat) : wt (m :: ms) (c :: cs) = w1 m c * wt ms cs := by
  show fact c * bot cs * (m ^ c * fil ms cs) = fact c * m ^ c * (bot cs * fil ms cs)
  ac_rfl
theorem bal_wt {l : Nat} : ∀ {ms c d : List Nat}, BalL l ms c → c.length = ms.length → d.length = ms.length → wt ms c * l ^ d.sum ≤ wt ms d * l ^ c.sum
  | [], c, d, _, hc, hd => by
    have ec : c = [] := List.eq_nil_of_length_eq_zero hc
    have ed : d = [] := List.eq_nil_of_length_eq_zero hd
    subst ec ed
    exact Nat.le_refl _
  | m :: ms, [], _, _, hc, _ => by simp at hc
  | m :: ms, _ :: _, [], _, _, hd => by simp at hd
  | m :: ms, c :: cs, d :: ds, h, hc, hd => by
    obtain ⟨h1, h2, h3⟩ := h
    have ih := bal_wt (d := ds) h3 (by simpa using hc) (by simpa using hd)
    have b := w1_bal (d := d) h1 h2
    rw [wt_cons, wt_cons, List.sum_cons, List.sum_cons, Nat.pow_add, Nat.pow_add]
    calc w1 m c * wt ms cs * (l ^ d * l ^ ds.sum) = (w1 m c * l ^ d) * (wt ms cs * l ^ ds.sum) := by ac_rfl
      _ ≤ (w1 m d * l ^ c) * (wt ms ds * l ^ cs.sum) := Nat.mul_le_mul b ih
      _ = w1 m d * wt ms ds * (l ^ c * l ^ cs.sum) := by ac_rfl
theorem bal_least {l : Nat} {ms c d : List Nat} (hl : 0 < l) (h : BalL l ms c) (hc : c.length = ms.length) (hd : d.length = ms.length) (hs : d.sum = c.sum) : wt ms c ≤ wt ms d := by
  have q := bal_wt (d := d) h hc hd
  rw [hs] at q
  exact Nat.le_of_mul_le_mul_right q (Nat.pow_pos hl)
/-- stories over logs -/
theorem bal_ratio {l : Nat} {ms c d : List Nat} (hl : 0 < l) (h : BalL l ms c) (hc : c.length = ms.length) (hd : d.length = ms.length) (hs : d.sum = c.sum) : ord d * fil ms c ≤ ord c * fil ms d := by
  have q := bal_least hl h hc hd hs
  have e1 := ord_mul c
  have e2 := ord_mul d
  rw [hs] at e2
  have hb : 0 < bot c * bot d := Nat.mul_pos (bot_pos c) (bot_pos d)
  apply Nat.le_of_mul_le_mul_right _ hb
  have z1 : ord d * fil ms c * (bot c * bot d) = (ord d * bot d) * wt ms c := by unfold wt; ac_rfl
  have z2 : ord c * fil ms d * (bot c * bot d) = (ord c * bot c) * wt ms d := by unfold wt; ac_rfl
  rw [z1, z2, e1, e2]
  exact Nat.mul_le_mul_left _ q

/-! ### the greedy road -/
def wts : List Nat → List Nat → List Nat
  | m :: ms, c :: cs => m * (c + 1) :: wts ms cs
  | _, _ => []
theorem wts_length : ∀ (ms c : List Nat), c.length = ms.length → (wts ms c).length = ms.length
  | [], _, _ => by cases ‹List Nat› <;> rfl
  | m :: ms, [], h => by simp at h
  | m :: ms, c :: cs, h => by show (wts ms cs).length + 1 = ms.length + 1; rw [wts_length ms cs (by simpa using h)]
theorem wts_get : ∀ (ms c : List Nat) (h m k : Nat), ms[h]? = some m → c[h]? = some k → (wts ms c)[h]? = some (m * (k + 1))
  | [], _, h, m, k, e, _ => by simp at e
  | _ :: _, [], h, m, k, _, e => by simp at e
  | x :: ms, y :: c, 0, m, k, e1, e2 => by
    have a : x = m := by simpa using e1
    have b : y = k := by simpa using e2
    subst a b
    rfl
  | x :: ms, y :: c, h + 1, m, k, e1, e2 => by
    show (wts ms c)[h]? = _
    exact wts_get ms c h m k (by simpa using e1) (by simpa using e2)
def minL : List Nat → Nat
  | [] => 0
  | [x] => x
  | x :: y :: r => min x (minL (y :: r))
theorem minL_le : ∀ (l : List Nat) (x : Nat), x ∈ l → minL l ≤ x
  | [y], x, h => by
    have : x = y := by simpa using h
    subst this
    exact Nat.le_refl _
  | y :: z :: r, x, h => by
    show min y (minL (z :: r)) ≤ x
    rcases List.mem_cons.mp h with e | e
    · subst e
      exact Nat.min_le_left _ _
    · exact Nat.le_trans (Nat.min_le_right _ _) (minL_le (z :: r) x e)
theorem minL_mem : ∀ (l : List Nat), l ≠ [] → minL l ∈ l
  | [y], _ => by simp [minL]
  | y :: z :: r, _ => by
    show min y (minL (z :: r)) ∈ y :: z :: r
    rcases Nat.le_total y (minL (z :: r)) with h | h
    · rw [Nat.min_eq_left h]
      exact List.mem_cons_self
    · rw [Nat.min_eq_right h]
      exact List.mem_cons_of_mem _ (minL_mem (z :: r) (by simp))
def fstIx (x : Nat) : List Nat → Nat
  | [] => 0
  | y :: r => if y = x then 0 else fstIx x r + 1
theorem fstIx_get : ∀ {x : Nat} {l : List Nat}, x ∈ l → l[fstIx x l]? = some x
  | x, y :: r, h => by
    unfold fstIx
    by_cases e : y = x
    · rw [if_pos e, e]
      rfl
    · rw [if_neg e]
      have : x ∈ r := by
        rcases List.mem_cons.mp h with q | q
        · exact absurd q.symm e
        · exact q
      simpa using fstIx_get this
theorem fstIx_eq : ∀ {x : Nat} {l : List Nat} {j : Nat}, l[j]? = some x → (∀ (i y : Nat), i < j → l[i]? = some y → y ≠ x) → fstIx x l = j
  | x, [], j, h, _ => by simp at h
  | x, y :: r, 0, h, _ => by
    have : y = x := by simpa using h
    unfold fstIx
    rw [if_pos this]
  | x, y :: r, j + 1, h, k => by
    have hy : y ≠ x := k 0 y (Nat.succ_pos j) rfl
    unfold fstIx
    rw [if_neg hy, fstIx_eq (l := r) (j := j) (by simpa using h) fun i z hi e => k (i + 1) z (Nat.succ_lt_succ hi) (by simpa using e)]
def nextH (ms c : List Nat) : Nat := fstIx (minL (wts ms c)) (wts ms c)
def dear (ms : List Nat) : Nat → List Nat
  | 0 => List.replicate ms.length 0
  | n + 1 => inc (dear ms n) (nextH ms (dear ms n))
theorem dear_length (ms : List Nat) : ∀ n, (dear ms n).length = ms.length
  | 0 => by show (List.replicate ms.length 0).length = _; simp
  | n + 1 => by show (inc _ _).length = _; rw [inc_length, dear_length ms n]
theorem nextH_at {ms c : List Nat} (hc : c.length = ms.length) (hm : ms ≠ []) : (wts ms c)[nextH ms c]? = some (minL (wts ms c)) ∧ nextH ms c < ms.length := by
  have hl := wts_length ms c hc
  have hne : wts ms c ≠ [] := fun e => by
    rw [e] at hl
    exact hm (List.eq_nil_of_length_eq_zero hl.symm)
  have g := fstIx_get (minL_mem _ hne)
  refine ⟨g, ?_⟩
  have := (List.getElem?_eq_some_iff.mp g).1
  rw [hl] at this
  exact this
theorem dear_sum {ms : List Nat} (hm : ms ≠ []) : ∀ n, (dear ms n).sum = n
  | 0 => by show (List.replicate ms.length 0).sum = 0; simp
  | n + 1 => by
    show (inc _ _).sum = n + 1
    rw [inc_sum _ _ (by rw [dear_length]; exact (nextH_at (dear_length ms n) hm).2), dear_sum hm n]
theorem bal_zero : ∀ {ms : List Nat}, Pos ms → BalL 1 ms (List.replicate ms.length 0)
  | [], _ => True.intro
  | m :: ms, h => by
    show BalL 1 (m :: ms) (0 :: List.replicate ms.length 0)
    exact ⟨by omega, by have := h.head; omega, bal_zero h.tail⟩
theorem bal_wts : ∀ {l : Nat} {ms c : List Nat}, BalL l ms c → ∀ x ∈ wts ms c, l ≤ x
  | l, [], c, _, x, hx => by cases c <;> cases hx
  | l, m :: ms, [], _, x, hx => by cases hx
  | l, m :: ms, c :: cs, h, x, hx => by
    rcases List.mem_cons.mp (show x ∈ m * (c + 1) :: wts ms cs from hx) with e | e
    · rw [e]
      exact h.2.1
    · exact bal_wts h.2.2 x e
/-- w: between all (as it stands at h, below or at all weights) -/
theorem bal_inc : ∀ {l w : Nat} {ms c : List Nat} {h : Nat}, BalL l ms c → l ≤ w → (∀ x ∈ wts ms c, w ≤ x) → (wts ms c)[h]? = some w → BalL w ms (inc c h)
  | l, w, [], c, h, _, _, _, e => by cases c <;> simp [wts] at e
  | l, w, m :: ms, [], h, _, _, _, e => by simp [wts] at e
  | l, w, m :: ms, c :: cs, 0, b, hl, hw, e => by
    have e' : m * (c + 1) = w := by simpa [wts] using e
    have keep : ∀ {ms cs : List Nat}, BalL l ms cs → (∀ x ∈ wts ms cs, w ≤ x) → BalL w ms cs := by
      intro ms
      induction ms with
      | nil => intro cs _ _; cases cs <;> exact True.intro
      | cons m ms ih =>
        intro cs
        cases cs with
        | nil => intro _ _; exact True.intro
        | cons c cs =>
          intro b hw
          exact ⟨Nat.le_trans b.1 hl, hw _ List.mem_cons_self, ih b.2.2 fun x hx => hw x (List.mem_cons_of_mem _ hx)⟩
    refine ⟨by omega, ?_, keep b.2.2 fun x hx => hw x (List.mem_cons_of_mem _ hx)⟩
    have : m * (c + 1) ≤ m * (c + 1 + 1) := Nat.mul_le_mul_left m (by omega)
    omega
  | l, w, m :: ms, c :: cs, h + 1, b, hl, hw, e => by
    refine ⟨Nat.le_trans b.1 hl, hw _ List.mem_cons_self, ?_⟩
    exact bal_inc b.2.2 hl (fun x hx => hw x (List.mem_cons_of_mem _ hx)) (by simpa [wts] using e)
theorem dear_bal {ms : List Nat} (hm : ms ≠ []) (hp : Pos ms) : ∀ n, ∃ l, 0 < l ∧ BalL l ms (dear ms n)
  | 0 => ⟨1, Nat.one_pos, bal_zero hp⟩
  | n + 1 => by
    obtain ⟨l, hl, b⟩ := dear_bal hm hp n
    obtain ⟨g, _⟩ := nextH_at (dear_length ms n) hm
    have lw : l ≤ minL (wts ms (dear ms n)) := bal_wts b _ (List.mem_of_getElem? g)
    exact ⟨_, Nat.lt_of_lt_of_le hl lw, bal_inc b lw (fun x hx => minL_le _ x hx) g⟩
theorem dear_ratio {ms : List Nat} (hm : ms ≠ []) (hp : Pos ms) {d : List Nat} (hd : d.length = ms.length) : ord d * fil ms (dear ms d.sum) ≤ ord (dear ms d.sum) * fil ms d := by
  obtain ⟨l, hl, b⟩ := dear_bal hm hp d.sum
  exact bal_ratio hl b (dear_length ms _) hd (dear_sum hm _).symm
/-- counts of so many deeds have more stories than logs just where the greedy ones have -/
def crowdAt (ms : List Nat) (n : Nat) : Bool := decide (fil ms (dear ms n) < ord (dear ms n))
theorem crowd_of {ms : List Nat} (hm : ms ≠ []) (hp : Pos ms) {d : List Nat} (hd : d.length = ms.length) (h : fil ms d < ord d) : crowdAt ms d.sum = true := by
  apply decide_eq_true
  have q := dear_ratio hm hp hd
  have f1 : 0 < fil ms d := fil_pos d hp
  rcases Nat.lt_or_ge (fil ms (dear ms d.sum)) (ord (dear ms d.sum)) with z | z
  · exact z
  · exfalso
    have a : ord (dear ms d.sum) * fil ms d ≤ fil ms (dear ms d.sum) * fil ms d := Nat.mul_le_mul_right _ z
    have b : fil ms d * fil ms (dear ms d.sum) < ord d * fil ms (dear ms d.sum) := Nat.mul_lt_mul_of_pos_right h (fil_pos _ hp)
    rw [Nat.mul_comm (fil ms d)] at b
    omega
/-- the same for any counts that are balanced -/
theorem crowd_bal {l : Nat} {ms c : List Nat} (hm : ms ≠ []) (hp : Pos ms) (hl : 0 < l) (b : BalL l ms c) (hc : c.length = ms.length) (h : crowdAt ms c.sum = true) : fil ms c < ord c := by
  have h1 := of_decide_eq_true h
  have q := bal_least hl b hc (dear_length ms c.sum) (dear_sum hm _)
  rw [fails_iff] at h1 ⊢
  rw [dear_sum hm] at h1
  omega

/-! ### telling hands never have more -/
def prodL : List Nat → Nat
  | [] => 1
  | m :: ms => m * prodL ms
theorem dec_of {ms : List Nat} : ∀ {c : List Nat} {i k : Nat}, c[i]? = some (k + 1) → ∃ d, inc d i = c ∧ d[i]? = some k ∧ d.length = c.length
  | [], i, k, h => by simp at h
  | c :: r, 0, k, h => by
    have e : c = k + 1 := by simpa using h
    exact ⟨k :: r, by rw [e]; rfl, rfl, rfl⟩
  | c :: r, i + 1, k, h => by
    obtain ⟨d, h1, h2, h3⟩ := dec_of (ms := ms) (c := r) (i := i) (k := k) (by simpa using h)
    exact ⟨c :: d, by show c :: inc d i = _; rw [h1], by simpa using h2, by show d.length + 1 = r.length + 1; rw [h3]⟩
theorem sum_mul_le : ∀ {c q : List Nat} {X W : Nat}, c.length = q.length → (∀ (i a b : Nat), c[i]? = some a → q[i]? = some b → a * X ≤ b * W) → c.sum * X ≤ q.sum * W
  | [], [], _, _, _, _ => by simp
  | [], _ :: _, _, _, h, _ => by simp at h
  | _ :: _, [], _, _, h, _ => by simp at h
  | a :: c, b :: q, X, W, h, k => by
    rw [List.sum_cons, List.sum_cons, Nat.add_mul, Nat.add_mul]
    exact Nat.add_le_add (k 0 a b rfl rfl) (sum_mul_le (by simpa using h) fun i x y h1 h2 => k (i + 1) x y (by simpa using h1) (by simpa using h2))
theorem wt_inc {ms d : List Nat} {i k m : Nat} (h1 : d[i]? = some k) (h2 : ms[i]? = some m) : wt ms (inc d i) = wt ms d * (m * (k + 1)) := by
  have hl := (List.getElem?_eq_some_iff.mp h1).1
  unfold wt
  rw [inc_bot d i k h1, fil_inc ms d i m hl h2]
  ac_rfl
theorem prodL_pos : ∀ {ms : List Nat}, Pos ms → 0 < prodL ms
  | [], _ => Nat.one_pos
  | m :: ms, h => Nat.mul_pos h.head (prodL_pos h.tail)
theorem prodL_dvd : ∀ {ms : List Nat} {m : Nat}, m ∈ ms → m ∣ prodL ms
  | x :: ms, m, h => by
    rcases List.mem_cons.mp h with e | e
    · rw [e]
      exact ⟨prodL ms, rfl⟩
    · obtain ⟨k, hk⟩ := prodL_dvd e
      exact ⟨x * k, by show x * prodL ms = _; rw [hk]; ac_rfl⟩
def fits (ms : List Nat) : Bool := decide ((ms.map fun m => prodL ms / m).sum ≤ prodL ms)
theorem fits_wt {ms : List Nat} (hp : Pos ms) (hf : fits ms = true) : ∀ (n : Nat) (c : List Nat), c.length = ms.length → c.sum = n → fact n ≤ wt ms c
  | 0, c, _, _ => wt_pos c hp
  | n + 1, c, hc, hs => by
    have hB := prodL_pos hp
    have key : c.sum * (prodL ms * fact n) ≤ (ms.map fun m => prodL ms / m).sum * wt ms c := by
      refine sum_mul_le (by rw [List.length_map, hc]) fun i a b h1 h2 => ?_
      rw [List.getElem?_map] at h2
      cases hm : ms[i]? with
      | none =>
        rw [hm] at h2
        cases h2
      | some m =>
        rw [hm] at h2
        have hb : prodL ms / m = b := Option.some.inj h2
        have hmp : 1 ≤ m := hp m (List.mem_of_getElem? hm)
        have hq : b * m = prodL ms := by
          rw [← hb]
          exact Nat.div_mul_cancel (prodL_dvd (List.mem_of_getElem? hm))
        cases a with
        | zero => rw [Nat.zero_mul]; exact Nat.zero_le _
        | succ k =>
          obtain ⟨d, e1, e2, e3⟩ := dec_of (ms := ms) h1
          have hl : i < d.length := (List.getElem?_eq_some_iff.mp e2).1
          have hd : d.sum = n := by
            have q := inc_sum d i hl
            rw [e1, hs] at q
            omega
          have ih := fits_wt hp hf n d (e3.trans hc) hd
          rw [← e1, wt_inc e2 hm, ← hq]
          calc (k + 1) * (b * m * fact n) = b * (fact n * (m * (k + 1))) := by ac_rfl
            _ ≤ b * (wt ms d * (m * (k + 1))) := Nat.mul_le_mul_left _ (Nat.mul_le_mul_right _ ih)
    have hf' := of_decide_eq_true hf
    have k2 : c.sum * (prodL ms * fact n) ≤ prodL ms * wt ms c := Nat.le_trans key (Nat.mul_le_mul_right _ hf')
    rw [hs] at k2
    apply Nat.le_of_mul_le_mul_left _ hB
    calc prodL ms * fact (n + 1) = (n + 1) * (prodL ms * fact n) := by show prodL ms * (fact n * (n + 1)) = _; ac_rfl
      _ ≤ prodL ms * wt ms c := k2
theorem fits_no {ms c : List Nat} (hp : Pos ms) (hf : fits ms = true) (hc : c.length = ms.length) : ¬ fil ms c < ord c := by
  rw [fails_iff]
  have := fits_wt hp hf c.sum c hc rfl
  omega
theorem fits_crowd {ms : List Nat} (hm : ms ≠ []) (hp : Pos ms) (hf : fits ms = true) (n : Nat) : crowdAt ms n = false := decide_eq_false (fits_no hp hf (dear_length ms n))
end K6
namespace K6
/-! ### all counts of a length -/
def pre (L : Nat) : Nat → List (List Nat)
  | 0 => [[]]
  | k + 1 => (pre L k).flatMap fun c => (List.range (L - c.sum + 1)).map fun x => c ++ [x]
def cnts (L r : Nat) : List (List Nat) := (pre L (r - 1)).map fun c => c ++ [L - c.sum]
theorem sum_snoc (c : List Nat) (x : Nat) : (c ++ [x]).sum = c.sum + x := by simp
theorem mem_pre {L : Nat} : ∀ {k : Nat} {c : List Nat}, c ∈ pre L k ↔ c.length = k ∧ c.sum ≤ L
  | 0, c => by
    show c ∈ [[]] ↔ _
    constructor
    · intro h
      have : c = [] := by simpa using h
      subst this
      exact ⟨rfl, Nat.zero_le _⟩
    · intro h
      have : c = [] := List.eq_nil_of_length_eq_zero h.1
      simp [this]
  | k + 1, c => by
    show c ∈ (pre L k).flatMap _ ↔ _
    rw [List.mem_flatMap]
    constructor
    · rintro ⟨d, hd, hc⟩
      obtain ⟨x, hx, rfl⟩ := List.mem_map.mp hc
      have q := mem_pre.mp hd
      have hx' := List.mem_range.mp hx
      rw [List.length_append, sum_snoc]
      exact ⟨by simp [q.1], by omega⟩
    · rintro ⟨hl, hs⟩
      have hne : c ≠ [] := fun e => by rw [e] at hl; cases hl
      have e := List.dropLast_concat_getLast hne
      have es : c.sum = c.dropLast.sum + c.getLast hne := by rw [← sum_snoc, e]
      refine ⟨c.dropLast, mem_pre.mpr ⟨by rw [List.length_dropLast, hl]; rfl, by omega⟩, ?_⟩
      exact List.mem_map.mpr ⟨c.getLast hne, List.mem_range.mpr (by omega), e⟩
theorem mem_cnts {L r : Nat} (hr : 1 ≤ r) {c : List Nat} : c ∈ cnts L r ↔ c.length = r ∧ c.sum = L := by
  unfold cnts
  rw [List.mem_map]
  constructor
  · rintro ⟨d, hd, rfl⟩
    have q := mem_pre.mp hd
    rw [List.length_append, sum_snoc]
    refine ⟨?_, by omega⟩
    show d.length + 1 = r
    omega
  · rintro ⟨hl, hs⟩
    have hne : c ≠ [] := fun e => by rw [e] at hl; simp at hl; omega
    have e := List.dropLast_concat_getLast hne
    have es : c.sum = c.dropLast.sum + c.getLast hne := by rw [← sum_snoc, e]
    refine ⟨c.dropLast, mem_pre.mpr ⟨by rw [List.length_dropLast, hl], by omega⟩, ?_⟩
    have : L - c.dropLast.sum = c.getLast hne := by omega
    rw [this, e]
theorem flat_len {α β : Type} {f : α → List β} {n : Nat} : ∀ (l : List α), (∀ x ∈ l, (f x).length ≤ n) → (l.flatMap f).length ≤ l.length * n
  | [], _ => by simp
  | x :: l, h => by
    rw [List.flatMap_cons, List.length_append, List.length_cons, Nat.add_mul, Nat.one_mul]
    have a := h x List.mem_cons_self
    have b := flat_len l fun y hy => h y (List.mem_cons_of_mem _ hy)
    omega
theorem pre_len (L : Nat) : ∀ k, (pre L k).length ≤ (L + 1) ^ k
  | 0 => Nat.le_refl _
  | k + 1 => by
    show ((pre L k).flatMap _).length ≤ _
    refine Nat.le_trans (flat_len (n := L + 1) _ fun c _ => ?_) (by rw [Nat.pow_succ]; exact Nat.mul_le_mul_right _ (pre_len L k))
    rw [List.length_map, List.length_range]
    omega
/-! ### told -/
structure Told (ms : List Nat) (t : Nat) : Prop where
  pos : 1 ≤ t
  at_ : crowdAt ms t = true
  no : ∀ k, 1 ≤ k → k < t → crowdAt ms k = false
theorem Told.unique {ms : List Nat} {t u : Nat} (a : Told ms t) (b : Told ms u) : t = u := by
  rcases Nat.lt_trichotomy t u with h | h | h
  · have := b.no t a.pos h
    rw [a.at_] at this
    cases this
  · exact h
  · have := a.no u b.pos h
    rw [b.at_] at this
    cases this
/-! ### the local search -/
def gd (l : List Nat) (i : Nat) : Nat := l.getD i 0
def cond (ms c : List Nat) (a b : Nat) : Bool := decide (0 < gd c a) && decide ((gd c b + 1) * gd ms b < gd c a * gd ms a)
def moves (ms c : List Nat) : List (Nat × Nat) := (List.range ms.length).flatMap fun a => ((List.range ms.length).filter (cond ms c a)).map fun b => (a, b)
def mv (c : List Nat) (a b : Nat) : List Nat := (c.set a (gd c a - 1)).set b (gd c b + 1)
def run (ms : List Nat) : Nat → List Nat → List Nat
  | 0, c => c
  | f + 1, c => match moves ms c with
    | [] => c
    | (a, b) :: _ => run ms f (mv c a b)
def startT (ms : List Nat) (n : Nat) : List Nat := (ms.drop 1).map fun m => n * gd ms 0 / (ms.length * m * gd ms 0)
def start (ms : List Nat) (n : Nat) : List Nat := (n - (startT ms n).sum) :: startT ms n
def crowded (ms : List Nat) (n : Nat) : Bool := decide (fil ms (run ms (4 * n) (start ms n)) < ord (run ms (4 * n) (start ms n)))
theorem mem_moves {ms c : List Nat} {p : Nat × Nat} : p ∈ moves ms c ↔ p.1 < ms.length ∧ p.2 < ms.length ∧ cond ms c p.1 p.2 = true := by
  unfold moves
  rw [List.mem_flatMap]
  constructor
  · rintro ⟨a, ha, hp⟩
    obtain ⟨b, hb, rfl⟩ := List.mem_map.mp hp
    obtain ⟨h1, h2⟩ := List.mem_filter.mp hb
    exact ⟨List.mem_range.mp ha, List.mem_range.mp h1, h2⟩
  · rintro ⟨h1, h2, h3⟩
    exact ⟨p.1, List.mem_range.mpr h1, List.mem_map.mpr ⟨p.2, List.mem_filter.mpr ⟨List.mem_range.mpr h2, h3⟩, rfl⟩⟩
theorem cond_ne {ms c : List Nat} {a b : Nat} (h : cond ms c a b = true) : a ≠ b := by
  rintro rfl
  obtain ⟨_, h2⟩ := Bool.and_eq_true_iff.mp h
  have h3 := of_decide_eq_true h2
  have : gd c a * gd ms a ≤ (gd c a + 1) * gd ms a := Nat.mul_le_mul_right _ (by omega)
  omega
theorem sum_set : ∀ {c : List Nat} {i x : Nat}, i < c.length → (c.set i x).sum + gd c i = c.sum + x
  | [], i, x, h => by simp at h
  | a :: r, 0, x, _ => by
    show (x :: r).sum + a = (a :: r).sum + x
    rw [List.sum_cons, List.sum_cons]
    omega
  | a :: r, i + 1, x, h => by
    have ih := sum_set (c := r) (i := i) (x := x) (by simpa using h)
    show (a :: r.set i x).sum + gd r i = (a :: r).sum + x
    rw [List.sum_cons, List.sum_cons]
    omega
theorem gd_set_ne {c : List Nat} {i j x : Nat} (h : i ≠ j) : gd (c.set i x) j = gd c j := by
  unfold gd
  rw [List.getD_eq_getElem?_getD, List.getD_eq_getElem?_getD, List.getElem?_set_ne h]
theorem mv_length (c : List Nat) (a b : Nat) : (mv c a b).length = c.length := by unfold mv; simp
theorem mv_sum {c : List Nat} {a b : Nat} (ha : a < c.length) (hb : b < c.length) (hab : a ≠ b) (h : 0 < gd c a) : (mv c a b).sum = c.sum := by
  have h1 := sum_set (x := gd c a - 1) ha
  have h2 := sum_set (c := c.set a (gd c a - 1)) (i := b) (x := gd c b + 1) (by simpa using hb)
  rw [gd_set_ne hab] at h2
  unfold mv
  omega
theorem run_keep {ms : List Nat} : ∀ (f : Nat) (c : List Nat), c.length = ms.length → (run ms f c).length = ms.length ∧ (run ms f c).sum = c.sum
  | 0, c, h => ⟨h, rfl⟩
  | f + 1, c, h => by
    unfold run
    split
    · exact ⟨h, rfl⟩
    · rename_i a b r e
      have m : (a, b) ∈ moves ms c := by rw [e]; exact List.mem_cons_self
      obtain ⟨h1, h2, h3⟩ := mem_moves.mp m
      have ne := cond_ne h3
      have hp := of_decide_eq_true (Bool.and_eq_true_iff.mp h3).1
      obtain ⟨q1, q2⟩ := run_keep (ms := ms) f (mv c a b) (by rw [mv_length, h])
      exact ⟨q1, by rw [q2, mv_sum (by rw [h]; exact h1) (by rw [h]; exact h2) ne hp]⟩
theorem sum_le_mul {k : Nat} : ∀ {l : List Nat}, (∀ x ∈ l, x ≤ k) → l.sum ≤ l.length * k
  | [], _ => by simp
  | x :: l, h => by
    rw [List.sum_cons, List.length_cons, Nat.add_mul, Nat.one_mul]
    have a := h x List.mem_cons_self
    have b := sum_le_mul (l := l) fun y hy => h y (List.mem_cons_of_mem _ hy)
    omega
theorem div_le_of {a b d : Nat} (hb : 0 < b) (hm : 1 ≤ d) : a / (b * d) ≤ a / b := by
  rw [← Nat.div_div_eq_div_mul]
  exact Nat.div_le_self _ _
theorem startT_sum {ms : List Nat} (hp : Pos ms) (hm : ms ≠ []) (n : Nat) : (startT ms n).sum ≤ n := by
  have hr : 0 < ms.length := List.length_pos_iff.mpr hm
  have h0 : 1 ≤ gd ms 0 := by
    cases ms with
    | nil => exact absurd rfl hm
    | cons m r => exact hp m List.mem_cons_self
  have k : ∀ x ∈ startT ms n, x ≤ n / ms.length := fun x hx => by
    obtain ⟨m, h1, rfl⟩ := List.mem_map.mp hx
    have hmm : 1 ≤ m := hp m (List.mem_of_mem_drop h1)
    rw [Nat.mul_div_mul_right _ _ (by omega)]
    exact div_le_of hr hmm
  have l : (startT ms n).length = ms.length - 1 := by unfold startT; simp
  have q := sum_le_mul k
  rw [l] at q
  have z : n / ms.length * ms.length ≤ n := Nat.div_mul_le_self n ms.length
  have z2 : (ms.length - 1) * (n / ms.length) ≤ ms.length * (n / ms.length) := Nat.mul_le_mul_right _ (by omega)
  rw [Nat.mul_comm (n / ms.length)] at z
  omega
theorem start_length {ms : List Nat} (hm : ms ≠ []) (n : Nat) : (start ms n).length = ms.length := by
  have hr : 0 < ms.length := List.length_pos_iff.mpr hm
  unfold start startT
  simp
  omega
theorem start_sum {ms : List Nat} (hp : Pos ms) (hm : ms ≠ []) (n : Nat) : (start ms n).sum = n := by
  have q := startT_sum hp hm n
  show ((n - (startT ms n).sum) :: startT ms n).sum = n
  rw [List.sum_cons]
  omega
theorem crowded_no {ms : List Nat} (hp : Pos ms) (hm : ms ≠ []) {n : Nat} (h : crowdAt ms n = false) : crowded ms n = false := by
  obtain ⟨q1, q2⟩ := run_keep (ms := ms) (4 * n) (start ms n) (start_length hm n)
  rw [start_sum hp hm] at q2
  apply decide_eq_false
  intro z
  have := crowd_of hm hp q1 z
  rw [q2, h] at this
  cases this
theorem balL_of {l : Nat} : ∀ {ms c : List Nat}, (∀ (i m k : Nat), ms[i]? = some m → c[i]? = some k → m * k ≤ l ∧ l ≤ m * (k + 1)) → BalL l ms c
  | [], c, _ => by cases c <;> exact True.intro
  | _ :: _, [], _ => True.intro
  | m :: ms, k :: c, h => ⟨(h 0 m k rfl rfl).1, (h 0 m k rfl rfl).2, balL_of fun i a b h1 h2 => h (i + 1) a b (by simpa using h1) (by simpa using h2)⟩
theorem gd_of {l : List Nat} {i x : Nat} (h : l[i]? = some x) : gd l i = x := by
  unfold gd
  rw [List.getD_eq_getElem?_getD, h]
  rfl
theorem nomoves_bal {ms c : List Nat} (hp : Pos ms) (hm : ms ≠ []) (hc : c.length = ms.length) (h : moves ms c = []) : ∃ l, 0 < l ∧ BalL l ms c := by
  obtain ⟨g, hb⟩ := nextH_at hc hm
  have hcb : nextH ms c < c.length := by rw [hc]; exact hb
  have e1 : ms[nextH ms c]? = some ms[nextH ms c] := List.getElem?_eq_getElem hb
  have e2 : c[nextH ms c]? = some c[nextH ms c] := List.getElem?_eq_getElem hcb
  have e3 := wts_get ms c _ _ _ e1 e2
  rw [g] at e3
  have e4 : minL (wts ms c) = ms[nextH ms c] * (c[nextH ms c] + 1) := Option.some.inj e3
  refine ⟨minL (wts ms c), ?_, balL_of fun i m k h1 h2 => ⟨?_, minL_le _ _ (List.mem_of_getElem? (wts_get ms c i m k h1 h2))⟩⟩
  · rw [e4]
    exact Nat.mul_pos (hp _ (List.getElem_mem hb)) (Nat.succ_pos _)
  · rw [e4]
    have hi : i < ms.length := (List.getElem?_eq_some_iff.mp h1).1
    have no : ¬ cond ms c i (nextH ms c) = true := fun z => by
      have : (i, nextH ms c) ∈ moves ms c := mem_moves.mpr ⟨hi, hb, z⟩
      rw [h] at this
      cases this
    unfold cond at no
    rw [gd_of h1, gd_of h2, gd_of e1, gd_of e2] at no
    rcases Nat.eq_zero_or_pos k with z | z
    · rw [z]
      omega
    · rw [decide_eq_true z, Bool.true_and] at no
      have n2 : ¬ (c[nextH ms c] + 1) * ms[nextH ms c] < k * m := fun q => no (decide_eq_true q)
      rw [Nat.mul_comm m k, Nat.mul_comm ms[nextH ms c]]
      omega
theorem crowded_yes {ms : List Nat} (hp : Pos ms) (hm : ms ≠ []) {n : Nat} (h : crowdAt ms n = true) (hn : moves ms (run ms (4 * n) (start ms n)) = []) : crowded ms n = true := by
  obtain ⟨q1, q2⟩ := run_keep (ms := ms) (4 * n) (start ms n) (start_length hm n)
  rw [start_sum hp hm] at q2
  obtain ⟨l, hl, b⟩ := nomoves_bal hp hm q1 hn
  apply decide_eq_true
  exact crowd_bal hm hp hl b q1 (by rw [q2]; exact h)
/-! ### the finite check -/
def toldF (ms : List Nat) : Nat → Nat → List Nat → Nat → Nat → Nat
  | 0, _, _, _, _ => 0
  | f + 1, n, c, fac, W =>
    bif Nat.blt (W * minL (wts ms c)) (fac * (n + 1)) then n + 1 else toldF ms f (n + 1) (inc c (nextH ms c)) (fac * (n + 1)) (W * minL (wts ms c))
theorem wt_dear {ms : List Nat} (hm : ms ≠ []) (n : Nat) : wt ms (dear ms (n + 1)) = wt ms (dear ms n) * minL (wts ms (dear ms n)) := by
  obtain ⟨g, hb⟩ := nextH_at (dear_length ms n) hm
  have hcb : nextH ms (dear ms n) < (dear ms n).length := by rw [dear_length]; exact hb
  have e1 : ms[nextH ms (dear ms n)]? = some ms[nextH ms (dear ms n)] := List.getElem?_eq_getElem hb
  have e2 : (dear ms n)[nextH ms (dear ms n)]? = some (dear ms n)[nextH ms (dear ms n)] := List.getElem?_eq_getElem hcb
  have e3 := wts_get ms _ _ _ _ e1 e2
  rw [g] at e3
  rw [Option.some.inj e3]
  exact wt_inc e2 e1
theorem crowdAt_wt {ms : List Nat} (hm : ms ≠ []) (n : Nat) : crowdAt ms n = Nat.blt (wt ms (dear ms n)) (fact n) := by
  unfold crowdAt
  rw [Bool.eq_iff_iff]
  constructor
  · intro h
    have q := fails_iff.mp (of_decide_eq_true h)
    rw [dear_sum hm] at q
    exact Nat.ble_eq_true_of_le q
  · intro h
    apply decide_eq_true
    rw [fails_iff, dear_sum hm]
    exact Nat.le_of_ble_eq_true h
theorem toldF_ok {ms : List Nat} (hm : ms ≠ []) : ∀ (f n : Nat), (∀ k, 1 ≤ k → k ≤ n → crowdAt ms k = false) → toldF ms f n (dear ms n) (fact n) (wt ms (dear ms n)) ≠ 0 → Told ms (toldF ms f n (dear ms n) (fact n) (wt ms (dear ms n)))
  | 0, n, _, h => absurd rfl h
  | f + 1, n, hk, h => by
    have e1 : wt ms (dear ms n) * minL (wts ms (dear ms n)) = wt ms (dear ms (n + 1)) := (wt_dear hm n).symm
    have e2 : fact n * (n + 1) = fact (n + 1) := rfl
    have e3 : inc (dear ms n) (nextH ms (dear ms n)) = dear ms (n + 1) := rfl
    have e4 := crowdAt_wt hm (n + 1)
    unfold toldF at h ⊢
    rw [e1, e2, e3, ← e4] at h ⊢
    cases q : crowdAt ms (n + 1) with
    | true => exact ⟨Nat.succ_pos n, q, fun k h1 h2 => hk k h1 (Nat.lt_succ_iff.mp h2)⟩
    | false =>
      rw [q] at h
      exact toldF_ok hm f (n + 1) (fun k h1 h2 => by
        rcases Nat.lt_or_ge k (n + 1) with z | z
        · exact hk k h1 (by omega)
        · have : k = n + 1 := by omega
          rw [this]
          exact q) h
def toldOf (ms : List Nat) : Nat := toldF ms 1100 0 (List.replicate ms.length 0) 1 1
theorem fil_zero : ∀ (ms : List Nat) (k : Nat), fil ms (List.replicate k 0) = 1
  | [], k => by cases k <;> rfl
  | m :: ms, 0 => rfl
  | m :: ms, k + 1 => by show m ^ 0 * fil ms (List.replicate k 0) = 1; rw [fil_zero ms k]; rfl
theorem bot_zero : ∀ (k : Nat), bot (List.replicate k 0) = 1
  | 0 => rfl
  | k + 1 => by show 1 * bot (List.replicate k 0) = 1; rw [bot_zero k]
theorem toldOf_ok {ms : List Nat} (hm : ms ≠ []) (h : toldOf ms ≠ 0) : Told ms (toldOf ms) := by
  have e : wt ms (dear ms 0) = 1 := by
    show bot (List.replicate ms.length 0) * fil ms (List.replicate ms.length 0) = 1
    rw [fil_zero, bot_zero]
  have q := toldF_ok hm 1100 0 (fun k h1 h2 => by omega)
  rw [e] at q
  exact q h
theorem toldF_le (ms : List Nat) : ∀ (f n : Nat) (c : List Nat) (x W : Nat), toldF ms f n c x W ≤ n + f
  | 0, n, c, x, W => Nat.zero_le _
  | f + 1, n, c, x, W => by
    unfold toldF
    cases Nat.blt (W * minL (wts ms c)) (x * (n + 1)) with
    | true => show n + 1 ≤ _; omega
    | false =>
      have := toldF_le ms f (n + 1) (inc c (nextH ms c)) (x * (n + 1)) (W * minL (wts ms c))
      show toldF ms f (n + 1) _ _ _ ≤ _
      omega
end K6
namespace K6
/-! ### the search in a quicker form -/
def qB (x : Nat) : List Nat → List Nat → Nat → Option Nat
  | m :: mr, k :: kr, i => bif Nat.blt ((k + 1) * m) x then some i else qB x mr kr (i + 1)
  | _, _, _ => none
def qA (ms c : List Nat) : List Nat → List Nat → Nat → Option (Nat × Nat)
  | m :: mr, k :: kr, i => bif Nat.blt 0 k then (match qB (k * m) ms c 0 with
      | some b => some (i, b)
      | none => qA ms c mr kr (i + 1)) else qA ms c mr kr (i + 1)
  | _, _, _ => none
def dec : List Nat → Nat → List Nat
  | [], _ => []
  | c :: r, 0 => (c - 1) :: r
  | c :: r, h + 1 => c :: dec r h
def qRun (ms : List Nat) : Nat → List Nat → Bool
  | 0, c => (qA ms c ms c 0).isNone
  | f + 1, c => match qA ms c ms c 0 with
    | none => true
    | some (a, b) => qRun ms f (inc (dec c a) b)
theorem qB_ok {ms c : List Nat} (hc : c.length = ms.length) (x : Nat) : ∀ (n i : Nat), i + n = ms.length → qB x (ms.drop i) (c.drop i) i = (List.range' i n).find? fun b => Nat.blt ((gd c b + 1) * gd ms b) x
  | 0, i, h => by
    rw [List.drop_eq_nil_of_le (by omega : ms.length ≤ i)]
    rfl
  | n + 1, i, h => by
    have h1 : i < ms.length := by omega
    have h2 : i < c.length := by omega
    rw [List.drop_eq_getElem_cons h1, List.drop_eq_getElem_cons h2, List.range'_succ, List.find?_cons]
    have e1 : gd ms i = ms[i] := gd_of (List.getElem?_eq_getElem h1)
    have e2 : gd c i = c[i] := gd_of (List.getElem?_eq_getElem h2)
    unfold qB
    rw [e1, e2]
    cases Nat.blt ((c[i] + 1) * ms[i]) x with
    | true => rfl
    | false => exact qB_ok hc x n (i + 1) (by omega)
theorem find_none_of {α : Type} {p : α → Bool} : ∀ {l : List α}, (∀ x ∈ l, p x = false) → l.find? p = none
  | [], _ => rfl
  | x :: l, h => by
    rw [List.find?_cons, h x List.mem_cons_self]
    exact find_none_of fun y hy => h y (List.mem_cons_of_mem _ hy)
theorem find_congr {α : Type} {p q : α → Bool} : ∀ {l : List α}, (∀ x ∈ l, p x = q x) → l.find? p = l.find? q
  | [], _ => rfl
  | x :: l, h => by
    rw [List.find?_cons, List.find?_cons, h x List.mem_cons_self, find_congr fun y hy => h y (List.mem_cons_of_mem _ hy)]
theorem qA_ok {ms c : List Nat} (hc : c.length = ms.length) : ∀ (n i : Nat), i + n = ms.length → qA ms c (ms.drop i) (c.drop i) i = (List.range' i n).findSome? fun a => ((List.range ms.length).find? (cond ms c a)).map fun b => (a, b)
  | 0, i, h => by
    rw [List.drop_eq_nil_of_le (by omega : ms.length ≤ i)]
    rfl
  | n + 1, i, h => by
    have h1 : i < ms.length := by omega
    have h2 : i < c.length := by omega
    rw [List.drop_eq_getElem_cons h1, List.drop_eq_getElem_cons h2, List.range'_succ, List.findSome?_cons]
    have e1 : gd ms i = ms[i] := gd_of (List.getElem?_eq_getElem h1)
    have e2 : gd c i = c[i] := gd_of (List.getElem?_eq_getElem h2)
    have ih := qA_ok hc n (i + 1) (by omega)
    unfold qA
    cases hk : Nat.blt 0 c[i] with
    | false =>
      have z : c[i] = 0 := by
        rcases Nat.eq_zero_or_pos c[i] with q | q
        · exact q
        · have : Nat.blt 0 c[i] = true := Nat.ble_eq_true_of_le q
          rw [this] at hk
          cases hk
      have e : (List.range ms.length).find? (cond ms c i) = none := find_none_of fun b _ => by
        unfold cond
        rw [e2, z]
        rfl
      rw [e]
      exact ih
    | true =>
      have z : 0 < c[i] := Nat.le_of_ble_eq_true hk
      have q := qB_ok hc (c[i] * ms[i]) ms.length 0 (by omega)
      rw [List.drop_zero, List.drop_zero, ← List.range_eq_range'] at q
      have e : (List.range ms.length).find? (cond ms c i) = (List.range ms.length).find? fun b => Nat.blt ((gd c b + 1) * gd ms b) (c[i] * ms[i]) := find_congr fun b _ => by
        unfold cond
        rw [e1, e2, decide_eq_true z, Bool.true_and]
        rw [Bool.eq_iff_iff]
        constructor
        · intro w
          exact Nat.ble_eq_true_of_le (of_decide_eq_true w)
        · intro w
          exact decide_eq_true (Nat.le_of_ble_eq_true w)
      rw [e, ← q]
      show (match qB (c[i] * ms[i]) ms c 0 with
        | some b => some (i, b)
        | none => qA ms c (ms.drop (i + 1)) (c.drop (i + 1)) (i + 1)) = _
      cases qB (c[i] * ms[i]) ms c 0 with
      | some b => rfl
      | none => exact ih
theorem moves_head {ms c : List Nat} (hc : c.length = ms.length) : (moves ms c).head? = qA ms c ms c 0 := by
  have q := qA_ok hc ms.length 0 (by omega)
  rw [List.drop_zero, List.drop_zero, ← List.range_eq_range'] at q
  rw [q]
  unfold moves
  rw [List.head?_flatMap]
  congr 1
  funext a
  rw [List.head?_map, List.head?_filter]
theorem dec_set : ∀ (c : List Nat) (a : Nat), c.set a (gd c a - 1) = dec c a
  | [], _ => rfl
  | c :: r, 0 => rfl
  | c :: r, a + 1 => by
    show c :: r.set a (gd r a - 1) = c :: dec r a
    rw [dec_set r a]
theorem mv_q {ms c : List Nat} {a b : Nat} (hab : a ≠ b) (hb : b < c.length) : mv c a b = inc (dec c a) b := by
  unfold mv
  rw [dec_set]
  apply inc_set
  rw [← dec_set, List.getElem?_set_ne hab, List.getElem?_eq_getElem hb]
  congr 1
  exact (gd_of (List.getElem?_eq_getElem hb)).symm
theorem qRun_ok {ms : List Nat} : ∀ (f : Nat) (c : List Nat), c.length = ms.length → qRun ms f c = true → moves ms (run ms f c) = []
  | 0, c, hc, h => by
    have h1 : (qA ms c ms c 0).isNone = true := h
    rw [← moves_head hc] at h1
    show moves ms c = []
    cases q : moves ms c with
    | nil => rfl
    | cons x r =>
      rw [q] at h1
      cases h1
  | f + 1, c, hc, h => by
    have e := moves_head hc
    unfold run
    split
    · rename_i q
      exact q
    · rename_i a b r q
      have m : (a, b) ∈ moves ms c := by rw [q]; exact List.mem_cons_self
      obtain ⟨h1, h2, h3⟩ := mem_moves.mp m
      rw [q] at e
      have e2 : qA ms c ms c 0 = some (a, b) := e.symm
      unfold qRun at h
      rw [e2] at h
      have h4 : qRun ms f (inc (dec c a) b) = true := h
      have hb : b < c.length := by rw [hc]; exact h2
      rw [← mv_q (ms := ms) (cond_ne h3) hb] at h4
      exact qRun_ok f (mv c a b) (by rw [mv_length, hc]) h4
def chk (ms : List Nat) : Bool := fits ms || (Nat.ble 2 (toldOf ms) && qRun ms (4 * toldOf ms) (start ms (toldOf ms)))
theorem chk_ok {ms : List Nat} (hp : Pos ms) (hm : ms ≠ []) (h : chk ms = true) (hf : fits ms = false) : ∃ t, Told ms t ∧ 2 ≤ t ∧ t ≤ 1100 ∧ crowded ms t = true := by
  unfold chk at h
  rw [hf, Bool.false_or] at h
  obtain ⟨h1, h2⟩ := Bool.and_eq_true_iff.mp h
  have h3 : 2 ≤ toldOf ms := Nat.le_of_ble_eq_true h1
  have T := toldOf_ok hm (by omega)
  have le : toldOf ms ≤ 1100 := by
    have := toldF_le ms 1100 0 (List.replicate ms.length 0) 1 1
    unfold toldOf
    omega
  exact ⟨_, T, h3, le, crowded_yes hp hm T.at_ (qRun_ok _ _ (start_length hm _) h2)⟩
end K6
namespace K6
/-! ### the share: by least common multiples, and by the product -/
def lcmS (b n : Nat) : Nat := b / Nat.gcd b n * n
theorem lcmS_eq (b n : Nat) : lcmS b n = Nat.lcm b n := by
  unfold lcmS Nat.lcm
  exact Nat.div_mul_right_comm (Nat.gcd_dvd_left b n) n
def lcmL (ms : List Nat) : Nat := ms.foldl lcmS 1
def parts (L : Nat) (ms : List Nat) : List Nat := ms.map fun n => L / n
theorem fold_dvd : ∀ (l : List Nat) (b : Nat), b ∣ l.foldl lcmS b ∧ ∀ n ∈ l, n ∣ l.foldl lcmS b
  | [], b => ⟨Nat.dvd_refl _, fun _ h => by cases h⟩
  | n :: l, b => by
    obtain ⟨h1, h2⟩ := fold_dvd l (lcmS b n)
    have d1 : b ∣ lcmS b n := by rw [lcmS_eq]; exact Nat.dvd_lcm_left b n
    have d2 : n ∣ lcmS b n := by rw [lcmS_eq]; exact Nat.dvd_lcm_right b n
    refine ⟨Nat.dvd_trans d1 h1, fun x hx => ?_⟩
    rcases List.mem_cons.mp hx with e | hx
    · rw [e]
      exact Nat.dvd_trans d2 h1
    · exact h2 x hx
theorem fold_least : ∀ (l : List Nat) (b c : Nat), b ∣ c → (∀ n ∈ l, n ∣ c) → l.foldl lcmS b ∣ c
  | [], _, _, h, _ => h
  | n :: l, b, c, h, hl => fold_least l (lcmS b n) c (by rw [lcmS_eq]; exact Nat.lcm_dvd h (hl n List.mem_cons_self)) fun x hx => hl x (List.mem_cons_of_mem _ hx)
theorem lcmL_dvd {ms : List Nat} {n : Nat} (h : n ∈ ms) : n ∣ lcmL ms := (fold_dvd ms 1).2 n h
theorem lcmL_prod (ms : List Nat) : lcmL ms ∣ prodL ms := fold_least ms 1 _ (Nat.one_dvd _) fun _ h => prodL_dvd h
theorem lcmL_pos {ms : List Nat} (hp : Pos ms) : 0 < lcmL ms := Nat.pos_of_dvd_of_pos (lcmL_prod ms) (prodL_pos hp)
theorem parts_mul (c L : Nat) : ∀ l : List Nat, (∀ n ∈ l, n ∣ L) → (parts (c * L) l).sum = c * (parts L l).sum
  | [], _ => rfl
  | n :: l, h => by
    have ih := parts_mul c L l fun x hx => h x (List.mem_cons_of_mem _ hx)
    unfold parts at ih ⊢
    rw [List.map_cons, List.sum_cons, List.map_cons, List.sum_cons, ih, Nat.mul_add, Nat.mul_div_assoc c (h n List.mem_cons_self)]
theorem parts_pos {L : Nat} (hL : 0 < L) : ∀ {l : List Nat}, l ≠ [] → (∀ n ∈ l, n ∣ L) → 0 < (parts L l).sum
  | [], h, _ => absurd rfl h
  | n :: l, _, h => by
    have hn := h n List.mem_cons_self
    have h1 : 0 < L / n := Nat.div_pos (Nat.le_of_dvd hL hn) (Nat.pos_of_dvd_of_pos hn hL)
    unfold parts
    rw [List.map_cons, List.sum_cons]
    omega
def shareT (ms : List Nat) : Nat := (parts (lcmL ms) ms).sum / Nat.gcd (parts (lcmL ms) ms).sum (lcmL ms)
def shareB (ms : List Nat) : Nat := lcmL ms / Nat.gcd (parts (lcmL ms) ms).sum (lcmL ms)
theorem share_prod {ms : List Nat} (hp : Pos ms) (hm : ms ≠ []) : (parts (prodL ms) ms).sum / Nat.gcd (prodL ms) (parts (prodL ms) ms).sum = shareT ms ∧ prodL ms / Nat.gcd (prodL ms) (parts (prodL ms) ms).sum = shareB ms ∧
    decide (shareT ms ≤ shareB ms) = fits ms := by
  obtain ⟨c, hc⟩ := lcmL_prod ms
  rw [Nat.mul_comm] at hc
  have hL := lcmL_pos hp
  have hP := prodL_pos hp
  have c0 : 0 < c := by
    rcases Nat.eq_zero_or_pos c with z | z
    · rw [z, Nat.zero_mul] at hc
      omega
    · exact z
  have hS := parts_mul c (lcmL ms) ms fun _ h => lcmL_dvd h
  rw [← hc] at hS
  have hS0 := parts_pos hL hm fun _ h => lcmL_dvd h
  have hf : fits ms = decide ((parts (prodL ms) ms).sum ≤ prodL ms) := rfl
  unfold shareT shareB
  rw [hf, hS, hc, Nat.gcd_mul_left, Nat.mul_div_mul_left _ _ c0, Nat.mul_div_mul_left _ _ c0, Nat.gcd_comm (lcmL ms)]
  refine ⟨rfl, rfl, ?_⟩
  rw [decide_eq_decide]
  obtain ⟨a, ha⟩ := Nat.gcd_dvd_left (parts (lcmL ms) ms).sum (lcmL ms)
  obtain ⟨b, hb⟩ := Nat.gcd_dvd_right (parts (lcmL ms) ms).sum (lcmL ms)
  have hg : 0 < Nat.gcd (parts (lcmL ms) ms).sum (lcmL ms) := Nat.gcd_pos_of_pos_right _ hL
  have e1 : (parts (lcmL ms) ms).sum / Nat.gcd (parts (lcmL ms) ms).sum (lcmL ms) = a := by rw [Nat.div_eq_of_eq_mul_right hg ha]
  have e2 : lcmL ms / Nat.gcd (parts (lcmL ms) ms).sum (lcmL ms) = b := by rw [Nat.div_eq_of_eq_mul_right hg hb]
  rw [e1, e2]
  constructor
  · intro h
    refine Nat.mul_le_mul_left c ?_
    rw [ha]
    refine Nat.le_trans (Nat.mul_le_mul_left _ h) ?_
    rw [← hb]
    exact Nat.le_refl _
  · intro h
    have h2 := Nat.le_of_mul_le_mul_left h c0
    have h3 : Nat.gcd (parts (lcmL ms) ms).sum (lcmL ms) * a ≤ Nat.gcd (parts (lcmL ms) ms).sum (lcmL ms) * b := by
      rw [← ha, ← hb]
      exact h2
    exact Nat.le_of_mul_le_mul_left h3 hg
/-! ### Euclid's way in 200 turns -/
def eS (p : Nat × Nat) : Nat × Nat := if 0 < p.2 then (p.2, p.1 % p.2) else p
def eu (p : Nat × Nat) : Nat → Nat × Nat
  | 0 => p
  | i + 1 => eS (eu p i)
theorem eS_gcd (p : Nat × Nat) : Nat.gcd (eS p).1 (eS p).2 = Nat.gcd p.1 p.2 := by
  unfold eS
  by_cases h : 0 < p.2
  · rw [if_pos h]
    show Nat.gcd p.2 (p.1 % p.2) = _
    rw [Nat.gcd_comm p.2, ← Nat.gcd_rec, Nat.gcd_comm]
  · rw [if_neg h]
theorem eu_gcd (p : Nat × Nat) : ∀ i, Nat.gcd (eu p i).1 (eu p i).2 = Nat.gcd p.1 p.2
  | 0 => rfl
  | i + 1 => by
    show Nat.gcd (eS (eu p i)).1 (eS (eu p i)).2 = _
    rw [eS_gcd, eu_gcd p i]
theorem eS_two (p : Nat × Nat) : 2 * (eS (eS p)).2 ≤ p.2 := by
  obtain ⟨x, y⟩ := p
  unfold eS
  by_cases h : 0 < y
  · show 2 * (if 0 < (if 0 < y then (y, x % y) else (x, y)).2 then _ else _ : Nat × Nat).2 ≤ y
    rw [if_pos h]
    by_cases h2 : 0 < x % y
    · show 2 * (if 0 < x % y then (x % y, y % (x % y)) else (y, x % y) : Nat × Nat).2 ≤ y
      rw [if_pos h2]
      show 2 * (y % (x % y)) ≤ y
      have a := Nat.mod_lt y h2
      have b := Nat.mod_lt x h
      have c := Nat.div_add_mod y (x % y)
      have d : 1 ≤ y / (x % y) := Nat.div_pos (Nat.le_of_lt b) h2
      have e : x % y * 1 ≤ x % y * (y / (x % y)) := Nat.mul_le_mul_left _ d
      rw [Nat.mul_one] at e
      generalize y % (x % y) = u at *
      generalize x % y * (y / (x % y)) = v at *
      omega
    · show 2 * (if 0 < x % y then (x % y, y % (x % y)) else (y, x % y) : Nat × Nat).2 ≤ y
      rw [if_neg h2]
      show 2 * (x % y) ≤ y
      omega
  · have hy : y = 0 := by omega
    subst hy
    exact Nat.le_refl _
theorem eu_small (p : Nat × Nat) : ∀ i, 2 ^ i * (eu p (2 * i)).2 ≤ p.2
  | 0 => by
    show 1 * p.2 ≤ p.2
    omega
  | i + 1 => by
    have h := eu_small p i
    have h2 := eS_two (eu p (2 * i))
    show 2 ^ (i + 1) * (eS (eS (eu p (2 * i)))).2 ≤ p.2
    rw [Nat.pow_succ, Nat.mul_assoc]
    exact Nat.le_trans (Nat.mul_le_mul_left _ h2) h
theorem eu_end {p : Nat × Nat} (h : p.2 < 2 ^ 100) : (eu p 200).1 = Nat.gcd p.1 p.2 := by
  have h1 : 2 ^ 100 * (eu p 200).2 ≤ p.2 := eu_small p 100
  have h2 : (eu p 200).2 = 0 := by
    false_or_by_contra
    rename_i z
    have : 2 ^ 100 * 1 ≤ 2 ^ 100 * (eu p 200).2 := Nat.mul_le_mul_left _ (by omega)
    omega
  have h3 := eu_gcd p 200
  rw [h2, Nat.gcd_zero_right] at h3
  exact h3
theorem eu_le (p : Nat × Nat) (B : Nat) (h : p.1 ≤ B ∧ p.2 ≤ B) : ∀ i, (eu p i).1 ≤ B ∧ (eu p i).2 ≤ B
  | 0 => h
  | i + 1 => by
    obtain ⟨h1, h2⟩ := eu_le p B h i
    show (eS (eu p i)).1 ≤ B ∧ (eS (eu p i)).2 ≤ B
    unfold eS
    by_cases z : 0 < (eu p i).2
    · rw [if_pos z]
      exact ⟨h2, Nat.le_trans (Nat.mod_le _ _) h1⟩
    · rw [if_neg z]
      exact ⟨h1, h2⟩
end K6
namespace K6
theorem fact_succ (n : Nat) : fact (n + 1) = (n + 1) * fact n := by
  show fact n * (n + 1) = _
  exact Nat.mul_comm _ _
theorem ord_inc_mul {c : List Nat} {h k : Nat} (e : c[h]? = some k) : ord (inc c h) * (k + 1) = ord c * (c.sum + 1) := by
  have hl : h < c.length := (List.getElem?_eq_some_iff.mp e).1
  have h1 := ord_mul (inc c h)
  have h2 := ord_mul c
  rw [inc_bot c h k e, inc_sum c h hl] at h1
  have h3 : fact (c.sum + 1) = (c.sum + 1) * fact c.sum := fact_succ _
  rw [h3, ← h2] at h1
  refine Nat.eq_of_mul_eq_mul_right (bot_pos c) ?_
  have e1 : ord (inc c h) * (k + 1) * bot c = ord (inc c h) * (bot c * (k + 1)) := by
    rw [Nat.mul_assoc, Nat.mul_comm (k + 1)]
  have e2 : ord c * (c.sum + 1) * bot c = (c.sum + 1) * (ord c * bot c) := by
    rw [Nat.mul_comm (ord c), Nat.mul_assoc]
  rw [e1, e2]
  exact h1
theorem rep_get {k i b : Nat} (h : (List.replicate k 1)[i]? = some b) : b = 1 := by
  have := List.mem_of_getElem? h
  exact (List.mem_replicate.mp this).2
theorem sum_rep : ∀ k : Nat, (List.replicate k 1).sum = k
  | 0 => rfl
  | k + 1 => by
    rw [List.replicate_succ, List.sum_cons, sum_rep k]
    omega
theorem ord_le : ∀ (n : Nat) (c : List Nat), c.sum = n → ord c ≤ c.length ^ n
  | 0, c, h => by
    have h1 := ord_mul c
    rw [h] at h1
    have h2 : fact 0 = 1 := rfl
    rw [h2] at h1
    have := Nat.le_mul_of_pos_right (ord c) (bot_pos c)
    rw [Nat.pow_zero]
    omega
  | n + 1, c, h => by
    have key := sum_mul_le (c := c) (q := List.replicate c.length 1) (X := ord c) (W := (n + 1) * c.length ^ n) (by rw [List.length_replicate]) (fun i a b ha hb => by
      rw [rep_get hb, Nat.one_mul]
      cases a with
      | zero =>
        rw [Nat.zero_mul]
        exact Nat.zero_le _
      | succ j =>
        obtain ⟨d, e1, e2, e3⟩ := dec_of (ms := c) ha
        have hd : d.sum = n := by
          have hl : i < d.length := (List.getElem?_eq_some_iff.mp e2).1
          have := inc_sum d i hl
          rw [e1, h] at this
          omega
        have h1 := ord_inc_mul e2
        rw [e1, hd] at h1
        have h2 := ord_le n d hd
        rw [e3] at h2
        rw [Nat.mul_comm, h1, Nat.mul_comm]
        exact Nat.mul_le_mul_left _ h2)
    rw [sum_rep, h] at key
    have e : c.length * ((n + 1) * c.length ^ n) = (n + 1) * (c.length ^ (n + 1)) := by
      rw [Nat.pow_succ, Nat.mul_left_comm, Nat.mul_comm (c.length ^ n)]
    rw [e] at key
    exact Nat.le_of_mul_le_mul_left key (Nat.succ_pos n)
theorem ord_four {c : List Nat} (hl : c.length ≤ 4) : ord c ≤ 4 ^ c.sum := Nat.le_trans (ord_le _ c rfl) (Nat.pow_le_pow_left hl _)
theorem ord_bits {c : List Nat} (hl : c.length ≤ 4) : ord c < 2 ^ (2 * c.sum + 1) := by
  refine Nat.lt_of_le_of_lt (ord_four hl) ?_
  rw [show (4 : Nat) = 2 ^ 2 from rfl, ← Nat.pow_mul]
  exact Nat.pow_lt_pow_right (by decide) (by omega)
theorem fact_bits : ∀ n, n ≤ 4096 → fact n ≤ 2 ^ (12 * n)
  | 0, _ => Nat.le_refl _
  | n + 1, h => by
    have ih := fact_bits n (by omega)
    have e : 2 ^ (12 * (n + 1)) = 4096 * 2 ^ (12 * n) := by
      rw [Nat.mul_add, Nat.pow_add, Nat.mul_comm]
    rw [e, fact_succ]
    exact Nat.mul_le_mul h ih
theorem fil_bits : ∀ {ms c : List Nat}, (∀ m ∈ ms, m ≤ 64) → fil ms c ≤ 2 ^ (6 * c.sum)
  | [], c, _ => by
    cases c with
    | nil => exact Nat.le_refl _
    | cons x c => exact Nat.one_le_two_pow
  | m :: ms, [], _ => Nat.le_refl _
  | m :: ms, x :: c, h => by
    have ih := fil_bits (ms := ms) (c := c) fun y hy => h y (List.mem_cons_of_mem _ hy)
    have hm := h m List.mem_cons_self
    have e : fil (m :: ms) (x :: c) = m ^ x * fil ms c := rfl
    rw [e, List.sum_cons, Nat.mul_add, Nat.pow_add]
    refine Nat.mul_le_mul ?_ ih
    rw [Nat.pow_mul]
    exact Nat.pow_le_pow_left hm x
end K6
namespace K6
/-! ### the finite check -/
def rng : List Nat := [1, 2, 3, 4, 5, 6, 7]
theorem rng_mem {m : Nat} (h1 : 1 ≤ m) (h7 : m ≤ 7) : m ∈ rng := by
  unfold rng
  simp only [List.mem_cons, List.mem_nil_iff, or_false]
  omega
theorem chk2 : (rng.all fun a => rng.all fun b => chk [a, b]) = true := by decide +kernel
theorem chk3 : (rng.all fun a => rng.all fun b => rng.all fun c => chk [a, b, c]) = true := by decide +kernel
theorem chkS : ([[2, 2, 9], [1, 60], [2, 3, 6, 60]].all chk) = true := by decide +kernel
theorem chk4_11 : (rng.all fun c => rng.all fun d => chk [1, 1, c, d]) = true := by decide +kernel
theorem chk4_12 : (rng.all fun c => rng.all fun d => chk [1, 2, c, d]) = true := by decide +kernel
theorem chk4_13 : (rng.all fun c => rng.all fun d => chk [1, 3, c, d]) = true := by decide +kernel
theorem chk4_14 : (rng.all fun c => rng.all fun d => chk [1, 4, c, d]) = true := by decide +kernel
theorem chk4_15 : (rng.all fun c => rng.all fun d => chk [1, 5, c, d]) = true := by decide +kernel
theorem chk4_16 : (rng.all fun c => rng.all fun d => chk [1, 6, c, d]) = true := by decide +kernel
theorem chk4_17 : (rng.all fun c => rng.all fun d => chk [1, 7, c, d]) = true := by decide +kernel
theorem chk4_21 : (rng.all fun c => rng.all fun d => chk [2, 1, c, d]) = true := by decide +kernel
theorem chk4_22 : (rng.all fun c => rng.all fun d => chk [2, 2, c, d]) = true := by decide +kernel
theorem chk4_23 : (rng.all fun c => rng.all fun d => chk [2, 3, c, d]) = true := by decide +kernel
theorem chk4_24 : (rng.all fun c => rng.all fun d => chk [2, 4, c, d]) = true := by decide +kernel
theorem chk4_25 : (rng.all fun c => rng.all fun d => chk [2, 5, c, d]) = true := by decide +kernel
theorem chk4_26 : (rng.all fun c => rng.all fun d => chk [2, 6, c, d]) = true := by decide +kernel
theorem chk4_27 : (rng.all fun c => rng.all fun d => chk [2, 7, c, d]) = true := by decide +kernel
theorem chk4_31 : (rng.all fun c => rng.all fun d => chk [3, 1, c, d]) = true := by decide +kernel
theorem chk4_32 : (rng.all fun c => rng.all fun d => chk [3, 2, c, d]) = true := by decide +kernel
theorem chk4_33 : (rng.all fun c => rng.all fun d => chk [3, 3, c, d]) = true := by decide +kernel
theorem chk4_34 : (rng.all fun c => rng.all fun d => chk [3, 4, c, d]) = true := by decide +kernel
theorem chk4_35 : (rng.all fun c => rng.all fun d => chk [3, 5, c, d]) = true := by decide +kernel
theorem chk4_36 : (rng.all fun c => rng.all fun d => chk [3, 6, c, d]) = true := by decide +kernel
theorem chk4_37 : (rng.all fun c => rng.all fun d => chk [3, 7, c, d]) = true := by decide +kernel
theorem chk4_41 : (rng.all fun c => rng.all fun d => chk [4, 1, c, d]) = true := by decide +kernel
theorem chk4_42 : (rng.all fun c => rng.all fun d => chk [4, 2, c, d]) = true := by decide +kernel
theorem chk4_43 : (rng.all fun c => rng.all fun d => chk [4, 3, c, d]) = true := by decide +kernel
theorem chk4_44 : (rng.all fun c => rng.all fun d => chk [4, 4, c, d]) = true := by decide +kernel
theorem chk4_45 : (rng.all fun c => rng.all fun d => chk [4, 5, c, d]) = true := by decide +kernel
theorem chk4_46 : (rng.all fun c => rng.all fun d => chk [4, 6, c, d]) = true := by decide +kernel
theorem chk4_47 : (rng.all fun c => rng.all fun d => chk [4, 7, c, d]) = true := by decide +kernel
theorem chk4_51 : (rng.all fun c => rng.all fun d => chk [5, 1, c, d]) = true := by decide +kernel
theorem chk4_52 : (rng.all fun c => rng.all fun d => chk [5, 2, c, d]) = true := by decide +kernel
theorem chk4_53 : (rng.all fun c => rng.all fun d => chk [5, 3, c, d]) = true := by decide +kernel
theorem chk4_54 : (rng.all fun c => rng.all fun d => chk [5, 4, c, d]) = true := by decide +kernel
theorem chk4_55 : (rng.all fun c => rng.all fun d => chk [5, 5, c, d]) = true := by decide +kernel
theorem chk4_56 : (rng.all fun c => rng.all fun d => chk [5, 6, c, d]) = true := by decide +kernel
theorem chk4_57 : (rng.all fun c => rng.all fun d => chk [5, 7, c, d]) = true := by decide +kernel
theorem chk4_61 : (rng.all fun c => rng.all fun d => chk [6, 1, c, d]) = true := by decide +kernel
theorem chk4_62 : (rng.all fun c => rng.all fun d => chk [6, 2, c, d]) = true := by decide +kernel
theorem chk4_63 : (rng.all fun c => rng.all fun d => chk [6, 3, c, d]) = true := by decide +kernel
theorem chk4_64 : (rng.all fun c => rng.all fun d => chk [6, 4, c, d]) = true := by decide +kernel
theorem chk4_65 : (rng.all fun c => rng.all fun d => chk [6, 5, c, d]) = true := by decide +kernel
theorem chk4_66 : (rng.all fun c => rng.all fun d => chk [6, 6, c, d]) = true := by decide +kernel
theorem chk4_67 : (rng.all fun c => rng.all fun d => chk [6, 7, c, d]) = true := by decide +kernel
theorem chk4_71 : (rng.all fun c => rng.all fun d => chk [7, 1, c, d]) = true := by decide +kernel
theorem chk4_72 : (rng.all fun c => rng.all fun d => chk [7, 2, c, d]) = true := by decide +kernel
theorem chk4_73 : (rng.all fun c => rng.all fun d => chk [7, 3, c, d]) = true := by decide +kernel
theorem chk4_74 : (rng.all fun c => rng.all fun d => chk [7, 4, c, d]) = true := by decide +kernel
theorem chk4_75 : (rng.all fun c => rng.all fun d => chk [7, 5, c, d]) = true := by decide +kernel
theorem chk4_76 : (rng.all fun c => rng.all fun d => chk [7, 6, c, d]) = true := by decide +kernel
theorem chk4_77 : (rng.all fun c => rng.all fun d => chk [7, 7, c, d]) = true := by decide +kernel
theorem all_of {p : Nat → Bool} (h : rng.all p = true) {m : Nat} (h1 : 1 ≤ m) (h7 : m ≤ 7) : p m = true := List.all_eq_true.mp h m (rng_mem h1 h7)
theorem chk4 {a b c d : Nat} (ha : 1 ≤ a ∧ a ≤ 7) (hb : 1 ≤ b ∧ b ≤ 7) (hc : 1 ≤ c ∧ c ≤ 7) (hd : 1 ≤ d ∧ d ≤ 7) : chk [a, b, c, d] = true := by
  have go : ∀ {x y : Nat}, (rng.all fun c => rng.all fun d => chk [x, y, c, d]) = true → chk [x, y, c, d] = true := fun h => all_of (p := fun d => chk [_, _, c, d]) (all_of (p := fun c => rng.all fun d => chk [_, _, c, d]) h hc.1 hc.2) hd.1 hd.2
  have ea : a = 1 ∨ a = 2 ∨ a = 3 ∨ a = 4 ∨ a = 5 ∨ a = 6 ∨ a = 7 := by omega
  have eb : b = 1 ∨ b = 2 ∨ b = 3 ∨ b = 4 ∨ b = 5 ∨ b = 6 ∨ b = 7 := by omega
  rcases ea with rfl | rfl | rfl | rfl | rfl | rfl | rfl
  · rcases eb with rfl | rfl | rfl | rfl | rfl | rfl | rfl
    · exact go chk4_11
    · exact go chk4_12
    · exact go chk4_13
    · exact go chk4_14
    · exact go chk4_15
    · exact go chk4_16
    · exact go chk4_17
  · rcases eb with rfl | rfl | rfl | rfl | rfl | rfl | rfl
    · exact go chk4_21
    · exact go chk4_22
    · exact go chk4_23
    · exact go chk4_24
    · exact go chk4_25
    · exact go chk4_26
    · exact go chk4_27
  · rcases eb with rfl | rfl | rfl | rfl | rfl | rfl | rfl
    · exact go chk4_31
    · exact go chk4_32
    · exact go chk4_33
    · exact go chk4_34
    · exact go chk4_35
    · exact go chk4_36
    · exact go chk4_37
  · rcases eb with rfl | rfl | rfl | rfl | rfl | rfl | rfl
    · exact go chk4_41
    · exact go chk4_42
    · exact go chk4_43
    · exact go chk4_44
    · exact go chk4_45
    · exact go chk4_46
    · exact go chk4_47
  · rcases eb with rfl | rfl | rfl | rfl | rfl | rfl | rfl
    · exact go chk4_51
    · exact go chk4_52
    · exact go chk4_53
    · exact go chk4_54
    · exact go chk4_55
    · exact go chk4_56
    · exact go chk4_57
  · rcases eb with rfl | rfl | rfl | rfl | rfl | rfl | rfl
    · exact go chk4_61
    · exact go chk4_62
    · exact go chk4_63
    · exact go chk4_64
    · exact go chk4_65
    · exact go chk4_66
    · exact go chk4_67
  · rcases eb with rfl | rfl | rfl | rfl | rfl | rfl | rfl
    · exact go chk4_71
    · exact go chk4_72
    · exact go chk4_73
    · exact go chk4_74
    · exact go chk4_75
    · exact go chk4_76
    · exact go chk4_77
theorem chk_dom {ms : List Nat} (h : (2 ≤ ms.length ∧ ms.length ≤ 4 ∧ ∀ m ∈ ms, 1 ≤ m ∧ m ≤ 7) ∨ ms = [2, 2, 9] ∨ ms = [1, 60] ∨ ms = [2, 3, 6, 60]) : chk ms = true := by
  rcases h with ⟨h2, h4, h7⟩ | h
  · match ms, h2, h4, h7 with
    | [a, b], _, _, h7 =>
      have ha := h7 a (by simp)
      have hb := h7 b (by simp)
      exact all_of (all_of chk2 ha.1 ha.2) hb.1 hb.2
    | [a, b, c], _, _, h7 =>
      have ha := h7 a (by simp)
      have hb := h7 b (by simp)
      have hc := h7 c (by simp)
      exact all_of (all_of (all_of chk3 ha.1 ha.2) hb.1 hb.2) hc.1 hc.2
    | [a, b, c, d], _, _, h7 => exact chk4 (h7 a (by simp)) (h7 b (by simp)) (h7 c (by simp)) (h7 d (by simp))
  · refine List.all_eq_true.mp chkS ms ?_
    simp only [List.mem_cons, List.mem_nil_iff, or_false]
    exact h
end K6
/-! further rules over the layer -/
namespace W6
open PySem PySem.Spec PyProof.Rows L2
abbrev St : Type := L2.St
/-! ### floor division that does not go by pylong -/
def CDivP (i j : Int) : Prop := 0 < j ∧ Builtin.divisionGoesByPylong i j = false
section
variable {X : Cx}
theorem op_fdivP : OpR X (binaryOp .FloorDiv) (rI CDivP fun i j => .int (i / j)) := opI fun i j _ _ _ _ _ hc q => by
  have h1 : (0 : Int) < j := hc.1
  exact floordiv_int (by omega) (by rw [Int.fdiv_eq_ediv_of_nonneg i (by omega)]; exact q) (.inl hc.2)
end
/-! ### a list or a tuple -/
def SqB (k : Bool) (K : PySem.W.Frag) (H : Hp) (a : Addr) (xs : List V) : Prop := match k with
  | true => SqL K H a xs
  | false => SqT K H a xs
def Sq (K : PySem.W.Frag) (H : Hp) (a : Addr) (xs : List V) : Prop := SqL K H a xs ∨ SqT K H a xs
theorem Sq.kind {K : PySem.W.Frag} {H : Hp} {a : Addr} {xs : List V} (h : Sq K H a xs) : ∃ k, SqB k K H a xs := by
  rcases h with h | h
  · exact ⟨true, h⟩
  · exact ⟨false, h⟩
theorem SqB.sq {k : Bool} {K : PySem.W.Frag} {H : Hp} {a : Addr} {xs : List V} (h : SqB k K H a xs) : Sq K H a xs := by
  cases k with
  | true => exact .inl h
  | false => exact .inr h
theorem rd_same {H H' : Hp} {a : Addr} {u : HO} (e : Same H H') (h : Rd H a u) : Rd H' a u := by
  rcases h with h | ⟨o, h⟩
  · exact .inl (e _ _ h)
  · exact .inr ⟨o, e _ _ h⟩
theorem same_t {K : PySem.W.Frag} {H H' : Hp} {a : Addr} {xs : List V} (e : Same H H') (h : SqT K H a xs) : SqT K H' a xs := by
  rcases h with h | h
  · exact .inl (rd_same e h)
  · exact .inr h
theorem same_b {k : Bool} {K : PySem.W.Frag} {H H' : Hp} {a : Addr} {xs : List V} (e : Same H H') (h : SqB k K H a xs) : SqB k K H' a xs := by
  cases k with
  | true => exact e.seq h
  | false => exact same_t e h
theorem same_s {K : PySem.W.Frag} {H H' : Hp} {a : Addr} {xs : List V} (e : Same H H') (h : Sq K H a xs) : Sq K H' a xs := by
  rcases h with h | h
  · exact .inl (e.seq h)
  · exact .inr (same_t e h)
theorem same_upd {H : Hp} {p : Addr} {o : HO} (h : H p = none) : Same H (upd H p o) := fun b x e => by
  rw [upd_ne (ne_of_none e h)]
  exact e
def itB (k : Bool) (h : Heap) (it a : Addr) (i : Nat) : Prop := match k with
  | true => h.IsListIter it a i
  | false => h.IsTupleIter it a i
def obB (k : Bool) (h : Heap) (a : Addr) (its : Array Value) : Prop := match k with
  | true => h.IsList a its
  | false => h.IsTuple a its
def mkB (k : Bool) (a : Addr) : Obj := match k with
  | true => { cls := .type "list_iterator", data := .fields #[.ref a, .int 0 0] }
  | false => { cls := .type "tuple_iterator", data := .fields #[.ref a, .int 0 0] }
section
variable {X : Cx} {pins : List (Addr × Obj)} {σ : St} {H : Hp} {s : Shared} {a : Addr} {xs ys : List V} {k : Bool}
theorem sqB_ok (I : Inv X pins σ H s) (h : SqB k X.K H a xs) : ∃ its : List Value, Vals xs its ∧ obB k s.heap a its.toArray ∧ xs.length ≤ sizeLine := by
  cases k with
  | true =>
    obtain ⟨its, rv, p, z⟩ := I.list h
    exact ⟨its, rv, p.isList, z⟩
  | false =>
    obtain ⟨its, rv, p, z⟩ := I.tuple h
    exact ⟨its, rv, p, z⟩
theorem sqB_inj (I : Inv X pins σ H s) (h : SqB k X.K H a xs) (h' : SqB k X.K H a ys) : xs = ys := by
  cases k with
  | true => exact I.list_inj h h'
  | false => exact I.tuple_inj h h'
end
theorem obB_lt {k : Bool} {h : Heap} {a : Addr} {its : Array Value} (x : obB k h a its) : a < h.objs.size := by
  cases k with
  | true => obtain ⟨o, e, _⟩ := x; exact Heap.lt_size e
  | false => obtain ⟨o, e, _⟩ := x; exact Heap.lt_size e
theorem itB_lt {k : Bool} {h : Heap} {it a : Addr} {i : Nat} (x : itB k h it a i) : it < h.objs.size := by
  cases k with
  | true => obtain ⟨o, e, _⟩ := x; exact Heap.lt_size e
  | false => obtain ⟨o, e, _⟩ := x; exact Heap.lt_size e
theorem itB_obj {k : Bool} {h : Heap} {it a : Addr} {i : Nat} (x : itB k h it a i) : ∃ o, h.get? it = some o ∧ ∀ v, o.data ≠ .cell v := by
  cases k with
  | true => obtain ⟨o, e, _, d⟩ := x; exact ⟨o, e, fun v q => by rw [d] at q; cases q⟩
  | false => obtain ⟨o, e, _, d⟩ := x; exact ⟨o, e, fun v q => by rw [d] at q; cases q⟩
theorem itB_at {k : Bool} {h h' : Heap} {it a : Addr} {i : Nat} (x : itB k h it a i) (e : ∀ o, h.get? it = some o → h'.get? it = some o) : itB k h' it a i := by
  cases k with
  | true =>
    have x' : h.IsListIter it a i := x
    exact x'.at e
  | false =>
    have x' : h.IsTupleIter it a i := x
    exact x'.at e
theorem draws_b (k : Bool) {prog : Program} {w : World} {A : Around} (hh : A.handled = none) (it t : Addr) (hne : t ≠ it) (items : Array Value) :
    Draws prog w A it [it, t] items.size (fun i v => items[i]? = some v) (fun i h => itB k h it t i ∧ obB k h t items) := by
  cases k with
  | true => exact Draws.list hh it t hne items
  | false => exact Draws.tuple hh it t hne items
theorem begins_b (k : Bool) (a : Addr) (items : Array Value) : Begins (.ref a) (mkB k a) fun h => obB k h a items := by
  cases k with
  | true => exact begins_list a items
  | false => exact begins_tuple a items
theorem mkB_it {k : Bool} {h : Heap} {it a : Addr} (e : h.get? it = some (mkB k a)) : itB k h it a 0 := by
  cases k with
  | true => exact ⟨_, e, rfl, rfl⟩
  | false => exact ⟨_, e, rfl, rfl⟩
/-! ### zip of two, each a list or a tuple -/
def ItzB (K : PySem.W.Frag) (k1 k2 : Bool) (a b : Addr) : It :=
  ⟨fun i H => ∃ (xs ys : List V) (x y : V), SqB k1 K H a xs ∧ SqB k2 K H b ys ∧ xs[i]? = some x ∧ ys[i]? = some y,
    fun i H v H' => ∃ T x y, v = .ref T ∧ H T = none ∧ H' = upd H T (.tup [x, y]) ∧ (∀ xs, SqB k1 K H a xs → xs[i]? = some x) ∧ ∀ ys, SqB k2 K H b ys → ys[i]? = some y,
    fun i H => ∃ xs ys : List V, SqB k1 K H a xs ∧ SqB k2 K H b ys ∧ (xs.length = i ∧ i ≤ ys.length ∨ ys.length = i ∧ i ≤ xs.length)⟩
theorem turn_zipB {P : Program} {w : World} {K : PySem.W.Frag} {elts : List Expr} {kk : Nat} {tpos : Pos} {a b z TI TO i1 i2 : Addr} {k1 k2 : Bool} (D : ZipSep2 z TI TO i1 i2 [i1, a] [i2, b]) (na : a ≠ i1) (nb : b ≠ i2) :
    Turn P w K (.Tuple elts kk tpos) (ItzB K k1 k2 a b) [z, TI, TO, i1, i2] z (fun i h => IsZip h z TI TO .none ∧ IsTupOf2 h TI (.ref i1) (.ref i2) ∧ (∃ x y, IsTupOf2 h TO x y) ∧ itB k1 h i1 a i ∧ itB k2 h i2 b i) where
  mem := by simp
  obj := fun i h st c hc => by
    obtain ⟨hz, hTI, ⟨x, y, hTO⟩, h1, h2⟩ := st
    have e' : c = z ∨ c = TI ∨ c = TO ∨ c = i1 ∨ c = i2 := by simpa using hc
    rcases e' with q | q | q | q | q
    · rw [q]; exact ⟨_, hz, fun v q => nomatch q⟩
    · rw [q]; exact ⟨_, hTI, fun v q => nomatch q⟩
    · rw [q]; exact ⟨_, hTO, fun v q => nomatch q⟩
    · rw [q]; exact itB_obj h1
    · rw [q]; exact itB_obj h2
  keep := fun i h h' st k => by
    obtain ⟨hz, hTI, ⟨x, y, hTO⟩, h1, h2⟩ := st
    exact ⟨k z (by simp) _ hz, k TI (by simp) _ hTI, ⟨x, y, k TO (by simp) _ hTO⟩, itB_at h1 fun o q => k i1 (by simp) o q, itB_at h2 fun o q => k i2 (by simp) o q⟩
  item := by
    intro X hP hw hK hc i pins s σ H E I hf st hg
    subst hP hw hK
    obtain ⟨hz, hTI, ⟨x0, y0, hTO⟩, h1, h2⟩ := st
    obtain ⟨xs, ys, x, y, hqx, hqy, hx, hy⟩ := hg
    obtain ⟨its, rv, p, _⟩ := sqB_ok I hqx
    obtain ⟨its2, rv2, p2, _⟩ := sqB_ok I hqy
    obtain ⟨u, hu, ru⟩ := rv.get hx
    obtain ⟨u2, hu2, ru2⟩ := rv2.get hy
    have hzl : z < s.heap.objs.size := Heap.lt_size hz
    have l1 : i < its.toArray.size := by
      have := (List.getElem?_eq_some_iff.mp hu).1
      simpa using this
    have l2 : i < its2.toArray.size := by
      have := (List.getElem?_eq_some_iff.mp hu2).1
      simpa using this
    refine wpAny_pyNext_zipD2_item D (draws_b k1 (A := X.A.in1) (I.ok.hd hc) i1 a na its.toArray) (draws_b k2 (A := X.A.in1) (I.ok.hd hc) i2 b nb its2.toArray) hz hTI hTO ⟨h1, p⟩ ⟨h2, p2⟩ l1 l2 fun v1 v2 h' tk e1 e2 z' TO' h1' h2' hT hsz hk => ?_
    obtain rfl : u = v1 := by
      have q : its.toArray[i]? = some u := by simpa using hu
      exact Option.some.inj (q.symm.trans e1)
    obtain rfl : u2 = v2 := by
      have q : its2.toArray[i]? = some u2 := by simpa using hu2
      exact Option.some.inj (q.symm.trans e2)
    refine ⟨_, rfl, wpAny_letOwnedTupleGo_zip (s := { s with heap := h', toks := tk }) z' fun h'' z'' sb => ?_⟩
    have hT2 : h''.get? s.heap.objs.size = some { cls := .type "tuple", data := .seq #[u, u2] } := (sb.2 _ (Nat.ne_of_gt hzl)).trans hT
    have new : ObjOk X.prog X.w (upd H s.heap.objs.size (.tup [x, y])) h'' s.heap.objs.size (.tup [x, y]) :=
      ⟨by show 2 ≤ sizeLine; decide, [u, u2], .cons ru (.cons ru2 .nil), ⟨_, hT2, rfl, _, rfl⟩⟩
    have I1 : Inv X pins σ (upd H s.heap.objs.size (.tup [x, y])) { s with heap := h'', toks := tk } :=
      I.turnedNew (t' := tk) (ch := [z, TI, TO, i1, i2]) (fun c o hb q => (sb.2 c (fun q' => hb (by simp [q']))).trans (hk c o (fun q' => hb (by simp [q'])) (fun q' => hb (by simp [q'])) (fun q' => hb (by simp [q'])) (fun q' => hb (by simp [q'])) q)) hf (Nat.le_refl _) new
    refine ⟨.ref s.heap.objs.size, _, I1, rfl, ⟨_, x, y, rfl, I.hok.fresh (Nat.le_refl _), rfl, fun l hl => by rw [sqB_inj I hl hqx]; exact hx, fun l hl => by rw [sqB_inj I hl hqy]; exact hy⟩, ⟨z'', ?_, ⟨u, u2, ?_⟩, ?_, ?_⟩, fun c hcm => ?_⟩
    · exact (sb.2 _ D.TIz).trans (hk _ _ D.TIz D.TITO D.TIi1 D.TIi2 hTI)
    · exact (sb.2 _ D.TOz).trans TO'
    · exact itB_at h1'.1 fun o q => (sb.2 _ D.zi1.symm).trans q
    · exact itB_at h2'.1 fun o q => (sb.2 _ D.zi2.symm).trans q
    · have hlt : c < s.heap.objs.size := by
        have e' : c = z ∨ c = TI ∨ c = TO ∨ c = i1 ∨ c = i2 := by simpa using hcm
        rcases e' with q | q | q | q | q
        · rw [q]; exact hzl
        · rw [q]; exact Heap.lt_size hTI
        · rw [q]; exact Heap.lt_size hTO
        · rw [q]; exact itB_lt h1
        · rw [q]; exact itB_lt h2
      rw [upd_ne (Nat.ne_of_lt hlt)]
      exact (hf c hcm).1
  done := by
    intro X hP hw hK hc i pins s σ H E I hf st hg
    subst hP hw hK
    obtain ⟨hz, hTI, ⟨x0, y0, hTO⟩, h1, h2⟩ := st
    obtain ⟨xs, ys, hqx, hqy, hend⟩ := hg
    obtain ⟨its, rv, p, _⟩ := sqB_ok I hqx
    obtain ⟨its2, rv2, p2, _⟩ := sqB_ok I hqy
    have l1 : its.toArray.size = xs.length := by rw [List.size_toArray]; exact rv.length.symm
    have l2 : its2.toArray.size = ys.length := by rw [List.size_toArray]; exact rv2.length.symm
    exact wpAny_pyNext_zipD2_end D (draws_b k1 (A := X.A.in1) (I.ok.hd hc) i1 a na its.toArray) (draws_b k2 (A := X.A.in1) (I.ok.hd hc) i2 b nb its2.toArray) hz hTI hTO ⟨h1, p⟩ ⟨h2, p2⟩ (by omega) (by omega) (by omega) fun h' tk hk => ⟨rfl, I.turnedL (t' := tk) (ch := [z, TI, TO, i1, i2]) (fun c o hb q =>
      hk c o (fun q' => hb (by simp [q'])) (fun q' => hb (by simp [q'])) (fun q' => hb (by simp [q'])) (fun q' => hb (by simp [q'])) q) hf⟩
  self := fun A i s Q E st h => wpAny_pyIter_zip st.1 h
def iZipB (K : PySem.W.Frag) (k1 k2 : Bool) (ta : TA) : TI := fun σ H R => ta σ H fun vs H1 => ∃ a b xs ys, vs = [.ref a, .ref b] ∧ SqB k1 K H1 a xs ∧ SqB k2 K H1 b ys ∧ R (ItzB K k1 k2 a b) H1
theorem sep_of {N a b : Nat} (ha : a < N) (hb : b < N) : ZipSep2 (N + 4) (N + 2) (N + 3) N (N + 1) [N, a] [N + 1, b] :=
  zip_sep2 (fp1 := [a]) (fp2 := [b]) (fun c hc => by have e : c = a := by simpa using hc
                                                     rw [e]; exact ha) (fun c hc => by have e : c = b := by simpa using hc
                                                                                       rw [e]; exact hb)
theorem pi_zipB (k1 k2 : Bool) {X : Cx} {e e2 : Expr} {ta : TA} {p pos tpos : Pos} {elts : List Expr} {kk : Nat} (hg : Gl X "zip") (hm : X.mg "zip" = none) (ha : PA X [e, e2] ta)
    (hs : starEach [e, e2] X.env = (false, eval e X.env) :: starEach [e2] X.env := by rfl) (hpl : (backTo pos (starEach [e2] X.env)).any (·.1) = false := by rfl) :
    PI X (.Tuple elts kk tpos) (.Call (.Name "zip" p) [e, e2] [] pos) (iZipB X.K k1 k2 ta) := by
  refine ⟨fun pins s σ H R I h => ?_⟩
  refine Call_ (ld_blt I hg hm PyProof.Rows.boot_zip (PyProof.Rows.callWith_type1 (thn (ha.run pos pins s σ H _ I h) fun us s1 ⟨vs, H1, I1, r1, q1⟩ => ?_) hs hpl))
  obtain ⟨a, b, xs, ys, ex, hqx, hqy, q⟩ := q1
  subst ex
  obtain ⟨u1, u2, rfl, r, r'⟩ := vals2 r1
  cases r
  cases r'
  have fresh5 : ∀ c, c ∈ [s1.heap.objs.size + 4, s1.heap.objs.size + 2, s1.heap.objs.size + 3, s1.heap.objs.size, s1.heap.objs.size + 1] → FpOk X pins H1 c := fun c hcm => by
    have e' : c = s1.heap.objs.size + 4 ∨ c = s1.heap.objs.size + 2 ∨ c = s1.heap.objs.size + 3 ∨ c = s1.heap.objs.size ∨ c = s1.heap.objs.size + 1 := by simpa using hcm
    have hle : s1.heap.objs.size ≤ c := by
      rcases e' with z | z | z | z | z
      · rw [z]; exact Nat.le_add_right _ _
      · rw [z]; exact Nat.le_add_right _ _
      · rw [z]; exact Nat.le_add_right _ _
      · rw [z]; exact Nat.le_refl _
      · rw [z]; exact Nat.le_add_right _ _
    exact I1.fpOk hle (I1.hok.fresh hle)
  obtain ⟨its, rv, p1, _⟩ := sqB_ok I1 hqx
  obtain ⟨its2, rv2, p2, _⟩ := sqB_ok I1 hqy
  have la := obB_lt p1
  have lb := obB_lt p2
  refine zip_begins2 (begins_b k1 a its.toArray) (begins_b k2 b its2.toArray) p1 p2 fun h' hz hTI hTO h1 h2 hsz hk => wpAny_pyIter_zip hz ?_
  have I2 : Inv X pins σ H1 { s1 with heap := h' } := I1.kept (t' := s1.toks) hk
  exact ⟨s1.heap.objs.size + 4, [s1.heap.objs.size + 4, s1.heap.objs.size + 2, s1.heap.objs.size + 3, s1.heap.objs.size, s1.heap.objs.size + 1], _, _, H1, rfl, I2, turn_zipB (sep_of la lb) (Nat.ne_of_lt la) (Nat.ne_of_lt (Nat.lt_succ_of_lt lb)), ⟨hz, hTI, ⟨_, _, hTO⟩, mkB_it h1, mkB_it h2⟩, fresh5, q⟩
end W6
namespace W6
open PySem PySem.Spec PyProof.Rows L2
/-! ### loops and comprehensions over a list or a tuple -/
def ItB (k : Bool) (K : PySem.W.Frag) (a : Addr) : It := match k with
  | true => Itl K a
  | false => Itt K a
def iSq (K : PySem.W.Frag) (k : Bool) (tl : TE) : TI := fun σ H R => tl σ H fun x H1 => ∃ a, x = .ref a ∧ (∃ xs, SqB k K H1 a xs) ∧ R (ItB k K a) H1
section
variable {X : Cx} {tg : Expr}
theorem pi_sq (k : Bool) {l : Expr} {tl : TE} (hl : PE X l tl) : PI X tg l (iSq X.K k tl) := by
  cases k with
  | true => exact pi_list hl
  | false => exact pi_tup hl
end
theorem for_sq {k : Bool} {K : PySem.W.Frag} {a : Addr} {xs : List V} {g : TG} {tb : TS} {D : Ends} {σ : St} {H : Hp} (Pv : Nat → St → Hp → Prop) (h0 : Pv 0 σ H) (hl : ∀ i σ H, i ≤ xs.length → Pv i σ H → SqB k K H a xs)
    (hs : ∀ i x σ H, xs[i]? = some x → Pv i σ H → g x σ H fun σ2 H2 => tb { D with nx := Pv (i + 1), ct := Pv (i + 1), bk := D.nx } σ2 H2) (hd : ∀ σ H, Pv xs.length σ H → D.nx σ H) :
    ∃ W : Nat → Nat → St → Hp → Prop, (∃ m, W 0 m σ H) ∧ ∀ i m σ H, W i m σ H →
      ((ItB k K a).stop i H ∧ D.nx σ H) ∨ ((ItB k K a).go i H ∧ ∃ N : St → Hp → Prop, (∀ σ' H', N σ' H' → ∃ m', m' < m ∧ W (i + 1) m' σ' H') ∧ ∀ x H', (ItB k K a).yld i H x H' → g x σ H' fun σ2 H2 => tb { D with nx := N, ct := N, bk := D.nx } σ2 H2) := by
  cases k with
  | true => exact for_list (K := K) (a := a) (xs := xs) Pv h0 hl hs hd
  | false => exact for_tup (K := K) (a := a) (xs := xs) Pv h0 hl hs hd
theorem lc_sq {k : Bool} {K : PySem.W.Frag} {a : Addr} {xs : List V} {g : TG} {tt : TT} {te : TE} {vs : List Nat} {σ : St} {H1 : Hp} {D : Addr} {Qd : Hp → Prop} (Pv : Nat → Hp → Prop) (h0 : Pv 0 (upd H1 D (.lst []))) (hl : ∀ i H, i ≤ xs.length → Pv i H → SqB k K H a xs)
    (hs : ∀ i x H, xs[i]? = some x → Pv i H → g x (wipe σ vs) H fun σ2 H2 => wipe σ2 vs = wipe σ vs ∧ tt σ2 H2 fun b H3 =>
      if b = true then te σ2 H3 fun y H4 => ∃ acc, H4 D = some (.lst acc) ∧ acc.length < sizeLine ∧ Pv (i + 1) (upd H4 D (.lst (acc ++ [y]))) else Pv (i + 1) H3) (hd : ∀ H, Pv xs.length H → Qd H) :
    ∃ W : Nat → Nat → Hp → Prop, (∃ m, W 0 m (upd H1 D (.lst []))) ∧ ∀ i m H, W i m H →
      ((ItB k K a).stop i H ∧ Qd H) ∨ ((ItB k K a).go i H ∧ ∃ Nx : Hp → Prop, (∀ H', Nx H' → ∃ m', m' < m ∧ W (i + 1) m' H') ∧ ∀ x H', (ItB k K a).yld i H x H' → g x (wipe σ vs) H' fun σ2 H2 => wipe σ2 vs = wipe σ vs ∧ tt σ2 H2 fun b H3 =>
        if b = true then te σ2 H3 fun y H4 => ∃ acc, H4 D = some (.lst acc) ∧ acc.length < sizeLine ∧ Nx (upd H4 D (.lst (acc ++ [y]))) else Nx H3) := by
  cases k with
  | true => exact lc_list (K := K) (a := a) (xs := xs) Pv h0 hl hs hd
  | false => exact lc_tup (K := K) (a := a) (xs := xs) Pv h0 hl hs hd
/-! ### over zip -/
theorem for_zip2 {K : PySem.W.Frag} {k1 k2 : Bool} {a b : Addr} {xs ys : List V} {g : TG} {tb : TS} {D : Ends} {σ : St} {H : Hp} (hl : xs.length = ys.length) (Pv : Nat → St → Hp → Prop) (h0 : Pv 0 σ H) (hq : ∀ i σ H, Pv i σ H → SqB k1 K H a xs ∧ SqB k2 K H b ys)
    (hs : ∀ (i : Nat) (x y : V) (T : Addr) (σ : St) (H : Hp), xs[i]? = some x → ys[i]? = some y → Pv i σ H → H T = none → g (.ref T) σ (upd H T (.tup [x, y])) fun σ2 H2 => tb { D with nx := Pv (i + 1), ct := Pv (i + 1), bk := D.nx } σ2 H2) (hd : ∀ σ H, Pv xs.length σ H → D.nx σ H) :
    ∃ W : Nat → Nat → St → Hp → Prop, (∃ m, W 0 m σ H) ∧ ∀ i m σ H, W i m σ H →
      ((ItzB K k1 k2 a b).stop i H ∧ D.nx σ H) ∨ ((ItzB K k1 k2 a b).go i H ∧ ∃ N : St → Hp → Prop, (∀ σ' H', N σ' H' → ∃ m', m' < m ∧ W (i + 1) m' σ' H') ∧ ∀ v H', (ItzB K k1 k2 a b).yld i H v H' → g v σ H' fun σ2 H2 => tb { D with nx := N, ct := N, bk := D.nx } σ2 H2) := by
  refine ⟨fun i m σ H => m = xs.length - i ∧ i ≤ xs.length ∧ Pv i σ H, ⟨xs.length, rfl, Nat.zero_le _, h0⟩, ?_⟩
  rintro i m σ H ⟨rfl, hi, p⟩
  obtain ⟨qx, qy⟩ := hq i σ H p
  by_cases hlt : i < xs.length
  · have hx : xs[i]? = some xs[i] := List.getElem?_eq_getElem hlt
    have hlt2 : i < ys.length := by omega
    have hy : ys[i]? = some ys[i] := List.getElem?_eq_getElem hlt2
    refine .inr ⟨⟨xs, ys, _, _, qx, qy, hx, hy⟩, Pv (i + 1), fun σ' H' p' => ⟨xs.length - (i + 1), by omega, rfl, hlt, p'⟩, fun v H' y => ?_⟩
    obtain ⟨T, x', y', rfl, hT, rfl, f1, f2⟩ := y
    exact hs i x' y' T σ H (f1 xs qx) (f2 ys qy) p hT
  · have e : i = xs.length := by omega
    subst e
    exact .inl ⟨⟨xs, ys, qx, qy, Or.inl ⟨rfl, by omega⟩⟩, hd σ H p⟩
theorem lc_zip2 {K : PySem.W.Frag} {k1 k2 : Bool} {a b : Addr} {xs ys : List V} {g : TG} {tt : TT} {te : TE} {vs : List Nat} {σ : St} {H1 : Hp} {D : Addr} {Qd : Hp → Prop} (hl : xs.length = ys.length) (Pv : Nat → Hp → Prop) (h0 : Pv 0 (upd H1 D (.lst []))) (hq : ∀ i H, Pv i H → SqB k1 K H a xs ∧ SqB k2 K H b ys)
    (hs : ∀ (i : Nat) (x y : V) (T : Addr) (H : Hp), xs[i]? = some x → ys[i]? = some y → Pv i H → H T = none → g (.ref T) (wipe σ vs) (upd H T (.tup [x, y])) fun σ2 H2 => wipe σ2 vs = wipe σ vs ∧ tt σ2 H2 fun b H3 =>
      if b = true then te σ2 H3 fun y H4 => ∃ acc, H4 D = some (.lst acc) ∧ acc.length < sizeLine ∧ Pv (i + 1) (upd H4 D (.lst (acc ++ [y]))) else Pv (i + 1) H3) (hd : ∀ H, Pv xs.length H → Qd H) :
    ∃ W : Nat → Nat → Hp → Prop, (∃ m, W 0 m (upd H1 D (.lst []))) ∧ ∀ i m H, W i m H →
      ((ItzB K k1 k2 a b).stop i H ∧ Qd H) ∨ ((ItzB K k1 k2 a b).go i H ∧ ∃ Nx : Hp → Prop, (∀ H', Nx H' → ∃ m', m' < m ∧ W (i + 1) m' H') ∧ ∀ x H', (ItzB K k1 k2 a b).yld i H x H' → g x (wipe σ vs) H' fun σ2 H2 => wipe σ2 vs = wipe σ vs ∧ tt σ2 H2 fun b H3 =>
        if b = true then te σ2 H3 fun y H4 => ∃ acc, H4 D = some (.lst acc) ∧ acc.length < sizeLine ∧ Nx (upd H4 D (.lst (acc ++ [y]))) else Nx H3) := by
  refine ⟨fun i m H => m = xs.length - i ∧ i ≤ xs.length ∧ Pv i H, ⟨xs.length, by simp, Nat.zero_le _, h0⟩, ?_⟩
  rintro i m H ⟨rfl, hi, p⟩
  obtain ⟨qx, qy⟩ := hq i H p
  by_cases hlt : i < xs.length
  · have hx : xs[i]? = some xs[i] := List.getElem?_eq_getElem hlt
    have hlt2 : i < ys.length := by omega
    have hy : ys[i]? = some ys[i] := List.getElem?_eq_getElem hlt2
    refine .inr ⟨⟨xs, ys, _, _, qx, qy, hx, hy⟩, Pv (i + 1), fun H' p' => ⟨xs.length - (i + 1), by omega, rfl, hlt, p'⟩, fun v H' y => ?_⟩
    obtain ⟨T, x', y', rfl, hT, rfl, f1, f2⟩ := y
    exact hs i x' y' T H (f1 xs qx) (f2 ys qy) p hT
  · have e : i = xs.length := by omega
    subst e
    exact .inl ⟨⟨xs, ys, qx, qy, Or.inl ⟨rfl, by omega⟩⟩, hd H p⟩
/-! ### sum of a list or a tuple -/
def rSumS (K : PySem.W.Frag) : List V → Hp → VK → Prop := fun vs H Q => ∃ (a : Addr) (ns : List Int), vs = [V.ref a] ∧ Sq K H a (ns.map V.int) ∧ Q (.int ns.sum) H
section
variable {X : Cx}
theorem sum_tup {prog : Program} {w : World} {A : Around} {E : Value → Shared → Prop} {s : Shared} {l : Addr} {its : List Value} {ns : List Int} {Q : Value → Shared → Prop} (hh : A.handled = none) (hl : s.heap.IsTuple l its.toArray) (hi : IntsAre its ns)
    (h : ∀ h' tk t', (∀ b o, s.heap.get? b = some o → h'.get? b = some o) → Q (.int ns.sum t') { s with heap := h', toks := tk }) : wpAny (model prog w) A (call (.builtin "sum") [.ref l]) Q E s := by
  obtain ⟨xs, e⟩ := hi.allInts.items
  have hn : numsOf (PySem.intItems xs).toList = ns := by rw [← e]; exact hi.numsOf
  rw [PySem.nums_intItems] at hn
  rw [e] at hl
  refine PySem.W.ktm_sumG hh hl fun h' tk t' hk => ?_
  have := h h' tk t' hk
  rw [PySem.preSum_eq, List.take_of_length_le (by simp), hn]
  exact this
theorem cr_sumS (hc : X.calm = true) : CallR X (.builtin "sum") (rSumS X.K) := by
  intro pins s σ H vs us Q I r h
  obtain ⟨a, ns, rfl, hs, q⟩ := h
  rcases hs with hs | hs
  · exact cr_sum hc pins s σ H _ us Q I r ⟨a, ns, rfl, hs, q⟩
  · obtain ⟨its, rv, hl, _⟩ := I.tuple hs
    rw [Vals.ref1 r]
    exact sum_tup (I.ok.hd hc) (show s.heap.IsTuple a its.toArray from hl) rv.ints fun h' tk t' hk => ⟨.int _, H, I.kept hk, ⟨_, rfl⟩, q⟩
end
/-! ### xs[i] as what is read ahead of xs[i] += .. -/
section
variable {X : Cx}
def rGetL (K : PySem.W.Frag) : V → V → Hp → VK → Prop := fun o i H Q => ∃ p xs j v, o = .ref p ∧ i = .int ((j : Nat) : Int) ∧ SqL K H p xs ∧ xs[j]? = some v ∧ Q v H
theorem get_list : PGet X (rGetL X.K) := by
  intro pins s σ H o i ov iv Q I ro ri h
  obtain ⟨p, xs, j, z, rfl, rfl, hq, he, q⟩ := h
  cases ro
  obtain ⟨t, rfl⟩ := ri
  obtain ⟨its, r, pl, hz⟩ := I.list hq
  obtain ⟨w, ew, rw'⟩ := r.get he
  have hl := r.length
  have hj : j < its.length := (List.getElem?_eq_some_iff.mp ew).1
  have hn := line63
  have fin : EP X pins σ Q w s := ⟨z, H, I, rw', q⟩
  exact wpAny_getItem_list pl.isList (by omega) (by omega) (x := w) (by simpa using ew) fin
end
end W6
namespace W6
open PySem PySem.Spec PyProof.Rows L2
/-! ### repr of plain values -/
def repV : V → Option Str
  | .non => some "None"
  | .bl b => some (if b then "True" else "False")
  | .int i => some (toString i)
  | .str x => some (reprText x)
  | _ => none
def rRepA : List V → Hp → VK → Prop := fun xs H Q => ∃ (x : V) (t : Str), xs = [x] ∧ repV x = some t ∧ (∀ i, x = .int i → i.natAbs.log2 < 1920) ∧ (∀ y, x = .str y → (reprText y).length ≤ sizeLine) ∧ Q (.str t) H
section
variable {X : Cx}
theorem call_reprA : CallR X (.builtin "repr") rRepA := by
  intro pins s σ H xs us Q I r h
  obtain ⟨x, t, rfl, hr, hi, hy, q⟩ := h
  obtain ⟨u, rfl, rx⟩ := vals1 r
  cases x with
  | non =>
    cases rx
    cases hr
    exact PySem.P.repr_of_none ⟨.str _, H, I.tok _, ⟨_, rfl⟩, q⟩
  | bl b =>
    cases rx
    cases hr
    exact PySem.P.repr_of_bool ⟨.str _, H, I.tok _, ⟨_, rfl⟩, q⟩
  | int i =>
    obtain ⟨k, rfl⟩ := rx
    cases hr
    exact PySem.P.repr_of_int (hi i rfl) ⟨.str _, H, I.tok _, ⟨_, rfl⟩, q⟩
  | str y =>
    obtain ⟨k, rfl⟩ := rx
    cases hr
    exact PySem.P.repr_of_str ⟨.str _, H, I.tok _, ⟨_, rfl⟩, q⟩ (hy y rfl)
  | _ => cases hr
/-! ### repr of data -/
def rRepD (K : PySem.W.Frag) : List V → Hp → VK → Prop := fun xs H Q => ∃ (a : Addr) (d : PyData), xs = [.ref a] ∧ Dp K H (.ref a) d ∧ d.showable = true ∧ d.hasDict = false ∧ d.depth ≤ 60 ∧ d.shown.length ≤ sizeLine ∧ Q (.str d.shown) H
theorem call_reprD (hg : X.A.guards = some []) (hu : X.A.units + 64 < cLine) : CallR X (.builtin "repr") (rRepD X.K) := by
  intro pins s σ H xs us Q I r h
  obtain ⟨a, d, rfl, hd, h1, h2, h3, h4, q⟩ := h
  obtain ⟨u, rfl, rx⟩ := vals1 r
  obtain ⟨as, rd⟩ := Dp.reads I d (.ref a) u hd rx
  cases rx
  exact repr_of_reads' rd h1 (PyData.noDict_hsm h2) hg (by omega) (fun _ _ e => e) (fun h' u tk hk => ⟨.str _, H, I.kept hk, ⟨_, rfl⟩, q⟩) h4
end
/-! ### calls by keywords alone; calls of a local name by keywords -/
section
variable {X : Cx} {CX : CXT} {k n i : Nat} {f : Addr} {fd : FuncData} {ps ks : List Str} {sp : Sp} {E : XK} {x : Str} {p pos : Pos} {e : Expr} {es : List Expr} {kws : List Keyword} {t tk : TA} {g : List Value → List Value → List Value} {gV : List V → List V → List V}
def tCallN0 (m : Nat) (sp : Sp) (gV : List V → List V → List V) (E : XK) (tk : TA) : TE := fun σ H Q => tk σ H fun zs H2 => zs.length = m ∧ sp (gV [] zs) H2 Q E
theorem pe_callN0 (F : FnOk X.prog X.w X.K X.mg X.base CX k f fd ps sp) (hr : Room k X.A) (hg : Gl X x) (hm : X.mg x = some (.ref f)) (hk : PySem.W.keepIn X.K (.ref f) = true) (hb : KBn X.K fd ps 0 ks g gV) (hx : Passes CX X E)
    (hkw : PK X kws tk) (hall : (backToKw pos (keywordEach kws X.env)).all (·.1.isSome) = true := by rfl) (hks : (backToKw pos (keywordEach kws X.env)).filterMap (·.1) = ks := by rfl)
    (hdb : (x == ("__debug__" : Str)) = false := by decide)
    (hpl : ((backTo pos (starEach [] X.env)).any (·.1) || (backToKw pos (keywordEach kws X.env)).any (·.1.isNone)) = false := by rfl) :
    PE X (.Call (.Name x p) [] kws pos) (tCallN0 ks.length sp gV E tk) := by
  refine ⟨fun pins s σ H Q I h => ?_⟩
  refine wpAny_Call_Name_kw (ld_glob I hg hm ?_ hdb)
  refine PySem.W.callWith_KW0 (h₀ := X.base) I.ok.mod.kin hk hall ?_ hpl
  refine thn (hkw.run pos pins s σ H _ I h) fun ws s2 ⟨zs, H2, I2, rz, l2, q2⟩ => ⟨I2.kIn, ?_⟩
  rw [hks]
  exact run_fnN F hr hb hx I2 .nil rz rfl l2 q2
theorem run_fnNS {pins : List (Addr × Obj)} {σ : St} {H : Hp} {s : Shared} {Q : VK} {E : St → XK} {us ws : List Value} {vs zs : List V} (F : FnOk X.prog X.w X.K X.mg X.base CX k f fd ps sp) (hr : Room k X.A) (hb : KBn X.K fd ps n ks g gV) (hx : PassesAt CX X σ (E σ))
    (I : Inv X pins σ H s) (r : Vals vs us) (rz : Vals zs ws) (l1 : vs.length = n) (l2 : zs.length = ks.length) (h : sp (gV vs zs) H Q (E σ)) : wpAny (model X.prog X.w) X.A (call (.ref f) us (ks.zip ws)) (EP X pins σ Q) X.xe s := by
  have r2 := hb.rel r rz
  refine wpAny_call (codeAny_mono (F.run X.A X.stack s H ⟨us, ks.zip ws⟩ (g us ws) (gV vs zs) Q (E σ) hr I.env0 (hb.to s us ws I.kIn (r.length.symm.trans l1) (rz.length.symm.trans l2)) r2 h) fun r s' hq => ?_)
  cases r with
  | error e => exact hx pins H s e s' I hq
  | ok fl =>
    cases fl with
    | ret u => exact I.after hq
    | next => exact False.elim hq
    | brk => exact False.elim hq
    | cont => exact False.elim hq
/-- a def that a local name may hold, called with n values and keywords ks -/
structure HeldN (P : Program) (w : World) (K : PySem.W.Frag) (mg : Str → Option Value) (base : Heap) (CX : CXT) (k n : Nat) (ks : List Str) (f : Addr) (sp : Sp) (gV : List V → List V → List V) : Prop where
  ex : ∃ (fd : FuncData) (ps : List Str) (g : List Value → List Value → List Value), FnOk P w K mg base CX k f fd ps sp ∧ PySem.W.keepIn K (.ref f) = true ∧ KBn K fd ps n ks g gV
def tCallLN (i n m : Nat) (S : Addr → Sp → (List V → List V → List V) → Prop) (E : St → XK) (t tk : TA) : TE := fun σ H Q => ∃ f sp gV, σ[i]? = some (some (.ref f)) ∧ S f sp gV ∧ t σ H fun vs H1 => tk σ H1 fun zs H2 => vs.length = n ∧ zs.length = m ∧ sp (gV vs zs) H2 Q (E σ)
theorem pe_callLN {E : St → XK} {S : Addr → Sp → (List V → List V → List V) → Prop} (A : ∀ f sp gV, S f sp gV → HeldN X.prog X.w X.K X.mg X.base CX k n ks f sp gV) (hr : Room k X.A) (hN : X.N[i]? = some x) (hv : Vis X.env.scope x) (hx : ∀ σ, PassesAt CX X σ (E σ))
    (ha : PA X (e :: es) t) (hkw : PK X kws tk) (hall : (backToKw pos (keywordEach kws X.env)).all (·.1.isSome) = true := by rfl) (hks : (backToKw pos (keywordEach kws X.env)).filterMap (·.1) = ks := by rfl)
    (hdb : (x == ("__debug__" : Str)) = false := by decide) (hcd : (x == ("__classdict__" : Str)) = false := by decide) (he : starEach (e :: es) X.env = (false, eval e X.env) :: starEach es X.env := by rfl)
    (hpl : ((backTo pos (starEach (e :: es) X.env)).any (·.1) || (backToKw pos (keywordEach kws X.env)).any (·.1.isNone)) = false := by rfl) :
    PE X (.Call (.Name x p) (e :: es) kws pos) (tCallLN i n ks.length S E t tk) := by
  refine ⟨fun pins s σ H Q I h => ?_⟩
  obtain ⟨f, sp, gV, hs, hS, ht⟩ := h
  obtain ⟨fd, ps, g, F, hk, hb⟩ := (A f sp gV hS).ex
  refine wpAny_Call_Name_kw (thn ((pe_var (pos := p) hN hv hdb hcd).run pins s σ H (fun v H1 => v = .ref f ∧ H1 = H) I ⟨.ref f, hs, rfl, rfl⟩) fun u s1 ⟨v, H1, I1, r1, q1⟩ => ?_)
  obtain ⟨rfl, rfl⟩ := q1
  cases r1
  refine PySem.W.callWith_KW (h₀ := X.base) I.ok.mod.kin hk hall (thn (ha.run pos pins s1 σ _ _ I1 ht) fun us s2 ⟨vs, H2, I2, r, q⟩ => ?_) hpl he
  refine thn (hkw.run pos pins s2 σ H2 _ I2 q) fun ws s3 ⟨zs, H3, I3, rz, l1, l2, q2⟩ => ⟨I3.kIn, ?_⟩
  rw [hks]
  exact run_fnNS F hr hb (hx σ) I3 r rz l1 l2 q2
end
/-! ### xs[::s], s = -1 -/
section
variable {X : Cx}
def tRevS (K : PySem.W.Frag) (te ts : TE) : TE := fun σ H Q => te σ H fun x H1 => tPart ts σ H1 fun o H2 => ∃ a xs, x = .ref a ∧ o = some (-1) ∧ SqL K H2 a xs ∧ ∀ p, H2 p = none → Q (.ref p) (upd H2 p (.lst xs.reverse))
theorem pe_revS {e es : Expr} {te ts : TE} {p3 pos : Pos} (he : PE X e te) (hst : PE X es ts) : PE X (.Subscript e (.Slice none none (some es) p3) pos) (tRevS X.K te ts) := by
  refine ⟨fun pins s σ H Q I h => ?_⟩
  refine Subscript_ (thn (he.run pins s σ H _ I h) fun v s1 ⟨x, H1, I1, r1, q1⟩ => ?_)
  have hso : PO X (some es) (tPart ts) := po_some hst
  refine wpAny_Slice (thn (po_none.run pins s1 σ H1 (fun o H2 => o = none ∧ H2 = H1) I1 ⟨rfl, rfl⟩) fun vl s2 ⟨l, H2, I2, pl, el, e2⟩ => ?_)
  subst el e2
  refine thn (po_none.run pins s2 σ H2 (fun o H3 => o = none ∧ H3 = H2) I2 ⟨rfl, rfl⟩) fun vu s3 ⟨u, H3, I3, pu, eu, e3⟩ => ?_
  subst eu e3
  refine thn (hso.run pins s3 σ H3 _ I3 q1) fun vs s4 ⟨o, H4, I4, ps, q4⟩ => ?_
  obtain ⟨a, xs, ex, eo, hx, q⟩ := q4
  subst ex eo
  cases r1
  have I5 : Inv X pins σ H4 { s4 with heap := s4.heap.push { cls := .type "slice", data := .fields #[vl, vu, vs] } } := I4.kept (t' := s4.toks) fun b ob q => Heap.get?_push_of_some _ q
  obtain ⟨its, r, ht, hz⟩ := I5.list hx
  have hlen := r.length
  show wpAny (model X.prog X.w) X.A (subscriptTail e (.Slice none none (some es) p3) (.ref a) (.ref s4.heap.objs.size)) (EP X pins σ Q) X.xe { s4 with heap := s4.heap.push { cls := .type "slice", data := .fields #[vl, vu, vs] } }
  refine tail_any (ops := [.ref a, .ref s4.heap.objs.size]) ht.isList.typeIs (PySem.slot_list_getitem.lookup) ?_ (by with_unfolding_all rfl)
  refine wpAny_getItem_list_slice ht.isList (Heap.IsSliceOf.new _ vl vu vs) pl pu ps (by decide) ?_ (by rw [List.size_toArray]; omega)
  rw [PySem.W.krv_pick]
  refine ⟨.ref _, _, I5.laid (t' := s4.toks) (o := .lst xs.reverse) (fun b ob q => Heap.get?_push_of_some _ q) (Nat.le_refl _) ?_, rfl, q _ (I5.hok.fresh (Nat.le_refl _))⟩
  exact ⟨by rw [List.length_reverse]; exact hz, _, 0, r.reverse, Heap.get?_push_size _ rfl⟩
end
/-! ### isinstance of the error in hand, its dict there -/
section
theorem call_isD {X : Cx} {a D dd : Addr} {oe : Obj} {pn : List (Addr × Obj)} (C : ExcC X.K D) (hz : Zc (.ref D) (some dd) oe) (hf : ∃ vs, oe.data = .fields vs) :
    CallR (X.suite a ((a, oe) :: pn)) (.builtin "isinstance") (fun xs H Q => (∃ fs, H dd = some (.xd fs)) ∧ rIsE X.K D a xs H Q) := by
  intro pins s σ H xs us Q I r h
  obtain ⟨⟨fs, hdd⟩, c, cv, b, rfl, hcv, e, q⟩ := h
  obtain ⟨u1, u2, rfl, rx, rt⟩ := vals2 r
  cases rx
  have ec := hcv _ rt
  subst ec
  obtain ⟨hget, _⟩ := I.pin (a, oe) (List.mem_append.mpr (.inl List.mem_cons_self))
  obtain ⟨vs, hv⟩ := hf
  obtain ⟨mA, hns, _⟩ := (show ObjOk X.prog X.w H s.heap dd (.xd fs) from I.hok dd _ hdd)
  obtain ⟨od, ho, _⟩ := lookIn_ns hns
  have J : PySem.W.InstAt s.heap a oe D (some od) := ⟨hget, hz.1, by unfold PySem.W.notCls; rw [hv] <;> rfl, by rw [hz.2]; exact ho⟩
  obtain ⟨cd, hc, _⟩ := PySem.W.any_some C.hd
  exact PySem.W.kia_one (PySem.W.kitx_exc (by rw [hc]; rfl) C.hg C.hk C.hs C.ha C.hn C.ht C.hm) I.kIn J e (fun z => nomatch z) fun tk => ⟨.bl b, H, I.kept (t' := tk) fun _ _ z => z, rfl, q⟩
end
end W6
/-! errors of the program: made, raised; __init__ says super().__init__('..') and stores one field -/
namespace W6E
open PySem PySem.W PySem.Calls PyProof.Rows
/-- where things stand in the text of such an __init__ -/
structure EPos where
  (a1 a2 p0 p1 p2 p3 p4 p5 p6 p7 p8 p9 : Pos)
  (j : Nat)
def eA (fld : Str) (p : EPos) : Arguments := { posonlyargs := [], args := [{ arg := "self", annotation := none, pos := p.a1 }, { arg := fld, annotation := none, pos := p.a2 }], vararg := none, kwonlyargs := [], kw_defaults := [], kwarg := none, defaults := [] }
def eB (fld msg : Str) (p : EPos) : List Stmt := [
  .Expr (.Call (.Attribute (.Call (.Name "super" p.p0) [] [] p.p1) "__init__" p.p2) [.Constant (.str msg) p.j p.p3] [] p.p4) p.p5,
  .Assign [.Attribute (.Name "self" p.p6) fld p.p7] (.Name fld p.p8) p.p9]
def eS (fld : Str) : Scope := { kind := .function, names := [(PySem.Str.ofString "self", .local), (fld, .local), (PySem.Str.ofString "__class__", .free), (PySem.Str.ofString "super", .globalImplicit)], isGenerator := false, isCoroutine := false, more := [] }
/-- what the written part says of such a class, at C; its __init__ at fI, the cell of __class__ at cc, the code at cda -/
structure ErrTxt (prog : Program) (K : Frag) (mg : Str → Option Value) (C : Addr) (nm fld : Str) : Prop where
  gC : mg nm = some (.ref C)
  fldOk : fld = "at" ∨ fld = "most"
  cls : ∃ nm' q N bs bm sn sub ab col dd k0 k1 k2 k3 k5, K.lookup C = some (excClassObj nm' q C N bs bm true sn sub ab col dd k0 k1 k2 k3 k5 "ValueError.__new__") ∧ HandSPX.refsVE bm = true
  sa : findIn K (.ref C) "__setattr__" = some (some (.builtin "object.__setattr__"))
  noN : findIn K (.ref C) fld = some none
  exC : subIn K (.ref C) (.type "BaseException") = some true
  veC : subIn K (.ref C) (.type "ValueError") = some true
  tyC : typeIn K (.ref C) = some (.type "type")
  kC : keepIn K (.ref C) = true
  mroC : mroIn K C (.ref C) = some true
  along : ks_superIn K C C "__init__" = some (some (.builtin "ValueError.__init__"))
  opq : nsIn K cStatics "thirdparty.any" = some none
  sup : mg "super" = none
  top : (prog.main.scope.names.lookup ("super" : Str)).isSome = false
  fn : ∃ (fI cc cda : Addr) (qual msg : Str) (p : EPos) (oc : Value) (od : Option Addr) (kV doc pm : Value) (an : Option Addr) (ct : Value) (osl : Array (Option Value)) (ccl cl : Value) (cdd cld : Option Addr) (ccs csl : Array (Option Value)) (vs : Array Value) (file : Str) (tf : Tok),
    findIn K (.ref C) "__init__" = some (some (.ref fI)) ∧ typeIn K (.ref fI) = some (.type "function") ∧
    K.lookup fI = some ⟨oc, od, .func (fnX "__init__" qual (eA fld p) (eB fld msg p) (eS fld) [("__class__", cc)] .none kV doc pm an (.ref cda) ct), osl⟩ ∧ codeIn K (.ref cda) qual = true ∧
    (p.p2.endLine == p.p4.line) = true ∧ K.lookup cda = some ⟨ccl, cdd, .fields vs, ccs⟩ ∧ vs[2]? = some (.str file tf) ∧ ((prog.main.file : Str) == file) = true ∧ K.lookup cc = some ⟨cl, cld, .cell (some (.ref C)), csl⟩
theorem boot_super : bootBuiltins "super" = some (.type "super") := by decide +kernel
theorem one_size (v : Value) : [v].length ≤ sizeLine := by
  rw [sizeLine_eq]
  exact (by decide : 1 ≤ 16777216)
/-- what __init__ leaves of a fresh exception at x -/
structure InitEnd (h h' : Heap) (x C dx : Addr) (fld : Str) (v : Value) : Prop where
  keep : ∀ b o, b ≠ x → h.get? b = some o → h'.get? b = some o
  obj : ∃ t1 : Addr, h'.get? x = some { cls := .ref C, dict := some dx, data := .fields #[.ref t1, .none, .none, .none, .bool false, .none] }
  dbig : h.objs.size ≤ dx
  dne : dx ≠ x
  ns : h'.Ns1 dx (fun y => if y = fld then some v else none)
section
variable {prog : Program} {w : World} {A : Around} {E : Value → Shared → Prop} {R : Result → Shared → Prop} {s : Shared} {K : Frag} {mg : Str → Option Value} {C : Addr} {nm fld : Str}
/-- super().__init__('..') bound to x, called -/
theorem call_mw {hp : Heap} {g : Array GenState} {d : Drawn} {t : Nat} {os : OsState} {u x t0 : Addr} {rest : List Value} {Q : Value → Shared → Prop}
    {nm' q : Str} {N : Addr} {bs bm : List Value} {hdct : Bool} {sn : List Str} {sub : List Value} {ab : Bool} {col : Option Bool} {dd : Option Addr} {k0 k1 k2 k3 k5 : Option Value}
    (hC : hp.get? C = some (excClassObj nm' q C N bs bm hdct sn sub ab col dd k0 k1 k2 k3 k5 "ValueError.__new__")) (he : hp.get? x = some (HandSPX.excO C t0)) (hu : hp.get? u = some (kxs_mw "ValueError.__init__" x)) (hrest : rest.length ≤ sizeLine)
    (hq : ∀ h' t1, (∀ b o, b ≠ x → hp.get? b = some o → h'.get? b = some o) → h'.get? x = some (HandSPX.excO C t1) → Q .none ⟨h', g, d, t, os⟩) :
    wpAny (model prog w) A (call (.ref u) rest) Q E ⟨hp, g, d, t, os⟩ := by
  refine wpAny_call (codeAny_of_tree ?_)
  show wpAny _ A.in1 (callAny (.ref u) ⟨rest, []⟩) _ _ _
  simp only [callAny]
  refine wpAny_bind (wpAny_load hu ?_)
  simp only [kxs_mw, show (Value.type "method-wrapper" == Value.type "method" || Value.type "method-wrapper" == Value.type "builtin_function_or_method" || Value.type "method-wrapper" == Value.type "method-wrapper") = true by decide, if_true]
  refine KFB.if_so (by decide) ?_
  refine wpAny_bind (check_bound_init F.excBase_ValueError.toExcCallFacts hC he rfl ?_)
  refine wpAny_bind (wpAny_pure (wpAny_pure ?_))
  refine ⟨plainId_quiet F.excBase_ValueError.init.plain _, codeAny_builtin F.excBase_ValueError.initEntry ?_⟩
  exact exc_init_tree (cls := .ref C) (t0 := t0) (dv := none) (c2 := .none) (c3 := .none) (b4 := .bool false) he hrest fun h' k e' _ => hq h' _ k e'
theorem err_init (T : ErrTxt prog K mg C nm fld) {fI x t0 : Addr} {v : Value} (hfI : findIn K (.ref C) "__init__" = some (some (.ref fI))) (X : K.In s.heap) (hlim : s.heap.NoLimit) (hmg : s.heap.Ns mainGlobals mg) (hbl : ∃ mb, s.heap.Ns builtinsNs mb ∧ ∀ y : Str, y ≠ "__name__" → mb y = bootBuiltins y)
    (hx : s.heap.get? x = some (HandSPX.excO C t0)) (hnx : K.lookup x = none) (hroom : A.depth < recursionLimit)
    (hq : ∀ h' tk dx, InitEnd s.heap h' x C dx fld v → R (.ok (.ret .none)) { s with heap := h', toks := tk }) :
    codeAny (model prog w) A (.call (.ref fI) ⟨[.ref x, v], []⟩) R s := by
  obtain ⟨fI', cc, cda, qual, msg, p, oc, od, kV, doc, pm, an, ct, osl, ccl, cl, cdd, cld, ccs, csl, vs, file, tf, hi, ht, ho, hcd, hline, hcode, hvs, hfile, hcell⟩ := T.fn
  obtain rfl : fI = fI' := Value.ref.inj (Option.some.inj (Option.some.inj (hfI.symm.trans hi)))
  obtain ⟨nm', q, N, bs, bm, sn, sub, ab, col, dd, k0, k1, k2, k3, k5, hC, hbm⟩ := T.cls
  have hcl : clsIn K C = some { name := nm', bases := bs, mro := .ref C :: bm, ns := N, qualname := q, hasDict := true, slotNames := sn, subclasses := sub, abstract := ab, collection := col, hasDel := false } := by unfold clsIn; rw [hC] <;> rfl
  have hxC : x ≠ C := fun e => by
    rw [e, hC] at hnx
    cases hnx
  refine ks_codeAny_call_defAt (fd := fnX "__init__" qual (eA fld p) (eB fld msg p) (eS fld) [("__class__", cc)] .none kV doc pm an (.ref cda) ct) (body := eB fld msg p) (binds := [("self", .ref x), (fld, v)]) hroom (X _ _ ho) rfl hlim (codeRec_of X hcd) rfl
    (BindsTo.of_eq (by rcases T.fldOk with e | e <;> subst e <;> rfl)) (by show ∀ z ∈ (eS fld).names, z.2 ≠ .cell; rcases T.fldOk with e | e <;> subst e <;> decide) (by rcases T.fldOk with e | e <;> subst e <;> exact locs rfl) (fun h₁ hns hk₁ => ?_) rfl rfl rfl
  have X₁ : K.In h₁ := X.keeps hk₁
  have hx₁ := hk₁ _ _ hx
  have hLx : s.heap.objs.size ≠ x := Nat.ne_of_gt (Heap.lt_size hx)
  have n1 : (fun y => ([("self", .ref x), (fld, v)] : List (Str × Value)).reverse.lookup y) ("self" : Str) = some (.ref x) := by rcases T.fldOk with e | e <;> subst e <;> rfl
  have n2 : (fun y => ([("self", .ref x), (fld, v)] : List (Str × Value)).reverse.lookup y) fld = some v := by rcases T.fldOk with e | e <;> subst e <;> rfl
  have kf : (eS fld).names.lookup fld = some .local := by rcases T.fldOk with e | e <;> subst e <;> rfl
  have ks : (eS fld).names.lookup ("self" : Str) = some .local := rfl
  have ku : (eS fld).names.lookup ("super" : Str) = some .globalImplicit := by rcases T.fldOk with e | e <;> subst e <;> rfl
  have kc : (eS fld).names.lookup ("__class__" : Str) = some .free := by rcases T.fldOk with e | e <;> subst e <;> rfl
  -- super().__init__('..')
  show _root_.PySem.wpAt _ _ _ (execs (eB fld msg p) _) _ _ _
  refine ks_wpAt_execs_cons (ks_wpAt_Expr_any (ks_wpAt_MethodCall (pl := L2.plainOf (.Call (.Name "super" p.p0) [] [] p.p1) (callEnv (fnX "__init__" qual (eA fld p) (eB fld msg p) (eS fld) [("__class__", cc)] .none kV doc pm an (.ref cda) ct) s.heap.objs.size fI)) ?_ ?he))
  case he =>
    show (attributeBase _ _ _ _ >>= fun ov => standAt _ >>= fun _ => methodCall _ _ _ _ _ ov _ _ _) = _
    congr 1
    funext ov
    congr 1
    funext _
    exact L2.mcall_line rfl hline
  refine ks_wpAt_super_base (f := fI) (cc := cda) (of := ⟨oc, od, .func (fnX "__init__" qual (eA fld p) (eB fld msg p) (eS fld) [("__class__", cc)] .none kV doc pm an (.ref cda) ct), osl⟩) (fd := fnX "__init__" qual (eA fld p) (eB fld msg p) (eS fld) [("__class__", cc)] .none kV doc pm an (.ref cda) ct)
    (oc := ⟨ccl, cdd, .fields vs, ccs⟩) (vs := vs) (file := file) (tf := tf) ku kc (by decide) rfl (X₁ _ _ ho) rfl rfl rfl (X₁ _ _ hcode) rfl hvs hfile T.top ?_
  obtain ⟨mb, hb1, hb2⟩ := hbl
  refine ks_loadName_global rfl ku (loadGlobal_builtin (hmg.keeps hk₁) T.sup (hb1.keeps hk₁) ((hb2 _ (by decide +kernel)).trans boot_super) ⟨rfl, ?_⟩)
  refine wpAny_loadName_free rfl kc rfl ⟨_, X₁ _ _ hcell, rfl⟩ ?_
  refine wpAny_loadName_local rfl ks hns n1 ?_
  have hC₁ := X₁ _ _ hC
  refine ks_wpAny_isType_cls hC₁ rfl ⟨rfl, ?_⟩
  refine ks_wpAny_call_super hC₁ rfl hx₁ rfl (fun c z => by cases z) (looks_mroIn X₁ T.mroC) (fun h2 e2 k2 => ?_)
  have X₂ : K.In h2 := X₁.keeps k2
  have hx₂ := k2 _ _ hx₁
  have I2 : InstAt h2 x (HandSPX.excO C t0) C none := ⟨hx₂, rfl, rfl, trivial⟩
  refine kxs_getMethod kxs_ValueError e2 (looks_opaque X₂ T.opq) (l₀ := .ref C :: bm) (l := ((Value.ref C :: bm).dropWhile (· != .ref C)).drop 1) ?_ rfl X₂ ?_ (I2.type.andThen (looks_subIn X₂ T.veC)) hxC rfl ?_
  · exact fun A Q E s k q => wpAny_bind ((looks_clsIn X₂ hcl) A _ E s k (wpAny_pure q))
  · have z := T.along
    unfold ks_superIn at z
    rw [hcl] at z
    exact z
  have hu3 : (h2.push (kxs_mw "ValueError.__init__" x)).get? h2.objs.size = some (kxs_mw "ValueError.__init__" x) := Heap.get?_push_size _ rfl
  have k3 : ∀ b o, h2.get? b = some o → (h2.push (kxs_mw "ValueError.__init__" x)).get? b = some o := fun b o e => Heap.get?_push_of_some _ e
  show wpAny _ _ (callWith _ (.ref h2.objs.size) [] (backTo _ (starEach [.Constant (.str msg) p.j p.p3] _)) []) _ _ _
  refine kxs_callWith (i := "ValueError.__init__") (x := x) rfl (evalArgs_plain ?_)
  refine Calls.spliced_cons (show wpAny _ _ (eval (.Constant (.str msg) p.j p.p3) _) _ _ _ from Calls.Constant_str (Calls.spliced_nil ⟨hu3, ?_⟩))
  refine call_mw (X₂.keeps k3 _ _ hC) (k3 _ _ hx₂) hu3 (one_size _) (fun h4 t4 k4 hx4 => ?_)
  -- self.f = f
  refine wpAt_of_wpAny ?_
  have k24 : ∀ b o, b ≠ x → h₁.get? b = some o → h4.get? b = some o := fun b o hb e => k4 b o hb (k3 b o (k2 b o e))
  have X₄ : K.In h4 := fun a o e => k24 a o (fun z => by rw [z, hnx] at e; cases e) (X₁ a o e)
  have hns4 : h4.Ns s.heap.objs.size (fun y => ([("self", .ref x), (fld, v)] : List (Str × Value)).reverse.lookup y) := by
    obtain ⟨o, es, ep, e, r⟩ := hns
    exact ⟨o, es, ep, k24 _ _ hLx e, r⟩
  refine wpAny_execs_cons (plainObj_wpAny_Assign_Attribute ?_)
  refine wpAny_Name (wpAny_loadName_local rfl kf hns4 n2 ?_) (by rcases T.fldOk with e | e <;> subst e <;> decide)
  refine wpAny_Name (wpAny_loadName_local rfl ks hns4 n1 ?_) (by decide)
  refine set_plain X₄ (ox := HandSPX.excO C t4) (od := none) ⟨hx4, rfl, rfl, trivial⟩ T.sa ?_
  refine HandSPX.exc_osa X₄ hx4 hcl (show HandSPX.refsVE (.ref C :: bm) = true from hbm) rfl T.noN (fun h5 tk5 dx k5' dn dne hx5 hn5 => ?_)
  show wpAny _ _ (execs _ _) _ _ _
  have z : s.heap.objs.size < h4.objs.size := hns4.lt
  exact wpAny_execs_nil (hq h5 tk5 dx ⟨fun b o hb e => k5' b o hb (k24 b o hb (hk₁ b o e)), ⟨t4, hx5⟩, Nat.le_of_lt (Nat.lt_of_lt_of_le z dn), dne, hn5⟩)
/-- a made error -/
structure OwnMade (h h' : Heap) (e C d : Addr) (fld : Str) (v : Value) : Prop where
  keep : ∀ b o, h.get? b = some o → h'.get? b = some o
  new : h.objs.size ≤ e
  obj : ∃ oe vs, h'.get? e = some oe ∧ oe.cls = .ref C ∧ oe.dict = some d ∧ oe.data = .fields vs ∧ vs[1]? = some .none
  dbig : h.objs.size ≤ d
  dne : d ≠ e
  ns : h'.Ns1 d (fun y => if y = fld then some v else none)
theorem err_made (T : ErrTxt prog K mg C nm fld) {v : Value} (X : K.In s.heap) (hlim : s.heap.NoLimit) (hmg : s.heap.Ns mainGlobals mg) (hbl : ∃ mb, s.heap.Ns builtinsNs mb ∧ ∀ y : Str, y ≠ "__name__" → mb y = bootBuiltins y) (hroom : A.depth + 1 < recursionLimit)
    (hq : ∀ h' tk e d, OwnMade s.heap h' e C d fld v → R (.ok (.ret (.ref e))) { s with heap := h', toks := tk }) :
    codeAny (model prog w) A (.call (.ref C) ⟨[v], []⟩) R s := by
  obtain ⟨nm', q, N, bs, bm, sn, sub, ab, col, dd, k0, k1, k2, k3, k5, hC, hbm⟩ := T.cls
  obtain ⟨fI, cc, cda, qual, msg, p, oc, od, kV, doc, pm, an, ct, osl, ccl, cl, cdd, cld, ccs, csl, vs, file, tf, hi, ht, _⟩ := T.fn
  obtain ⟨mb, hb1, hb2⟩ := hbl
  obtain ⟨hp, g, dr, tk, os⟩ := s
  have k : ∀ b o, hp.get? b = some o → ((hp.push (kdv_tup [v])).push (HandSPX.excO C hp.objs.size)).get? b = some o := fun b o e => Heap.get?_push_of_some _ (Heap.get?_push_of_some _ e)
  have hget : ((hp.push (kdv_tup [v])).push (HandSPX.excO C hp.objs.size)).get? (hp.objs.size + 1) = some (HandSPX.excO C hp.objs.size) := by heap_get
  have hnx : K.lookup (hp.objs.size + 1) = none := by
    cases e : K.lookup (hp.objs.size + 1) with
    | none => rfl
    | some o =>
      have z : hp.get? (hp.objs.size + 1) = some o := X _ _ e
      exact absurd (Nat.lt_of_succ_lt (Heap.lt_size z)) (Nat.lt_irrefl _)
  refine HandSPX.call_own F.excBase_ValueError (fun X => HandSPX.refsVE_contains X bm hbm) (X _ _ hC) (looks_findIn X hi) (fun self => bind_fn X self ht) (one_size v) ?_
  refine err_init (s := ⟨(hp.push (kdv_tup [v])).push (HandSPX.excO C hp.objs.size), g, dr, tk, os⟩) T hi (X.keeps k) (hlim.keeps k) (hmg.keeps k) ⟨mb, hb1.keeps k, hb2⟩ hget hnx ?_ fun h' tk' dx ⟨k', ⟨t1, hx⟩, dn, dne, hns⟩ => ?_
  · show A.depth + 1 < recursionLimit
    exact hroom
  · have old : ∀ b o, hp.get? b = some o → h'.get? b = some o := fun b o e => k' b o (Nat.ne_of_lt (Nat.lt_succ_of_lt (Heap.lt_size e))) (k b o e)
    have z : hp.objs.size + 1 + 1 ≤ dx := by
      have q := dn
      rw [Heap.size_push, Heap.size_push] at q
      exact q
    exact ⟨rfl, hq h' tk' (hp.objs.size + 1) dx ⟨old, Nat.le_succ _, ⟨_, _, hx, rfl, rfl, rfl, rfl⟩, Nat.le_trans (Nat.le_trans (Nat.le_succ _) (Nat.le_succ _)) z, dne, hns⟩⟩
end
end W6E

namespace W6
open PySem PySem.Spec PyProof.Rows L2
theorem relO_one {fld : Str} {v : V} {v' : Value} (r : RelV v v') (f : Str) : RelO (List.lookup f [(fld, v)]) (if f = fld then some v' else none) := by
  by_cases hw : f = fld
  · subst hw
    rw [if_pos rfl]
    have q : List.lookup f [(f, v)] = some v := by simp [List.lookup]
    rw [q]
    exact r
  · rw [if_neg hw]
    have qw : (f == fld) = false := by simpa using hw
    have q2 : List.lookup f [(fld, v)] = none := by simp [List.lookup, qw]
    rw [q2]
    trivial
section
variable {X : Cx} {C : Addr} {nm fld : Str}
def tMkErr (C : Addr) (fld : Str) (ta : TA) : St → Hp → XK → Prop := fun σ H Q => ta σ H fun vs H1 => ∃ v, vs = [v] ∧ ∀ d, H1 d = none → Q (.ref C) (some d) (upd H1 d (.xd [(fld, v)]))
theorem pmk_err {a : Expr} {ta : TA} {p pos : Pos} {k : Nat} (T : W6E.ErrTxt X.prog X.K X.mg C nm fld) (hr : Room k X.A) (ha : PA X [a] ta) (hg : Gl X nm := by rfl) (hdb : (nm == ("__debug__" : Str)) = false := by decide)
    (he : starEach (a :: []) X.env = (false, eval a X.env) :: starEach [] X.env := by rfl) (hpl : (backTo pos (starEach [] X.env)).any (·.1) = false := by rfl) :
    PMk X (.Call (.Name nm p) [a] [] pos) (tMkErr C fld ta) := by
  intro pins s σ H Q I h
  refine wpAny_Call_Name_kw (ld_glob I hg T.gC ?_ hdb)
  refine PySem.W.callWith_K (h₀ := X.base) I.ok.mod.kin T.kC (thn (ha.run pos pins s σ H _ I h) fun us s1 hh => ?_) he hpl
  obtain ⟨vs, H1, I1, r1, v, ev, q1⟩ := hh
  subst ev
  refine ⟨I1.kIn, ?_⟩
  obtain ⟨v', rfl, rv⟩ := vals1 r1
  show wpAny _ _ (call (.ref C) [v']) _ _ _
  have hlim := I1.nolimit
  have hmg := I1.mod.glob.keeps I1.bk
  obtain ⟨mb, hb1, hb2⟩ := I1.mod.blt
  have hb1' := hb1.keeps I1.bk
  obtain ⟨hp, g, dr, tk, os⟩ := s1
  refine wpAny_call (W6E.err_made T I1.kIn hlim hmg ⟨mb, hb1', hb2⟩ (by have := hr.dp; omega) fun h' tk' e d M => ?_)
  show MkP X pins σ Q (.ref e) ⟨h', g, dr, tk', os⟩
  obtain ⟨oe, fv, hoe, hc, hd, hdat, h1⟩ := M.obj
  have hns := M.ns
  obtain ⟨G', g1, g2⟩ := restrict h' fun b => decide (b ≠ e)
  have gk : ∀ b, b ≠ e → G'.get? b = h'.get? b := fun b hb => g1 b (decide_eq_true hb)
  have ge : G'.get? e = none := g2 e (by simp)
  have old : ∀ b o, hp.get? b = some o → G'.get? b = some o := fun b o q => (gk b (Nat.ne_of_lt (Nat.lt_of_lt_of_le (Heap.lt_size q) M.new))).trans (M.keep b o q)
  have ob : ObjOk X.prog X.w (upd H1 d (.xd [(fld, v)])) G' d (.xd [(fld, v)]) :=
    ⟨_, hns.at (fun o q => (gk d M.dne).trans q), fun f => relO_one rv f⟩
  have J : Inv X pins σ (upd H1 d (.xd [(fld, v)])) ⟨G', g, dr, tk', os⟩ := I1.laid (t' := tk') old M.dbig ob
  refine ⟨e, oe, fv, ⟨G', g, dr, tk', os⟩, _, .ref C, some d, rfl, J, fun b o q => ?_, ge, hoe, ⟨hc, hd⟩, hdat, h1, ?_, rfl, I1.bare, raises_own T.exC T.tyC, q1 d (I1.hok.fresh M.dbig)⟩
  · by_cases hb : b = e
    · have q' : G'.get? b = some o := q
      rw [hb, ge] at q'; cases q'
    · exact (gk b hb).symm.trans q
  · rw [upd_ne (Ne.symm M.dne)]
    exact I1.hok.fresh M.new
def tRaiseErr (C : Addr) (fld : Str) (W : WX) (ta : TA) : TS := fun _ σ H => tMkErr C fld ta σ H fun cls d H' => W cls d σ H'
theorem ps_raiseErr {a : Expr} {ta : TA} {W : WX} {p pos pos2 : Pos} {k : Nat} (hc : X.calm = true) (T : W6E.ErrTxt X.prog X.K X.mg C nm fld) (hr : Room k X.A) (tk : Takes X W) (ha : PA X [a] ta) (hg : Gl X nm := by rfl) (hdb : (nm == ("__debug__" : Str)) = false := by decide)
    (he : starEach (a :: []) X.env = (false, eval a X.env) :: starEach [] X.env := by rfl) (hpl : (backTo pos (starEach [] X.env)).any (·.1) = false := by rfl) :
    PS X (.Raise (some (.Call (.Name nm p) [a] [] pos)) none pos2) (tRaiseErr C fld W ta) := ps_raise hc tk (pmk_err T hr ha hg hdb he hpl)
end
end W6
namespace W6
open PySem PySem.Spec PyProof.Rows L2
/-! ### the text -/
def topS (i : Nat) : Stmt := PySem.Challenge.pw_logsapart_k06_whole_numbers_of_stories_a.main.body.getD i (.Pass ⟨0, 0, 0, 0⟩)
/-! ### defs by name -/
structure DefTxt (K : PySem.W.Frag) (mg : Str → Option Value) (x : Str) (st : Stmt) : Prop where
  fn : ∃ fd, FunD K x x (defArgs st) (defBody st) (defScope st) [] [] (He.ga K x) fd
  g : mg x = some (.ref (He.ga K x))
structure Ok (P : Program) (w : World) (K : PySem.W.Frag) (mg : Str → Option Value) (base : Heap) (CX : CXT) (k : Nat) (x : Str) (ps : List Str) (sp : Sp) : Prop where
  ex : ∃ fd, FnOk P w K mg base CX k (He.ga K x) fd ps sp ∧ Binds K fd ps [] ∧ (∀ (s : Shared) (us : List Value), us.length = ps.length → BindsTo s fd ⟨us, []⟩ (ps.zip us))
  g : mg x = some (.ref (He.ga K x))
  kp : PySem.W.keepIn K (.ref (He.ga K x)) = true
section
variable {P : Program} {w : World} {K : PySem.W.Frag} {mg : Str → Option Value} {base : Heap} {x : Str} {st : Stmt}
theorem DefTxt.ok {CX : CXT} {N ps : List Str} {k : Nat} {sp : Sp} (F : DefTxt K mg x st) (S : FnScope N ps (defScope st))
    (hb : ∀ (kV doc pm : Value) (an : Option Addr) (cdv ct : Value) (us : List Value), us.length = ps.length → bindArgs (PySem.W.fnOf x x (defArgs st) (defBody st) (defScope st) .none kV doc pm an cdv ct) ⟨us, []⟩ = pure (ps.zip us))
    (len : ∀ vs H Q E, sp vs H Q E → vs.length = ps.length)
    (hbody : ∀ (cdv : Value) (A : Around) (outer : List Env) (s : Shared) (H : Hp) (vs : List V) (Q : VK) (E : XK), Room k (A.deeper (envOfC x (defScope st) s.heap.objs.size (He.ga K x) cdv)) → sp vs H Q E →
      ∃ t, PSs (cxOf CX P w K mg base N x (defScope st) (He.ga K x) cdv A outer s H E) (defBody st) t ∧ t { nx := fun _ H' => Q .non H', rt := Q } (start N vs) H) : Ok P w K mg base CX (k + 1) x ps sp := by
  obtain ⟨fd, F1⟩ := F.fn
  exact ⟨⟨fd, F1.ok S len hbody, F1.bindsN hb, F1.bindsA hb⟩, F.g, F1.kp⟩
end
section
variable {X : Cx} {CX : CXT} {k : Nat} {ps : List Str} {sp : Sp} {E : XK} {x : Str} {p pos : Pos} {e : Expr} {es : List Expr} {t : TA}
theorem pe_f (O : Ok X.prog X.w X.K X.mg X.base CX k x ps sp) (hr : Room k X.A) (hx : Passes CX X E) (ha : PA X (e :: es) t) (hg : Gl X x := by rfl) (hdb : (x == ("__debug__" : Str)) = false := by decide)
    (he : starEach (e :: es) X.env = (false, eval e X.env) :: starEach es X.env := by rfl) (hpl : (backTo pos (starEach es X.env)).any (·.1) = false := by rfl) : PE X (.Call (.Name x p) (e :: es) [] pos) (tCall sp [] E t) := by
  obtain ⟨fd, F, b, _⟩ := O.ex
  exact pe_call F hr hg O.g O.kp b .nil hx ha hdb he hpl
theorem pe_fS {E : St → XK} (O : Ok X.prog X.w X.K X.mg X.base CX k x ps sp) (hr : Room k X.A) (hx : ∀ σ, PassesAt CX X σ (E σ)) (ha : PA X (e :: es) t) (hg : Gl X x := by rfl) (hdb : (x == ("__debug__" : Str)) = false := by decide)
    (he : starEach (e :: es) X.env = (false, eval e X.env) :: starEach es X.env := by rfl) (hpl : (backTo pos (starEach es X.env)).any (·.1) = false := by rfl) : PE X (.Call (.Name x p) (e :: es) [] pos) (tCallS sp E t) := by
  obtain ⟨fd, F, b, _⟩ := O.ex
  exact pe_callS F hr hg O.g O.kp b hx ha hdb he hpl
end
/-! ### values -/
/-- numbers as values -/
def nv (l : List Nat) : List V := l.map fun (n : Nat) => V.int (n : Int)
theorem nv_length (l : List Nat) : (nv l).length = l.length := by unfold nv; rw [List.length_map]
theorem nv_get {l : List Nat} {i n : Nat} (h : l[i]? = some n) : (nv l)[i]? = some (.int (n : Int)) := by
  unfold nv
  rw [List.getElem?_map, h]
  rfl
theorem nv_of {l : List Nat} {i : Nat} {v : V} (h : (nv l)[i]? = some v) : ∃ n, l[i]? = some n ∧ v = .int (n : Int) := by
  unfold nv at h
  rw [List.getElem?_map] at h
  cases e : l[i]? with
  | none =>
    rw [e] at h
    cases h
  | some n =>
    rw [e] at h
    exact ⟨n, rfl, (Option.some.inj h).symm⟩
theorem nv_map (l : List Nat) : nv l = (l.map fun (n : Nat) => (n : Int)).map V.int := by
  unfold nv
  rw [List.map_map]
  rfl
end W6
namespace W6
open PySem PySem.Spec PyProof.Rows L2
/-- an error class: made, caught, its field read -/
structure ErrC (prog : Program) (K : PySem.W.Frag) (mg : Str → Option Value) (nm fld : Str) : Prop where
  mkE : W6E.ErrTxt prog K mg (He.ga K nm) nm fld
  xf : XfC K (He.ga K nm)
  ex : ExcC K (He.ga K nm)
  exm : PySem.W.exmOne K (.ref (He.ga K nm)) (.ref (He.ga K nm)) = some true
  log : PySem.W.kitOne K (.ref (He.ga K nm)) (.ref (He.ga K "LogError")) = some true
/-- a def with a keyword-only default -/
structure DefK (K : PySem.W.Frag) (mg : Str → Option Value) (x : Str) (st : Stmt) : Prop where
  fn : ∃ fd, FunD K x x (defArgs st) (defBody st) (defScope st) [] [("most", .int 400)] (He.ga K x) fd
  g : mg x = some (.ref (He.ga K x))
/-- what the top has left -/
structure Tx (prog : Program) (K : PySem.W.Frag) (mg : Str → Option Value) : Prop where
  d_is_integer : DefTxt K mg "is_integer" (topS 8)
  d_is_number : DefTxt K mg "is_number" (topS 9)
  d_is_below : DefTxt K mg "is_below" (topS 10)
  d_is_within : DefTxt K mg "is_within" (topS 11)
  d_is_sequence : DefTxt K mg "is_sequence" (topS 12)
  d_is_text : DefTxt K mg "is_text" (topS 13)
  d_common_divisor : DefTxt K mg "common_divisor" (topS 14)
  d_common_multiple : DefTxt K mg "common_multiple" (topS 15)
  d_least_terms : DefTxt K mg "least_terms" (topS 16)
  d_check_marks : DefTxt K mg "check_marks" (topS 18)
  d_sum_of_parts : DefTxt K mg "sum_of_parts" (topS 20)
  d_share : DefTxt K mg "share" (topS 21)
  d_is_telling : DefTxt K mg "is_telling" (topS 22)
  d_orders_of : DefTxt K mg "orders_of" (topS 25)
  d_fillings_of : DefTxt K mg "fillings_of" (topS 26)
  d_next_hand : DefTxt K mg "next_hand" (topS 27)
  d_dearest_counts : DefTxt K mg "dearest_counts" (topS 28)
  d_check_deeds : DefTxt K mg "check_deeds" (topS 29)
  d_crowded_counts : DefTxt K mg "crowded_counts" (topS 30)
  d_failing_counts : DefTxt K mg "failing_counts" (topS 35)
  d_least_failing : DefK K mg "least_failing" (topS 36)
  d_court_paper : DefK K mg "court_paper" (topS 37)
  d_court_holds : DefTxt K mg "court_holds" (topS 38)
  d_crowd_bound : DefTxt K mg "crowd_bound" (topS 39)
  d_law_box : DefTxt K mg "_law_box" (topS 41)
  d_law_take : DefTxt K mg "_law_take" (topS 42)
  d_law_pick : DefTxt K mg "_law_pick" (topS 43)
  d_law_marks : DefTxt K mg "_law_marks" (topS 44)
  d_law_fits : DefTxt K mg "_law_fits" (topS 45)
  d_law_all : DefTxt K mg "_law_all" (topS 46)
  d_law_counts : DefTxt K mg "_law_counts" (topS 47)
  d_law_orders : DefTxt K mg "_law_orders" (topS 48)
  d_law_fillings : DefTxt K mg "_law_fillings" (topS 49)
  d_law_least : DefTxt K mg "_law_least" (topS 50)
  d_law_is_crowded : DefTxt K mg "_law_is_crowded" (topS 51)
  d_law_share : DefTxt K mg "_law_share" (topS 52)
  d_law_held : DefTxt K mg "_law_held" (topS 53)
  d_law_bent : DefTxt K mg "_law_bent" (topS 54)
  d_law_case_right : DefTxt K mg "_law_case_right" (topS 55)
  d_law : DefTxt K mg "law" (topS 56)
  n_isinstance : mg "isinstance" = none
  n_int : mg "int" = none
  n_bool : mg "bool" = none
  n_list : mg "list" = none
  n_tuple : mg "tuple" = none
  n_str : mg "str" = none
  n_len : mg "len" = none
  n_enumerate : mg "enumerate" = none
  n_sum : mg "sum" = none
  n_range : mg "range" = none
  n_zip : mg "zip" = none
  n_min : mg "min" = none
  n_max : mg "max" = none
  n_all : mg "all" = none
  n_abs : mg "abs" = none
  n_repr : mg "repr" = none
  c_MOST_HANDS : ∃ t, mg "MOST_HANDS" = some (.int 8 t)
  c_MOST_MARKS : ∃ t, mg "MOST_MARKS" = some (.int 60 t)
  c_MOST_DEEDS : ∃ t, mg "MOST_DEEDS" = some (.int 400 t)
  c_MOST_LOOKED : ∃ t, mg "MOST_LOOKED" = some (.int 400 t)
  c_MOST_CROWD : ∃ t, mg "MOST_CROWD" = some (.int 60 t)
  c_MOST_PAPER : ∃ t, mg "MOST_PAPER" = some (.int 3000 t)
  gH : mg "Hands" = some (.ref (He.ga K "Hands"))
  clH : Cls K (He.ga K "Hands")
  aMarks : NoAttr K (He.ga K "Hands") "marks"
  aMany : NoAttr K (He.ga K "Hands") "many"
  mkH : Mk K (He.ga K "Hands") (He.ma K (He.ga K "Hands") "__init__")
  iH : ∃ fd, FunD K "__init__" "Hands.__init__" (defArgs (inClass (topS 19) 0)) (defBody (inClass (topS 19) 0)) (defScope (inClass (topS 19) 0)) [] [] (He.ma K (He.ga K "Hands") "__init__") fd
  gL : mg "LogError" = some (.ref (He.ga K "LogError"))
  eR : ErrC prog K mg "Refused" "at"
  eT : ErrC prog K mg "TooGreat" "most"
theorem b_isinstance : bootBuiltins "isinstance" = some (.builtin "isinstance") := by decide +kernel
theorem b_int : bootBuiltins "int" = some (.type "int") := by decide +kernel
theorem b_bool : bootBuiltins "bool" = some (.type "bool") := by decide +kernel
theorem b_list : bootBuiltins "list" = some (.type "list") := by decide +kernel
theorem b_tuple : bootBuiltins "tuple" = some (.type "tuple") := by decide +kernel
theorem b_str : bootBuiltins "str" = some (.type "str") := by decide +kernel
theorem b_len : bootBuiltins "len" = some (.builtin "len") := by decide +kernel
theorem b_enumerate : bootBuiltins "enumerate" = some (.type "enumerate") := by decide +kernel
theorem b_sum : bootBuiltins "sum" = some (.builtin "sum") := by decide +kernel
theorem b_range : bootBuiltins "range" = some (.type "range") := by decide +kernel
theorem b_zip : bootBuiltins "zip" = some (.type "zip") := by decide +kernel
theorem b_min : bootBuiltins "min" = some (.builtin "min") := by decide +kernel
theorem b_max : bootBuiltins "max" = some (.builtin "max") := by decide +kernel
theorem b_all : bootBuiltins "all" = some (.builtin "all") := by decide +kernel
theorem b_abs : bootBuiltins "abs" = some (.builtin "abs") := by decide +kernel
theorem b_repr : bootBuiltins "repr" = some (.builtin "repr") := by decide +kernel
end W6
namespace W6
open PySem PySem.Spec PyProof.Rows L2
/-- plain values -/
def atomT : V → Option String
  | .non => some "NoneType"
  | .bl _ => some "bool"
  | .int _ => some "int"
  | .str _ => some "str"
  | _ => none
theorem atom_ty {K : PySem.W.Frag} {H : Hp} {v : V} {t : String} (h : atomT v = some t) : TyX K H v (.type t) := by
  cases v with
  | non => cases h; exact .base .non
  | bl b => cases h; exact .base (.bl b)
  | int i => cases h; exact .base (.int i)
  | str y => cases h; exact .base (.str y)
  | _ => cases h
def isI : V → Bool
  | .int _ => true
  | _ => false
def isN : V → Bool
  | .int i => decide (0 ≤ i)
  | _ => false
def spIsInt : Sp := fun vs H Q _ => ∃ v t, vs = [v] ∧ atomT v = some t ∧ Q (.bl (isI v)) H
theorem sc8 : FnScope ["value"] ["value"] (defScope (topS 8)) := ⟨rfl, rfl, rfl, by decide +kernel, rfl, by decide +kernel, by decide +kernel⟩
section
variable {P : Program} {w : World} {K : PySem.W.Frag} {mg : Str → Option Value} {base : Heap}
theorem boot_isinstance : bootBuiltins "isinstance" = some (.builtin "isinstance") := by decide +kernel
theorem boot_int' : bootBuiltins "int" = some (.type "int") := by decide +kernel
theorem boot_bool' : bootBuiltins "bool" = some (.type "bool") := by decide +kernel
theorem ok_is_integer (F : DefTxt K mg "is_integer" (topS 8)) (mi : mg "isinstance" = none) (mI : mg "int" = none) (mB : mg "bool" = none) : Ok P w K mg base CX0 1 "is_integer" ["value"] spIsInt := by
  refine F.ok sc8 (fun _ _ _ _ _ _ us hl => match us, hl with | [_], _ => rfl) (fun vs H Q E h => ?_) (fun cdv A outer s H vs Q E hr h => ?_)
  · obtain ⟨v, t, rfl, _⟩ := h
    rfl
  · obtain ⟨v, t, rfl, ha, q⟩ := h
    refine ⟨_, PSs.nox (pss_one (ps_ret (pe_and (pe_callB call_isi (by rfl) mi boot_isinstance (pa_cons (pv 0) (pa_cons (pe_bltn (v := .ty "int") (by rfl) mI boot_int' rfl) pa_nil)))
      (pe_one (pe_not (pe_callB call_isi (by rfl) mi boot_isinstance (pa_cons (pv 0) (pa_cons (pe_bltn (v := .ty "bool") (by rfl) mB boot_bool' rfl) pa_nil)))))))), ?_⟩
    cases v with
    | non => 
      cases ha
      exact ⟨_, rfl, _, _, _, _, false, rfl, .ty _, .base .non, kit_ty (by decide +kernel), false, rfl, q⟩
    | bl b =>
      cases ha
      refine ⟨_, rfl, _, _, _, _, true, rfl, .ty _, .base (.bl b), kit_ty (by decide +kernel), true, rfl, ?_⟩
      exact ⟨_, rfl, _, _, _, _, true, rfl, .ty _, .base (.bl b), kit_ty (by decide +kernel), true, rfl, q⟩
    | int i =>
      cases ha
      refine ⟨_, rfl, _, _, _, _, true, rfl, .ty _, .base (.int i), kit_ty (by decide +kernel), true, rfl, ?_⟩
      exact ⟨_, rfl, _, _, _, _, false, rfl, .ty _, .base (.int i), kit_ty (by decide +kernel), false, rfl, q⟩
    | str y =>
      cases ha
      exact ⟨_, rfl, _, _, _, _, false, rfl, .ty _, .base (.str y), kit_ty (by decide +kernel), false, rfl, q⟩
    | _ => cases ha
end
end W6
namespace W6
open PySem PySem.Spec PyProof.Rows L2
/-! ### kinds of values -/
/-- not a list or tuple (false), or one -/
inductive Kn (K : PySem.W.Frag) (H : Hp) : V → Bool → Prop where
  | atom {v : V} {t : String} (h : atomT v = some t) : Kn K H v false
  | sq {a : Addr} {xs : List V} (h : Sq K H a xs) : Kn K H (.ref a) true
theorem sq_ty {K : PySem.W.Frag} {H : Hp} {a : Addr} {xs : List V} (h : Sq K H a xs) : ∃ t : String, TyX K H (.ref a) (.type t) ∧ (t = "list" ∨ t = "tuple") := by
  rcases h with h | h
  · rcases h with (h | ⟨o, h⟩) | ⟨o, its, n, e, c, _⟩
    · exact ⟨_, .base (.lst h), .inl rfl⟩
    · exact ⟨_, .base (.frz h), .inl rfl⟩
    · exact ⟨_, .kList e c, .inl rfl⟩
  · rcases h with (h | ⟨o, h⟩) | ⟨o, its, n, e, c, _⟩
    · exact ⟨_, .base (.tup h), .inr rfl⟩
    · exact ⟨_, .fTuple h, .inr rfl⟩
    · exact ⟨_, .kTuple e c, .inr rfl⟩
theorem ty_same {K : PySem.W.Frag} {H H' : Hp} {v : V} {b : Bool} (e : Same H H') (h : Kn K H v b) : Kn K H' v b := by
  cases h with
  | atom h => exact .atom h
  | sq h => exact .sq (same_s e h)
theorem Kn.ty {K : PySem.W.Frag} {H : Hp} {v : V} {b : Bool} (h : Kn K H v b) : ∃ t : String, TyX K H v (.type t) ∧ PySem.W.kitAny K (.type t) [.type "list", .type "tuple"] = some b := by
  cases h with
  | @atom v t h =>
    refine ⟨t, atom_ty h, ?_⟩
    have e : ∀ x : String, kitB x "list" = some false → kitB x "tuple" = some false → PySem.W.kitAny K (.type x) [.type "list", .type "tuple"] = some false := fun x h1 h2 =>
      kitAny_cons (kit_ty h1) (fun _ => kitAny_cons (kit_ty h2) (fun _ => kitAny_nil) (fun z => by cases z)) (fun z => by cases z)
    cases v with
    | non => cases h; exact e _ (by decide +kernel) (by decide +kernel)
    | bl b => cases h; exact e _ (by decide +kernel) (by decide +kernel)
    | int i => cases h; exact e _ (by decide +kernel) (by decide +kernel)
    | str y => cases h; exact e _ (by decide +kernel) (by decide +kernel)
    | _ => cases h
  | @sq a xs h =>
    obtain ⟨t, ht, e⟩ := sq_ty h
    refine ⟨t, ht, ?_⟩
    rcases e with rfl | rfl
    · exact kitAny_cons (b := true) (kit_ty (by decide +kernel)) (fun z => by cases z) (fun _ => rfl)
    · exact kitAny_cons (b := false) (kit_ty (by decide +kernel)) (fun _ => kitAny_cons (b := true) (kit_ty (by decide +kernel)) (fun z => by cases z) (fun _ => rfl)) (fun z => by cases z)
/-- isinstance(v, (list, tuple)), the tuple just laid -/
theorem isi_seq {K : PySem.W.Frag} {H : Hp} {v : V} {b : Bool} {p : Addr} {Q : VK} (h : Kn K H v b) (hp : H p = none) (q : ∀ H', Same H H' → Q (.bl b) H') : rIsiT K [v, .ref p] (upd H p (.tup [.ty "list", .ty "tuple"])) Q := by
  obtain ⟨t, ht, e⟩ := (ty_same (same_upd hp) h).ty
  exact ⟨v, p, _, .type t, _, b, rfl, upd_same, .cons (.ty _) (.cons (.ty _) .nil), ht, e, q _ (same_upd hp)⟩
structure RIsS (K : PySem.W.Frag) (xs : List V) (H : Hp) (Q : VK) : Prop where
  ex : rIsiT K xs H Q
theorem call_isiS {X : Cx} : CallR X (.builtin "isinstance") (RIsS X.K) := fun pins s σ H xs us Q I r h => call_isiT pins s σ H xs us Q I r h.ex
theorem isi_seqS {K : PySem.W.Frag} {H : Hp} {v : V} {b : Bool} {p : Addr} {Q : VK} (h : Kn K H v b) (hp : H p = none) (q : ∀ H', Same H H' → Q (.bl b) H') : RIsS K [v, .ref p] (upd H p (.tup [.ty "list", .ty "tuple"])) Q := ⟨isi_seq h hp q⟩
/-! ### promises -/
def spB1 (f : V → Bool) : Sp := fun vs H Q _ => ∃ v t, vs = [v] ∧ atomT v = some t ∧ Q (.bl (f v)) H
def spBelow : Sp := fun vs H Q _ => ∃ v t m, vs = [v, .int m] ∧ atomT v = some t ∧ Q (.bl (isN v && decide (iv v < m))) H
where iv : V → Int := fun v => match v with | .int i => i | _ => 0
def spWithin : Sp := fun vs H Q _ => ∃ i l m, vs = [.int i, .int l, .int m] ∧ Q (.bl (decide (l ≤ i) && decide (i ≤ m))) H
def spSeq (K : PySem.W.Frag) : Sp := fun vs H Q _ => ∃ v b, vs = [v] ∧ Kn K H v b ∧ ∀ H', Same H H' → Q (.bl b) H'
def isS : V → Bool
  | .str _ => true
  | _ => false
def spText (K : PySem.W.Frag) : Sp := fun vs H Q _ => ∃ v b, vs = [v] ∧ Kn K H v b ∧ Q (.bl (isS v)) H
def spGcd : Sp := fun vs H Q _ => ∃ a b : Nat, vs = [.int a, .int b] ∧ Q (.int (Nat.gcd a b : Nat)) H
def spLcm : Sp := fun vs H Q _ => ∃ a b : Nat, vs = [.int a, .int b] ∧ 0 < a ∧ a < 2 ^ 62 ∧ b < 2 ^ 62 ∧ Q (.int ((a / Nat.gcd a b * b : Nat) : Int)) H
def spLow : Sp := fun vs H Q _ => ∃ a b : Nat, vs = [.int a, .int b] ∧ 0 < a ∧ a < 2 ^ 62 ∧ b < 2 ^ 62 ∧ ∀ p, H p = none → Q (.ref p) (upd H p (.tup [.int (a / Nat.gcd a b : Nat), .int (b / Nat.gcd a b : Nat)]))
theorem sc_is_number : FnScope ["value"] ["value"] (defScope (topS 9)) := ⟨rfl, rfl, rfl, by decide +kernel, rfl, by decide +kernel, by decide +kernel⟩
theorem sc_is_below : FnScope ["value", "most"] ["value", "most"] (defScope (topS 10)) := ⟨rfl, rfl, rfl, by decide +kernel, rfl, by decide +kernel, by decide +kernel⟩
theorem sc_is_within : FnScope ["value", "least", "most"] ["value", "least", "most"] (defScope (topS 11)) := ⟨rfl, rfl, rfl, by decide +kernel, rfl, by decide +kernel, by decide +kernel⟩
theorem sc_is_sequence : FnScope ["value"] ["value"] (defScope (topS 12)) := ⟨rfl, rfl, rfl, by decide +kernel, rfl, by decide +kernel, by decide +kernel⟩
theorem sc_is_text : FnScope ["value"] ["value"] (defScope (topS 13)) := ⟨rfl, rfl, rfl, by decide +kernel, rfl, by decide +kernel, by decide +kernel⟩
theorem sc_common_divisor : FnScope ["one", "other"] ["one", "other"] (defScope (topS 14)) := ⟨rfl, rfl, rfl, by decide +kernel, rfl, by decide +kernel, by decide +kernel⟩
theorem sc_common_multiple : FnScope ["one", "other"] ["one", "other"] (defScope (topS 15)) := ⟨rfl, rfl, rfl, by decide +kernel, rfl, by decide +kernel, by decide +kernel⟩
theorem sc_least_terms : FnScope ["top", "bottom", "common"] ["top", "bottom"] (defScope (topS 16)) := ⟨rfl, rfl, rfl, by decide +kernel, rfl, by decide +kernel, by decide +kernel⟩
theorem small_div {j : Int} {i : Int} (h : 0 < j) (hj : j < 2 ^ 62) : CDivP i j := ⟨h, (wide_div (i := i) (b := 62) h (by omega) (by decide) (by decide)).2 |> PyProof.noPylong_of_log2⟩
theorem nat_mod (a b : Nat) : (a : Int).fmod (b : Int) = ((a % b : Nat) : Int) := by
  rw [Int.fmod_eq_emod_of_nonneg _ (Int.natCast_nonneg b)]
  rfl
section
variable {P : Program} {w : World} {K : PySem.W.Frag} {mg : Str → Option Value} {base : Heap}
theorem ok_is_number (T : Tx P K mg) : Ok P w K mg base CX0 2 "is_number" ["value"] (spB1 isN) := by
  have O_is_integer := ok_is_integer (P := P) (w := w) (base := base) T.d_is_integer T.n_isinstance T.n_int T.n_bool
  refine T.d_is_number.ok sc_is_number (fun _ _ _ _ _ _ us hl => match us, hl with | [_], _ => rfl) (fun vs H Q E h => ?_) (fun cdv A outer s H vs Q E hr h => ?_)
  · obtain ⟨v, t, rfl, _⟩ := h
    rfl
  · obtain ⟨v, t, rfl, ha, q⟩ := h
    refine ⟨_, PSs.nox (pss_one (ps_ret (pe_and (pe_f O_is_integer (hr.mono (by decide)) pass0 (pa_cons (pv 0) pa_nil)) (pe_one (pe_cmpR op_ge (pv 0) pe_int (nomark _)))))), ?_⟩
    refine ⟨_, rfl, v, t, rfl, ha, ?_⟩
    cases v with
    | int i => exact ⟨true, rfl, _, rfl, i, 0, rfl, rfl, q⟩
    | _ => exact ⟨false, rfl, q⟩
theorem ok_is_below (T : Tx P K mg) : Ok P w K mg base CX0 3 "is_below" ["value", "most"] spBelow := by
  have O_is_number := ok_is_number (P := P) (w := w) (base := base) T
  refine T.d_is_below.ok sc_is_below (fun _ _ _ _ _ _ us hl => match us, hl with | [_, _], _ => rfl) (fun vs H Q E h => ?_) (fun cdv A outer s H vs Q E hr h => ?_)
  · obtain ⟨v, t, m, rfl, _⟩ := h
    rfl
  · obtain ⟨v, t, m, rfl, ha, q⟩ := h
    refine ⟨_, PSs.nox (pss_one (ps_ret (pe_and (pe_f O_is_number (hr.mono (by decide)) pass0 (pa_cons (pv 0) pa_nil)) (pe_one (pe_cmpR op_lt (pv 0) (pv 1) (nomark _)))))), ?_⟩
    refine ⟨_, rfl, v, t, rfl, ha, ?_⟩
    cases hb : isN v with
    | false =>
      rw [hb] at q
      exact ⟨false, rfl, q⟩
    | true =>
      rw [hb] at q
      cases v with
      | int i => exact ⟨true, rfl, _, rfl, _, rfl, i, m, rfl, rfl, q⟩
      | _ => cases hb
theorem ok_is_within (T : Tx P K mg) : Ok P w K mg base CX0 2 "is_within" ["value", "least", "most"] spWithin := by
  have O_is_integer := ok_is_integer (P := P) (w := w) (base := base) T.d_is_integer T.n_isinstance T.n_int T.n_bool
  refine T.d_is_within.ok sc_is_within (fun _ _ _ _ _ _ us hl => match us, hl with | [_, _, _], _ => rfl) (fun vs H Q E h => ?_) (fun cdv A outer s H vs Q E hr h => ?_)
  · obtain ⟨v, t, m, rfl, _⟩ := h
    rfl
  · obtain ⟨i, l, m, rfl, q⟩ := h
    refine ⟨_, PSs.nox (pss_one (ps_ret (pe_and (pe_f O_is_integer (hr.mono (by decide)) pass0 (pa_cons (pv 0) pa_nil)) (pe_one (pe_chain op_le op_le (pv 1) (pv 0) (pv 2)))))), ?_⟩
    refine ⟨_, rfl, .int i, _, rfl, rfl, true, rfl, _, rfl, _, rfl, l, i, rfl, rfl, _, rfl, ?_⟩
    cases hb : decide (l ≤ i) with
    | false =>
      rw [hb] at q
      exact q
    | true =>
      rw [hb] at q
      exact ⟨_, rfl, i, m, rfl, rfl, q⟩
theorem ok_is_sequence (T : Tx P K mg) : Ok P w K mg base CX0 1 "is_sequence" ["value"] (spSeq K) := by
  refine T.d_is_sequence.ok sc_is_sequence (fun _ _ _ _ _ _ us hl => match us, hl with | [_], _ => rfl) (fun vs H Q E h => ?_) (fun cdv A outer s H vs Q E hr h => ?_)
  · obtain ⟨v, b, rfl, _⟩ := h
    rfl
  · obtain ⟨v, b, rfl, k, q⟩ := h
    refine ⟨_, PSs.nox (pss_one (ps_ret (pe_callB call_isiS (by rfl) T.n_isinstance b_isinstance (pa_cons (pv 0) (pa_cons (pe_tup (pa_cons (pe_bltn (v := .ty "list") (by rfl) T.n_list b_list rfl) (pa_cons (pe_bltn (v := .ty "tuple") (by rfl) T.n_tuple b_tuple rfl) pa_nil))) pa_nil))))), ?_⟩
    exact ⟨_, rfl, by decide, fun p hp => isi_seqS k hp q⟩
theorem ok_is_text (T : Tx P K mg) : Ok P w K mg base CX0 1 "is_text" ["value"] (spText K) := by
  refine T.d_is_text.ok sc_is_text (fun _ _ _ _ _ _ us hl => match us, hl with | [_], _ => rfl) (fun vs H Q E h => ?_) (fun cdv A outer s H vs Q E hr h => ?_)
  · obtain ⟨v, b, rfl, _⟩ := h
    rfl
  · obtain ⟨v, b, rfl, k, q⟩ := h
    refine ⟨_, PSs.nox (pss_one (ps_ret (pe_callB call_isi (by rfl) T.n_isinstance b_isinstance (pa_cons (pv 0) (pa_cons (pe_bltn (v := .ty "str") (by rfl) T.n_str b_str rfl) pa_nil))))), ?_⟩
    cases k with
    | @atom v t h =>
      refine ⟨_, rfl, _, _, .type t, _, isS v, rfl, .ty _, atom_ty h, ?_, q⟩
      cases v with
      | non => cases h; exact kit_ty (show kitB "NoneType" "str" = some false by decide +kernel)
      | bl b => cases h; exact kit_ty (show kitB "bool" "str" = some false by decide +kernel)
      | int i => cases h; exact kit_ty (show kitB "int" "str" = some false by decide +kernel)
      | str y => cases h; exact kit_ty (show kitB "str" "str" = some true by decide +kernel)
      | _ => cases h
    | @sq a xs h =>
      obtain ⟨t, ht, e⟩ := sq_ty h
      refine ⟨_, rfl, _, _, .type t, _, false, rfl, .ty _, ht, ?_, q⟩
      rcases e with rfl | rfl
      · exact kit_ty (by decide +kernel)
      · exact kit_ty (by decide +kernel)
theorem ok_common_divisor (T : Tx P K mg) : Ok P w K mg base CX0 1 "common_divisor" ["one", "other"] spGcd := by
  refine T.d_common_divisor.ok sc_common_divisor (fun _ _ _ _ _ _ us hl => match us, hl with | [_, _], _ => rfl) (fun vs H Q E h => ?_) (fun cdv A outer s H vs Q E hr h => ?_)
  · obtain ⟨a, b, rfl, _⟩ := h
    rfl
  · obtain ⟨a, b, rfl, q⟩ := h
    refine ⟨_, PSs.nox (pss_cons (ps_while PassesOwn.never (pt_cmpR op_ne (pv 1) pe_int (nomark _)) (pss_one (ps_par (i := 0) (j := 1) (by rfl) sc_common_divisor.nd rfl rfl (by decide) rfl rfl (pa_cons (pv 1) (pa_cons (pe_op op_modN (pv 0) (pv 1)) pa_nil)) (by rfl))))
      (pss_one (ps_ret (pv 0)))), ?_⟩
    refine while_by (fun σ H' => H' = H ∧ ∃ x y : Nat, σ = [some (.int x), some (.int y)] ∧ Nat.gcd x y = Nat.gcd a b) (fun σ _ => match σ with | [_, some (.int y)] => y.toNat | _ => 0) ⟨rfl, a, b, rfl, rfl⟩ ?_ ?_
    · rintro σ H' ⟨rfl, x, y, rfl, e⟩
      refine ⟨_, rfl, rfl, _, rfl, ?_⟩
      refine ite2 (fun hc => ?_) (fun hc => ?_)
      · have hy : (y : Int) ≠ 0 := by
          intro z
          rw [z] at hc
          simp at hc
        refine ⟨_, rfl, _, rfl, _, rfl, x, y, rfl, rfl, hy, _, _, rfl, ⟨rfl, y, x % y, ?_, ?_⟩, ?_⟩
        · show [some (V.int (y : Int)), some (V.int ((x : Int).fmod (y : Int)))] = _
          rw [nat_mod]
        · rw [Nat.gcd_comm, ← Nat.gcd_rec, Nat.gcd_comm, e]
        · have : x % y < y := Nat.mod_lt _ (by omega)
          show ((x : Int).fmod (y : Int)).toNat < (y : Int).toNat
          rw [nat_mod]
          omega
      · have hy : y = 0 := by
          false_or_by_contra
          rename_i z
          apply hc
          show (!decide (V.int (y : Int) = V.int 0)) = true
          rw [decide_eq_false (by intro z'; exact z (by have := V.int.inj z'; omega))]
          rfl
        subst hy
        rw [Nat.gcd_zero_right] at e
        refine ⟨_, rfl, ?_⟩
        rw [e]
        exact q
    · rintro σ H' Q1 Q2 hm ⟨v, e, hs, w', e2, hq⟩
      exact ⟨v, e, hs, w', e2, hm _ _ hq⟩
theorem ok_common_multiple (T : Tx P K mg) : Ok P w K mg base CX0 2 "common_multiple" ["one", "other"] spLcm := by
  have O_common_divisor := ok_common_divisor (P := P) (w := w) (base := base) T
  refine T.d_common_multiple.ok sc_common_multiple (fun _ _ _ _ _ _ us hl => match us, hl with | [_, _], _ => rfl) (fun vs H Q E h => ?_) (fun cdv A outer s H vs Q E hr h => ?_)
  · obtain ⟨a, b, rfl, _⟩ := h
    rfl
  · obtain ⟨a, b, rfl, ha, la, lb, q⟩ := h
    refine ⟨_, PSs.nox (pss_one (ps_ret (pe_op op_mulW (pe_op op_fdivP (pv 0) (pe_f O_common_divisor (hr.mono (by decide)) pass0 (pa_cons (pv 0) (pa_cons (pv 1) pa_nil)))) (pv 1)))), ?_⟩
    have hg : 0 < Nat.gcd a b := Nat.gcd_pos_of_pos_left _ ha
    have hl : Nat.gcd a b ≤ a := Nat.gcd_le_left _ ha
    have hd : a / Nat.gcd a b ≤ a := Nat.div_le_self _ _
    refine ⟨_, rfl, _, rfl, _, rfl, a, b, rfl, a, (Nat.gcd a b : Nat), rfl, rfl, small_div (by omega) (by omega), _, rfl, (a / Nat.gcd a b : Nat), b, ?_, rfl, ?_, ?_⟩
    · rfl
    · have key : ∀ d : Nat, d ≤ a → CMulW (d : Int) (b : Int) := fun d hd => wide_mul (a := 64) (b := 64) (by omega) (by omega) (by decide) (by decide) (by decide)
      exact key _ hd
    · exact q
theorem ok_least_terms (T : Tx P K mg) : Ok P w K mg base CX0 2 "least_terms" ["top", "bottom"] spLow := by
  have O_common_divisor := ok_common_divisor (P := P) (w := w) (base := base) T
  refine T.d_least_terms.ok sc_least_terms (fun _ _ _ _ _ _ us hl => match us, hl with | [_, _], _ => rfl) (fun vs H Q E h => ?_) (fun cdv A outer s H vs Q E hr h => ?_)
  · obtain ⟨a, b, rfl, _⟩ := h
    rfl
  · obtain ⟨a, b, rfl, ha, la, lb, q⟩ := h
    refine ⟨_, PSs.nox (pss_cons (ps_set (i := 2) sc_least_terms.nd rfl (.inl rfl) (pe_f O_common_divisor (hr.mono (by decide)) pass0 (pa_cons (pv 0) (pa_cons (pv 1) pa_nil))))
      (pss_one (ps_ret (pe_tup (pa_cons (pe_op op_fdivP (pv 0) (pv 2)) (pa_cons (pe_op op_fdivP (pv 1) (pv 2)) pa_nil)))))), ?_⟩
    have hg : 0 < Nat.gcd a b := Nat.gcd_pos_of_pos_left _ ha
    have hl : Nat.gcd a b ≤ a := Nat.gcd_le_left _ ha
    exact ⟨_, rfl, _, rfl, a, b, rfl, _, rfl, _, rfl, a, (Nat.gcd a b : Nat), rfl, rfl, small_div (by omega) (by omega), _, rfl, _, rfl, b, (Nat.gcd a b : Nat), rfl, rfl, small_div (by omega) (by omega), by show 2 ≤ sizeLine; decide, q⟩
end
end W6
namespace W6
open PySem PySem.Spec PyProof.Rows L2
/-! ### lists in general -/
theorem take_next {α : Type} {l : List α} {i : Nat} {x : α} (h : l[i]? = some x) : l.take (i + 1) = l.take i ++ [x] := by
  rw [List.take_succ, h]
  rfl
theorem foldl_next {α β : Type} (f : β → α → β) (b : β) {l : List α} {i : Nat} {x : α} (h : l[i]? = some x) : (l.take (i + 1)).foldl f b = f ((l.take i).foldl f b) x := by
  rw [take_next h, List.foldl_append]
  rfl
/-! ### comprehensions whose turns leave what is there -/
/-- what is kept of the first i -/
def kept (zs : List (Option V)) (i : Nat) : List V := (zs.take i).filterMap id
theorem kept_some {zs : List (Option V)} {i : Nat} {y : V} (h : zs[i]? = some (some y)) : kept zs (i + 1) = kept zs i ++ [y] := by
  unfold kept
  rw [take_next h, List.filterMap_append]
  rfl
theorem kept_none {zs : List (Option V)} {i : Nat} (h : zs[i]? = some none) : kept zs (i + 1) = kept zs i := by
  unfold kept
  rw [take_next h, List.filterMap_append]
  exact List.append_nil _
theorem kept_len (zs : List (Option V)) (i : Nat) : (kept zs i).length ≤ i := by
  unfold kept
  refine Nat.le_trans (List.length_filterMap_le _ _) ?_
  rw [List.length_take]
  omega
theorem kept_all (zs : List (Option V)) {n : Nat} (h : n = zs.length) : kept zs n = zs.filterMap id := by
  unfold kept
  rw [h, List.take_length]
theorem lc_filS {k : Bool} {K : PySem.W.Frag} {a : Addr} {xs : List V} {zs : List (Option V)} {g : TG} {tt : TT} {te : TE} {vs : List Nat} {σ : St} {H1 : Hp} {D : Addr} {Qd : Hp → Prop} (hl : SqB k K H1 a xs) (hD : H1 D = none) (hlen : zs.length = xs.length) (hz : xs.length ≤ sizeLine)
    (hs : ∀ (i : Nat) (x : V) (z : Option V) (H : Hp) (R : VK) (N : Hp → Prop), xs[i]? = some x → zs[i]? = some z → Same H1 H → (∀ y H', z = some y → Same H H' → R y H') → (∀ H', z = none → Same H H' → N H') →
      g x (wipe σ vs) H fun σ2 H2 => wipe σ2 vs = wipe σ vs ∧ tt σ2 H2 fun b H3 => if b = true then te σ2 H3 R else N H3)
    (hd : ∀ H, Same H1 H → H D = some (.lst (zs.filterMap id)) → Qd H) :
    ∃ W : Nat → Nat → Hp → Prop, (∃ m, W 0 m (upd H1 D (.lst []))) ∧ ∀ i m H, W i m H →
      ((ItB k K a).stop i H ∧ Qd H) ∨ ((ItB k K a).go i H ∧ ∃ Nx : Hp → Prop, (∀ H', Nx H' → ∃ m', m' < m ∧ W (i + 1) m' H') ∧ ∀ x H', (ItB k K a).yld i H x H' → g x (wipe σ vs) H' fun σ2 H2 => wipe σ2 vs = wipe σ vs ∧ tt σ2 H2 fun b H3 =>
        if b = true then te σ2 H3 fun y H4 => ∃ acc, H4 D = some (.lst acc) ∧ acc.length < sizeLine ∧ Nx (upd H4 D (.lst (acc ++ [y]))) else Nx H3) := by
  refine lc_sq (xs := xs) (fun i H => Same H1 H ∧ H D = some (.lst (kept zs i))) ⟨same_upd hD, upd_same⟩ (fun i H _ p => same_b p.1 hl) (fun i x H hx p => ?_) (fun H p => ?_)
  · have hi : i < xs.length := (List.getElem?_eq_some_iff.mp hx).1
    obtain ⟨z, hzi⟩ : ∃ z, zs[i]? = some z := ⟨_, List.getElem?_eq_getElem (by omega)⟩
    refine hs i x z H _ _ hx hzi p.1 (fun y H' e hm => ?_) (fun H' e hm => ?_)
    · subst e
      refine ⟨_, hm _ _ p.2, Nat.lt_of_le_of_lt (kept_len _ _) (Nat.lt_of_lt_of_le hi hz), ?_, ?_⟩
      · intro b o e
        rw [upd_ne (ne_of_none e hD)]
        exact hm _ _ (p.1 _ _ e)
      · rw [kept_some hzi]
        exact upd_same
    · subst e
      refine ⟨p.1.trans hm, ?_⟩
      rw [kept_none hzi]
      exact hm _ _ p.2
  · refine hd H p.1 ?_
    rw [← kept_all zs hlen.symm]
    exact p.2
theorem lc_filR {lo : Int} {n : Nat} {zs : List (Option V)} {g : TG} {tt : TT} {te : TE} {vs : List Nat} {σ : St} {H1 : Hp} {D : Addr} {Qd : Hp → Prop} (hD : H1 D = none) (hlen : zs.length = n) (hz : n ≤ sizeLine)
    (hs : ∀ (i : Nat) (z : Option V) (H : Hp) (R : VK) (N : Hp → Prop), i < n → zs[i]? = some z → Same H1 H → (∀ y H', z = some y → Same H H' → R y H') → (∀ H', z = none → Same H H' → N H') →
      g (.int (lo + i)) (wipe σ vs) H fun σ2 H2 => wipe σ2 vs = wipe σ vs ∧ tt σ2 H2 fun b H3 => if b = true then te σ2 H3 R else N H3)
    (hd : ∀ H, Same H1 H → H D = some (.lst (zs.filterMap id)) → Qd H) :
    ∃ W : Nat → Nat → Hp → Prop, (∃ m, W 0 m (upd H1 D (.lst []))) ∧ ∀ i m H, W i m H →
      ((Itr lo n).stop i H ∧ Qd H) ∨ ((Itr lo n).go i H ∧ ∃ Nx : Hp → Prop, (∀ H', Nx H' → ∃ m', m' < m ∧ W (i + 1) m' H') ∧ ∀ x H', (Itr lo n).yld i H x H' → g x (wipe σ vs) H' fun σ2 H2 => wipe σ2 vs = wipe σ vs ∧ tt σ2 H2 fun b H3 =>
        if b = true then te σ2 H3 fun y H4 => ∃ acc, H4 D = some (.lst acc) ∧ acc.length < sizeLine ∧ Nx (upd H4 D (.lst (acc ++ [y]))) else Nx H3) := by
  refine lc_range (fun i H => Same H1 H ∧ H D = some (.lst (kept zs i))) ⟨same_upd hD, upd_same⟩ (fun i H hi p => ?_) (fun H p => ?_)
  · obtain ⟨z, hzi⟩ : ∃ z, zs[i]? = some z := ⟨_, List.getElem?_eq_getElem (by omega)⟩
    refine hs i z H _ _ hi hzi p.1 (fun y H' e hm => ?_) (fun H' e hm => ?_)
    · subst e
      refine ⟨_, hm _ _ p.2, Nat.lt_of_le_of_lt (kept_len _ _) (Nat.lt_of_lt_of_le hi hz), ?_, ?_⟩
      · intro b o e
        rw [upd_ne (ne_of_none e hD)]
        exact hm _ _ (p.1 _ _ e)
      · rw [kept_some hzi]
        exact upd_same
    · subst e
      refine ⟨p.1.trans hm, ?_⟩
      rw [kept_none hzi]
      exact hm _ _ p.2
  · refine hd H p.1 ?_
    rw [← kept_all zs hlen.symm]
    exact p.2
theorem some_all (ys : List V) : (ys.map some).filterMap id = ys := by
  rw [List.filterMap_map]
  show List.filterMap some ys = ys
  exact List.filterMap_some
theorem lc_mapS {k : Bool} {K : PySem.W.Frag} {a : Addr} {xs ys : List V} {g : TG} {te : TE} {vs : List Nat} {σ : St} {H1 : Hp} {D : Addr} {Qd : Hp → Prop} (hl : SqB k K H1 a xs) (hD : H1 D = none) (hlen : ys.length = xs.length) (hz : xs.length ≤ sizeLine)
    (hs : ∀ (i : Nat) (x y : V) (H : Hp) (R : VK), xs[i]? = some x → ys[i]? = some y → Same H1 H → (∀ H', Same H H' → R y H') → g x (wipe σ vs) H fun σ2 H2 => wipe σ2 vs = wipe σ vs ∧ te σ2 H2 R)
    (hd : ∀ H, Same H1 H → H D = some (.lst ys) → Qd H) :
    ∃ W : Nat → Nat → Hp → Prop, (∃ m, W 0 m (upd H1 D (.lst []))) ∧ ∀ i m H, W i m H →
      ((ItB k K a).stop i H ∧ Qd H) ∨ ((ItB k K a).go i H ∧ ∃ Nx : Hp → Prop, (∀ H', Nx H' → ∃ m', m' < m ∧ W (i + 1) m' H') ∧ ∀ x H', (ItB k K a).yld i H x H' → g x (wipe σ vs) H' fun σ2 H2 => wipe σ2 vs = wipe σ vs ∧ tYes σ2 H2 fun b H3 =>
        if b = true then te σ2 H3 fun y H4 => ∃ acc, H4 D = some (.lst acc) ∧ acc.length < sizeLine ∧ Nx (upd H4 D (.lst (acc ++ [y]))) else Nx H3) := by
  refine lc_filS (zs := ys.map some) (tt := tYes) hl hD (by rw [List.length_map, hlen]) hz (fun i x z H R N hx hzi hm hR _ => ?_) (fun H hm e => hd H hm (by rw [some_all] at e; exact e))
  rw [List.getElem?_map] at hzi
  cases hy : ys[i]? with
  | none =>
    rw [hy] at hzi
    cases hzi
  | some y =>
    rw [hy] at hzi
    exact hs i x y H R hx hy hm fun H' hm' => hR y H' (Option.some.inj hzi).symm hm'
theorem lc_mapR {lo : Int} {n : Nat} {ys : List V} {g : TG} {te : TE} {vs : List Nat} {σ : St} {H1 : Hp} {D : Addr} {Qd : Hp → Prop} (hD : H1 D = none) (hlen : ys.length = n) (hz : n ≤ sizeLine)
    (hs : ∀ (i : Nat) (y : V) (H : Hp) (R : VK), i < n → ys[i]? = some y → Same H1 H → (∀ H', Same H H' → R y H') → g (.int (lo + i)) (wipe σ vs) H fun σ2 H2 => wipe σ2 vs = wipe σ vs ∧ te σ2 H2 R)
    (hd : ∀ H, Same H1 H → H D = some (.lst ys) → Qd H) :
    ∃ W : Nat → Nat → Hp → Prop, (∃ m, W 0 m (upd H1 D (.lst []))) ∧ ∀ i m H, W i m H →
      ((Itr lo n).stop i H ∧ Qd H) ∨ ((Itr lo n).go i H ∧ ∃ Nx : Hp → Prop, (∀ H', Nx H' → ∃ m', m' < m ∧ W (i + 1) m' H') ∧ ∀ x H', (Itr lo n).yld i H x H' → g x (wipe σ vs) H' fun σ2 H2 => wipe σ2 vs = wipe σ vs ∧ tYes σ2 H2 fun b H3 =>
        if b = true then te σ2 H3 fun y H4 => ∃ acc, H4 D = some (.lst acc) ∧ acc.length < sizeLine ∧ Nx (upd H4 D (.lst (acc ++ [y]))) else Nx H3) := by
  refine lc_filR (zs := ys.map some) (tt := tYes) hD (by rw [List.length_map, hlen]) hz (fun i z H R N hi hzi hm hR _ => ?_) (fun H hm e => hd H hm (by rw [some_all] at e; exact e))
  rw [List.getElem?_map] at hzi
  cases hy : ys[i]? with
  | none =>
    rw [hy] at hzi
    cases hzi
  | some y =>
    rw [hy] at hzi
    exact hs i y H R hi hy hm fun H' hm' => hR y H' (Option.some.inj hzi).symm hm'
/-- zip of two lists or tuples of one length, one comprehension item each -/
theorem lc_mapZ {K : PySem.W.Frag} {k1 k2 : Bool} {a b : Addr} {xs ys zs : List V} {g : TG} {te : TE} {vs : List Nat} {σ : St} {H1 : Hp} {D : Addr} {Qd : Hp → Prop} (hx : SqB k1 K H1 a xs) (hy : SqB k2 K H1 b ys) (hl : xs.length = ys.length) (hD : H1 D = none) (hlen : zs.length = xs.length) (hz : xs.length ≤ sizeLine)
    (hs : ∀ (i : Nat) (x y z : V) (T : Addr) (H : Hp) (R : VK), xs[i]? = some x → ys[i]? = some y → zs[i]? = some z → (∀ H', Same H H' → R z H') → H T = some (.tup [x, y]) → g (.ref T) (wipe σ vs) H fun σ2 H2 => wipe σ2 vs = wipe σ vs ∧ te σ2 H2 R)
    (hd : ∀ H, Same H1 H → H D = some (.lst zs) → Qd H) :
    ∃ W : Nat → Nat → Hp → Prop, (∃ m, W 0 m (upd H1 D (.lst []))) ∧ ∀ i m H, W i m H →
      ((ItzB K k1 k2 a b).stop i H ∧ Qd H) ∨ ((ItzB K k1 k2 a b).go i H ∧ ∃ Nx : Hp → Prop, (∀ H', Nx H' → ∃ m', m' < m ∧ W (i + 1) m' H') ∧ ∀ x H', (ItzB K k1 k2 a b).yld i H x H' → g x (wipe σ vs) H' fun σ2 H2 => wipe σ2 vs = wipe σ vs ∧ tYes σ2 H2 fun b H3 =>
        if b = true then te σ2 H3 fun y H4 => ∃ acc, H4 D = some (.lst acc) ∧ acc.length < sizeLine ∧ Nx (upd H4 D (.lst (acc ++ [y]))) else Nx H3) := by
  refine lc_zip2 (xs := xs) (ys := ys) hl (fun i H => Same H1 H ∧ H D = some (.lst (zs.take i))) ⟨same_upd hD, upd_same⟩ (fun i H p => ⟨same_b p.1 hx, same_b p.1 hy⟩) (fun i x y T H ex ey p hT => ?_) (fun H p => ?_)
  · have hi : i < xs.length := (List.getElem?_eq_some_iff.mp ex).1
    obtain ⟨z, hzi⟩ : ∃ z, zs[i]? = some z := ⟨_, List.getElem?_eq_getElem (by omega)⟩
    have hm0 : Same H (upd H T (.tup [x, y])) := same_upd hT
    refine hs i x y z T _ _ ex ey hzi (fun H' hm => ?_) upd_same
    have hm2 := hm0.trans hm
    refine ⟨_, hm2 _ _ p.2, ?_, ?_, ?_⟩
    · rw [List.length_take]
      exact Nat.lt_of_le_of_lt (Nat.min_le_left _ _) (Nat.lt_of_lt_of_le hi hz)
    · intro b o e
      rw [upd_ne (ne_of_none e hD)]
      exact hm2 _ _ (p.1 _ _ e)
    · rw [take_next hzi]
      exact upd_same
  · refine hd H p.1 ?_
    have := p.2
    rw [← hlen, List.take_length] at this
    exact this
/-! ### for .. in enumerate(list), for .. in zip(..) -/
theorem for_enumS {K : PySem.W.Frag} {a : Addr} {xs : List V} {g : TG} {tb : TS} {D : Ends} {σ : St} {H : Hp} (Pv : Nat → St → Hp → Prop) (h0 : Pv 0 σ H) (hl : ∀ i σ H, i ≤ xs.length → Pv i σ H → SqL K H a xs)
    (hs : ∀ i x T σ H, xs[i]? = some x → Pv i σ H → H T = none → g (.ref T) σ (upd H T (.tup [.int (i : Nat), x])) fun σ2 H2 => tb { D with nx := Pv (i + 1), ct := Pv (i + 1), bk := D.nx } σ2 H2) (hd : ∀ σ H, Pv xs.length σ H → D.nx σ H) :
    ∃ W : Nat → Nat → St → Hp → Prop, (∃ m, W 0 m σ H) ∧ ∀ i m σ H, W i m σ H →
      ((Ite K a).stop i H ∧ D.nx σ H) ∨ ((Ite K a).go i H ∧ ∃ N : St → Hp → Prop, (∀ σ' H', N σ' H' → ∃ m', m' < m ∧ W (i + 1) m' σ' H') ∧ ∀ x H', (Ite K a).yld i H x H' → g x σ H' fun σ2 H2 => tb { D with nx := N, ct := N, bk := D.nx } σ2 H2) := by
  refine ⟨fun i m σ H => m = xs.length - i ∧ i ≤ xs.length ∧ Pv i σ H, ⟨xs.length, rfl, Nat.zero_le _, h0⟩, ?_⟩
  rintro i m σ H ⟨rfl, hi, p⟩
  have q := hl i σ H hi p
  by_cases hlt : i < xs.length
  · have hx : xs[i]? = some xs[i] := List.getElem?_eq_getElem hlt
    refine .inr ⟨⟨xs, xs[i], q, hx⟩, Pv (i + 1), fun σ' H' p' => ⟨xs.length - (i + 1), by omega, rfl, hlt, p'⟩, fun v H' y => ?_⟩
    obtain ⟨T, x', rfl, hT, rfl, f1⟩ := y
    exact hs i x' T σ H (f1 xs q) p hT
  · have e : i = xs.length := by omega
    subst e
    exact .inl ⟨⟨xs, q, Nat.le_refl _⟩, hd σ H p⟩
end W6
namespace W6
open PySem PySem.Spec PyProof.Rows L2 K6
/-- marks of hands as the law draws them -/
def Mks (ms : List Nat) : Prop := 2 ≤ ms.length ∧ ms.length ≤ 4 ∧ ∀ m ∈ ms, 1 ≤ m ∧ m ≤ 60
theorem Mks.get {ms : List Nat} (h : Mks ms) {i m : Nat} (e : ms[i]? = some m) : 1 ≤ m ∧ m ≤ 60 := h.2.2 m (List.mem_of_getElem? e)
theorem Mks.pos {ms : List Nat} (h : Mks ms) : K6.Pos ms := fun m hm => (h.2.2 m hm).1
theorem Mks.ne {ms : List Nat} (h : Mks ms) : ms ≠ [] := fun e => by
  have := h.1
  rw [e] at this
  exact absurd this (by decide)
theorem nv4 {ms : List Nat} (h : Mks ms) : (nv ms).length ≤ sizeLine := by
  rw [nv_length]
  exact Nat.le_trans h.2.1 (by decide)
theorem sum_le {l : List Nat} {b : Nat} (h : ∀ x ∈ l, x ≤ b) : l.sum ≤ l.length * b := by
  induction l with
  | nil => exact Nat.zero_le _
  | cons x l ih =>
    rw [List.sum_cons, List.length_cons, Nat.add_mul]
    have := ih fun y hy => h y (List.mem_cons_of_mem _ hy)
    have := h x (List.mem_cons_self ..)
    omega
theorem sum_cast (l : List Nat) : (l.map fun (n : Nat) => (n : Int)).sum = ((l.sum : Nat) : Int) := by
  induction l with
  | nil => rfl
  | cons x l ih =>
    rw [List.map_cons, List.sum_cons, ih, List.sum_cons]
    omega
theorem lcm_take {ms : List Nat} (h : Mks ms) : ∀ i, i ≤ ms.length → 0 < (ms.take i).foldl lcmS 1 ∧ (ms.take i).foldl lcmS 1 ≤ 60 ^ i
  | 0, _ => ⟨Nat.one_pos, Nat.le_refl _⟩
  | i + 1, hi => by
    obtain ⟨h1, h2⟩ := lcm_take h i (by omega)
    obtain ⟨m, e⟩ : ∃ m, ms[i]? = some m := ⟨_, List.getElem?_eq_getElem (by omega)⟩
    have hm := h.get e
    rw [foldl_next lcmS 1 e]
    have h3 : lcmS ((ms.take i).foldl lcmS 1) m ≤ (ms.take i).foldl lcmS 1 * m := Nat.mul_le_mul_right _ (Nat.div_le_self _ _)
    refine ⟨?_, Nat.le_trans h3 ?_⟩
    · rw [lcmS_eq]
      exact Nat.lcm_pos h1 hm.1
    · rw [Nat.pow_succ]
      exact Nat.mul_le_mul h2 hm.2
theorem lcm_all {ms : List Nat} (h : Mks ms) : 0 < lcmL ms ∧ lcmL ms ≤ 60 ^ 4 := by
  obtain ⟨h1, h2⟩ := lcm_take h ms.length (Nat.le_refl _)
  rw [List.take_length] at h1 h2
  exact ⟨h1, Nat.le_trans h2 (Nat.pow_le_pow_right (by decide) h.2.1)⟩
theorem lcm_small {ms : List Nat} (h : Mks ms) (i : Nat) (hi : i ≤ ms.length) : 0 < (ms.take i).foldl lcmS 1 ∧ (ms.take i).foldl lcmS 1 < 2 ^ 62 := by
  obtain ⟨h1, h2⟩ := lcm_take h i hi
  refine ⟨h1, Nat.lt_of_le_of_lt h2 (Nat.lt_of_le_of_lt (Nat.pow_le_pow_right (by decide) (Nat.le_trans hi h.2.1)) (by decide))⟩
theorem parts_le {ms : List Nat} (h : Mks ms) {L B : Nat} (hL : L ≤ B) : (parts L ms).sum ≤ 4 * B := by
  refine Nat.le_trans (sum_le (b := B) fun x hx => ?_) ?_
  · obtain ⟨n, _, rfl⟩ := List.mem_map.mp hx
    exact Nat.le_trans (Nat.div_le_self _ _) hL
  · unfold parts
    rw [List.length_map]
    exact Nat.mul_le_mul_right _ h.2.1
/-- hands of ms stand at x -/
def HandsAt (K : PySem.W.Frag) (H : Hp) (x : Addr) (ms : List Nat) : Prop := ∃ (dx t : Addr), H x = some (.ins (He.ga K "Hands") dx [("marks", .ref t), ("many", .int (ms.length : Nat))]) ∧ H t = some (.tup (nv ms))
theorem HandsAt.same {K : PySem.W.Frag} {H H' : Hp} {x : Addr} {ms : List Nat} (e : Same H H') (h : HandsAt K H x ms) : HandsAt K H' x ms := by
  obtain ⟨dx, t, h1, h2⟩ := h
  exact ⟨dx, t, e _ _ h1, e _ _ h2⟩
def spMarks (K : PySem.W.Frag) : Sp := fun vs H Q _ => ∃ a ms, vs = [.ref a] ∧ SqL K H a (nv ms) ∧ Mks ms ∧ ∀ H' p, Same H H' → H p = none → H' p = some (.tup (nv ms)) → Q (.ref p) H'
def spInit (K : PySem.W.Frag) : Sp := fun vs H Q _ => ∃ x dx a ms, vs = [.ref x, .ref a] ∧ H x = some (.ins (He.ga K "Hands") dx []) ∧ SqL K H a (nv ms) ∧ Mks ms ∧ ∀ H', (∀ b o, b ≠ x → H b = some o → H' b = some o) → HandsAt K H' x ms → Q .non H'
/-- a new pair -/
def spPair (K : PySem.W.Frag) (H : Hp) (ms : List Nat) (Q : VK) : Prop := ∀ H' p, Same H H' → H p = none → H' p = some (.tup [.int (shareT ms : Nat), .int (shareB ms : Nat)]) → Q (.ref p) H'
def spParts (K : PySem.W.Frag) : Sp := fun vs H Q _ => ∃ a ms, vs = [.ref a] ∧ Sq K H a (nv ms) ∧ Mks ms ∧ spPair K H ms Q
def spShare (K : PySem.W.Frag) : Sp := fun vs H Q _ => ∃ x ms, vs = [.ref x] ∧ HandsAt K H x ms ∧ Mks ms ∧ spPair K H ms Q
def spTells (K : PySem.W.Frag) : Sp := fun vs H Q _ => ∃ x ms, vs = [.ref x] ∧ HandsAt K H x ms ∧ Mks ms ∧ ∀ H', Same H H' → Q (.bl (fits ms)) H'
theorem sc_check_marks : FnScope ["value", "at", "marks"] ["value"] (defScope (topS 18)) := ⟨rfl, rfl, rfl, by decide +kernel, rfl, by decide +kernel, by decide +kernel⟩
theorem sc_Hands___init__ : FnScope ["self", "marks"] ["self", "marks"] (defScope (inClass (topS 19) 0)) := ⟨rfl, rfl, rfl, by decide +kernel, rfl, by decide +kernel, by decide +kernel⟩
theorem sc_sum_of_parts : FnScope ["marks", "bottom", "number"] ["marks"] (defScope (topS 20)) := ⟨rfl, rfl, rfl, by decide +kernel, rfl, by decide +kernel, by decide +kernel⟩
theorem sc_share : FnScope ["hands"] ["hands"] (defScope (topS 21)) := ⟨rfl, rfl, rfl, by decide +kernel, rfl, by decide +kernel, by decide +kernel⟩
theorem sc_is_telling : FnScope ["hands", "top", "bottom"] ["hands"] (defScope (topS 22)) := ⟨rfl, rfl, rfl, by decide +kernel, rfl, by decide +kernel, by decide +kernel⟩
section
variable {P : Program} {w : World} {K : PySem.W.Frag} {mg : Str → Option Value} {base : Heap}
theorem ok_check_marks (T : Tx P K mg) : Ok P w K mg base CX0 3 "check_marks" ["value"] (spMarks K) := by
  have O_is_sequence := ok_is_sequence (P := P) (w := w) (base := base) T
  have O_is_within := ok_is_within (P := P) (w := w) (base := base) T
  obtain ⟨_, c_MOST_HANDS⟩ := T.c_MOST_HANDS
  obtain ⟨_, c_MOST_MARKS⟩ := T.c_MOST_MARKS
  refine T.d_check_marks.ok sc_check_marks (fun _ _ _ _ _ _ us hl => match us, hl with | [_], _ => rfl) (fun vs H Q E h => ?_) (fun cdv A outer s H vs Q E hr h => ?_)
  · obtain ⟨a, ms, rfl, _⟩ := h
    rfl
  · obtain ⟨a, ms, rfl, hl, hm, q⟩ := h
    refine ⟨_, PSs.nox (pss_cons (ps_if (PW.pt (pw_or (pt_not (pt_val (pe_f O_is_sequence (hr.mono (by decide)) pass0 (pa_cons (pv 0) pa_nil)))) (pw_or1 (pt_not (pt_chain op_le op_le pe_int (pe_callB call_len (by rfl) T.n_len b_len (pa_cons (pv 0) pa_nil)) (pe_glob (v := .int 8) (by rfl) c_MOST_HANDS ⟨_, rfl⟩)))))) (pss_one ps_never) pss_nil)
      (pss_cons (ps_for PassesOwn.never rfl (pi_enum (by rfl) T.n_enumerate (pa_cons (pv 0) pa_nil)) (pg_tup rfl (pgs_cons (pg_name (i := 1) sc_check_marks.nd rfl (.inl rfl)) (pgs_cons (pg_name (i := 2) sc_check_marks.nd rfl (.inl rfl)) pgs_nil))) (pss_one (ps_if (pt_not (pt_val (pe_f O_is_within (hr.mono (by decide)) pass0 (pa_cons (pv 2) (pa_cons pe_int (pa_cons (pe_glob (v := .int 60) (by rfl) c_MOST_MARKS ⟨_, rfl⟩) pa_nil)))))) (pss_one ps_never) pss_nil)))
      (pss_one (ps_ret (pe_callTy call_tuple_of (by rfl) T.n_tuple b_tuple (pa_cons (pv 0) pa_nil)))))), ?_⟩
    refine ⟨_, rfl, .ref a, true, rfl, .sq (.inl hl), fun H1 m1 => ⟨true, rfl, ?_⟩⟩
    refine ⟨_, rfl, _, _, rfl, .inl ⟨_, m1.seq hl, rfl⟩, 2, _, rfl, rfl, _, rfl, ?_⟩
    have e1 : decide ((2 : Int) ≤ ((nv ms).length : Nat)) = true := decide_eq_true (by rw [nv_length]; have := hm.1; omega)
    have e2 : decide ((((nv ms).length : Nat) : Int) ≤ 8) = true := decide_eq_true (by rw [nv_length]; have := hm.2.1; omega)
    rw [e1]
    refine iteT ⟨_, 8, rfl, rfl, _, rfl, ?_⟩
    rw [e2]
    refine iteF ?_
    refine ⟨_, rfl, a, _, rfl, m1.seq hl, ?_⟩
    refine for_enumS (xs := nv ms) (fun i σ H' => Same H H' ∧ ∃ x y, σ = [some (.ref a), x, y]) ⟨m1, _, _, rfl⟩ (fun i σ H' _ p => p.1.seq hl) (fun i x T σ H' hx p hT => ?_) (fun σ H' p => ?_)
    · obtain ⟨n, e, rfl⟩ := nv_of hx
      have hn := hm.get e
      obtain ⟨m2, x, y, rfl⟩ := p
      refine ⟨_, _, rfl, .of upd_same, rfl, _, _, rfl, _, _, rfl, rfl, ?_⟩
      refine ⟨_, rfl, n, 1, 60, rfl, _, rfl, ?_⟩
      have e3 : (decide ((1 : Int) ≤ n) && decide ((n : Int) ≤ 60)) = true := by
        rw [decide_eq_true (by omega), decide_eq_true (by omega)]
        rfl
      rw [e3]
      exact iteF ⟨m2.trans (same_upd hT), _, _, rfl⟩
    · obtain ⟨m2, x, y, rfl⟩ := p
      exact ⟨_, rfl, a, _, rfl, .inl ⟨m2.seq hl, fun l hn => q _ l (m2.trans (same_upd hn)) (m2.free hn) upd_same⟩⟩
theorem ok_init (T : Tx P K mg) : ∃ fd, FnOk P w K mg base CX0 4 (He.ma K (He.ga K "Hands") "__init__") fd ["self", "marks"] (spInit K) ∧ Binds K fd ["self", "marks"] [] := by
  have O_check_marks := ok_check_marks (P := P) (w := w) (base := base) T
  obtain ⟨fd, F⟩ := T.iH
  refine ⟨fd, F.ok sc_Hands___init__ (fun vs H Q E h => ?_) (fun cdv A outer s H vs Q E hr h => ?_), F.bindsN (fun _ _ _ _ _ _ us hl => match us, hl with | [_, _], _ => rfl)⟩
  · obtain ⟨x, dx, a, ms, rfl, _⟩ := h
    rfl
  · obtain ⟨x, dx, a, ms, rfl, hx, hl, hm, q⟩ := h
    refine ⟨_, PSs.nox (pss_cons (ps_fld (pv 0) (pe_f O_check_marks (hr.mono (by decide)) pass0 (pa_cons (pv 1) pa_nil)) rfl)
      (pss_one (ps_fld (pv 0) (pe_callB call_len (by rfl) T.n_len b_len (pa_cons (pe_fld (pv 0) rfl) pa_nil)) rfl))), ?_⟩
    refine ⟨_, rfl, a, ms, rfl, hl, hm, fun H1 t m1 f1 e1 => ?_⟩
    refine ⟨_, rfl, x, _, dx, _, rfl, m1 _ _ hx, T.clH, T.aMarks, by show 0 < 1000; decide, ?_⟩
    have ht : t ≠ x := fun e => by
      rw [e, m1 _ _ hx] at e1
      cases e1
    refine ⟨_, rfl, x, _, dx, _, _, rfl, upd_same, T.clH, T.aMarks, rfl, .ref t, _, rfl, .inr ⟨_, .of (by rw [upd_ne ht]; exact e1), rfl⟩, ?_⟩
    refine ⟨_, rfl, x, _, dx, _, rfl, upd_same, T.clH, T.aMany, by show 1 < 1000; decide, ?_⟩
    refine q _ (fun b o hb e => ?_) ⟨dx, t, ?_, ?_⟩
    · rw [upd_ne hb, upd_ne hb]
      exact m1 _ _ e
    · rw [upd_same, nv_length]
      rfl
    · rw [upd_ne ht, upd_ne ht]
      exact e1
theorem ok_sum_of_parts (T : Tx P K mg) : Ok P w K mg base CX0 3 "sum_of_parts" ["marks"] (spParts K) := by
  have O_common_multiple := ok_common_multiple (P := P) (w := w) (base := base) T
  have O_least_terms := ok_least_terms (P := P) (w := w) (base := base) T
  refine T.d_sum_of_parts.ok sc_sum_of_parts (fun _ _ _ _ _ _ us hl => match us, hl with | [_], _ => rfl) (fun vs H Q E h => ?_) (fun cdv A outer s H vs Q E hr h => ?_)
  · obtain ⟨a, ms, rfl, _⟩ := h
    rfl
  · obtain ⟨a, ms, rfl, hl, hm, q⟩ := h
    obtain ⟨k, hk⟩ := hl.kind
    refine ⟨_, PSs.nox (pss_cons (ps_set (i := 1) sc_sum_of_parts.nd rfl (.inr rfl) pe_int)
      (pss_cons (ps_for PassesOwn.never rfl (pi_sq k (pv 0)) (pg_name (i := 2) sc_sum_of_parts.nd rfl (.inl rfl)) (pss_one (ps_set (i := 1) sc_sum_of_parts.nd rfl (.inr rfl) (pe_f O_common_multiple (hr.mono (by decide)) pass0 (pa_cons (pv 1) (pa_cons (pv 2) pa_nil))))))
      (pss_one (ps_ret (pe_f O_least_terms (hr.mono (by decide)) pass0 (pa_cons (pe_callB (cr_sumS (by rfl)) (by rfl) T.n_sum b_sum (pa_cons (pe_lc (own := [("number", 2)]) (g := gName 2) (tt := tYes) rfl sc_sum_of_parts.nd (pi_sq k (pv 0)) (blkOk_by (N := ["marks", "bottom", "number"]) (sc := defScope (topS 20)) (by decide +kernel)) (fun _ _ _ _ _ => (pg_name (i := 2) sc_sum_of_parts.nd rfl (.inl rfl))) (fun _ _ _ _ _ => pts_nil) (fun _ _ _ _ _ => (pe_op op_fdivP (pv 1) (pv 2)))) pa_nil)) (pa_cons (pv 1) pa_nil))))))), ?_⟩
    refine ⟨_, rfl, a, rfl, ⟨_, hk⟩, for_sq (xs := nv ms) (fun i σ H' => H' = H ∧ ∃ x, σ = [some (.ref a), some (.int ((ms.take i).foldl lcmS 1 : Nat)), x]) ⟨rfl, _, rfl⟩ (fun i σ H' _ p => p.1 ▸ hk) (fun i x σ H' hx p => ?_) (fun σ H' p => ?_)⟩
    · obtain ⟨n, e, rfl⟩ := nv_of hx
      have hn := hm.get e
      obtain ⟨rfl, x, rfl⟩ := p
      have hi : i < ms.length := (List.getElem?_eq_some_iff.mp e).1
      obtain ⟨l1, l2⟩ := lcm_small hm i (by omega)
      refine ⟨_, rfl, _, rfl, _, n, rfl, l1, l2, by omega, rfl, some (.int n), ?_⟩
      rw [foldl_next lcmS 1 e]
      rfl
    · obtain ⟨rfl, x, rfl⟩ := p
      obtain ⟨l1, l2⟩ := lcm_small hm ms.length (Nat.le_refl _)
      obtain ⟨l3, l4⟩ := lcm_all hm
      have hsz := nv4 hm
      rw [nv_length, List.take_length]
      rw [List.take_length] at l1 l2
      refine ⟨_, rfl, a, rfl, ⟨_, hk⟩, fun D hD => lc_mapS (xs := nv ms) (ys := nv (parts (lcmL ms) ms)) hk hD (by rw [nv_length, nv_length]; exact List.length_map ..) hsz (fun i x y H1 R hx hy m1 hR => ?_) (fun H1 m1 eD => ?_)⟩
      · obtain ⟨n, e, rfl⟩ := nv_of hx
        have hn := hm.get e
        obtain ⟨n2, e2, rfl⟩ := nv_of hy
        have e3 : n2 = lcmL ms / n := by
          unfold parts at e2
          rw [List.getElem?_map, e] at e2
          exact (Option.some.inj e2).symm
        subst e3
        exact ⟨rfl, _, rfl, _, rfl, lcmL ms, n, rfl, rfl, small_div (by omega) (by omega), hR _ (Same.refl _)⟩
      · have hs := parts_le hm l4
        have hs0 := parts_pos l3 hm.ne fun _ h => lcmL_dvd h
        refine ⟨D, (parts (lcmL ms) ms).map (fun (n : Nat) => (n : Int)), rfl, .inl (.of (by rw [← nv_map]; exact eD)), ?_⟩
        rw [sum_cast]
        refine ⟨_, rfl, _, _, rfl, hs0, by omega, l2, fun p hp => ?_⟩
        exact q _ p (m1.trans (same_upd hp)) (m1.free hp) upd_same
theorem ok_share (T : Tx P K mg) : Ok P w K mg base CX0 4 "share" ["hands"] (spShare K) := by
  have O_sum_of_parts := ok_sum_of_parts (P := P) (w := w) (base := base) T
  refine T.d_share.ok sc_share (fun _ _ _ _ _ _ us hl => match us, hl with | [_], _ => rfl) (fun vs H Q E h => ?_) (fun cdv A outer s H vs Q E hr h => ?_)
  · obtain ⟨a, ms, rfl, _⟩ := h
    rfl
  · obtain ⟨x, ms, rfl, ⟨dx, t, h1, h2⟩, hm, q⟩ := h
    refine ⟨_, PSs.nox (pss_one (ps_ret (pe_f O_sum_of_parts (hr.mono (by decide)) pass0 (pa_cons (pe_fld (pv 0) rfl) pa_nil)))), ?_⟩
    exact ⟨_, rfl, x, _, dx, _, _, rfl, h1, T.clH, T.aMarks, rfl, t, ms, rfl, .inr (.of h2), hm, q⟩
theorem ok_is_telling (T : Tx P K mg) : Ok P w K mg base CX0 5 "is_telling" ["hands"] (spTells K) := by
  have O_share := ok_share (P := P) (w := w) (base := base) T
  refine T.d_is_telling.ok sc_is_telling (fun _ _ _ _ _ _ us hl => match us, hl with | [_], _ => rfl) (fun vs H Q E h => ?_) (fun cdv A outer s H vs Q E hr h => ?_)
  · obtain ⟨a, ms, rfl, _⟩ := h
    rfl
  · obtain ⟨x, ms, rfl, hh, hm, q⟩ := h
    refine ⟨_, PSs.nox (pss_cons (ps_asg (pe_f O_share (hr.mono (by decide)) pass0 (pa_cons (pv 0) pa_nil)) (pg_tup rfl (pgs_cons (pg_name (i := 1) sc_is_telling.nd rfl (.inl rfl)) (pgs_cons (pg_name (i := 2) sc_is_telling.nd rfl (.inl rfl)) pgs_nil))))
      (pss_one (ps_ret (pe_cmpR op_le (pv 1) (pv 2) (nomark _))))), ?_⟩
    refine ⟨_, rfl, x, ms, rfl, hh, hm, fun H1 p m1 f1 e1 => ?_⟩
    refine ⟨p, _, rfl, .of e1, rfl, _, _, rfl, _, _, rfl, rfl, _, rfl, _, rfl, _, _, rfl, rfl, ?_⟩
    have e2 : decide (((shareT ms : Nat) : Int) ≤ ((shareB ms : Nat) : Int)) = fits ms := by
      rw [← (share_prod hm.pos hm.ne).2.2, decide_eq_decide]
      omega
    show Q (.bl (decide (((shareT ms : Nat) : Int) ≤ ((shareB ms : Nat) : Int)))) H1
    rw [e2]
    exact q _ m1
end
end W6
namespace W6
open PySem PySem.Spec PyProof.Rows L2 K6
section
variable {X : Cx}
theorem ip_mulW : PIp X .Mult (fun x y H Q => ∃ i j, x = .int i ∧ y = .int j ∧ CMulW i j ∧ Q (.int (i * j)) H) := by
  intro pins s σ H x y v u Q I r1 r2 h
  obtain ⟨i, j, e1, e2, hc, q⟩ := h
  subst e1; subst e2
  obtain ⟨t, rfl⟩ := r1
  obtain ⟨t', rfl⟩ := r2
  exact imul_int ⟨.int _, H, I.tok _, ⟨_, rfl⟩, q⟩ hc.ok
theorem passN {P : Program} {w : World} (h1 : X.prog = P := by rfl) : Passes (L2.CX P w) X E0 := fun _ _ _ _ _ _ _ h => by
  obtain ⟨_, _, _, _, _, _, _, _, _, _, _, _, q⟩ := h
  exact q.elim
end
theorem nat_mulW {a b x y : Nat} (ha : a < 2 ^ x) (hb : b < 2 ^ y) (h0 : 0 < x) (h1 : 0 < y) (h : x + y ≤ 1000000) : CMulW (a : Int) (b : Int) := wide_mul (by rw [Int.natAbs_natCast]; exact ha) (by rw [Int.natAbs_natCast]; exact hb) h0 h1 h
theorem le_pow2 {a x : Nat} (h : a ≤ 2 ^ x) : a < 2 ^ (x + 1) := Nat.lt_of_le_of_lt h (Nat.pow_lt_pow_right (by decide) (Nat.lt_succ_self _))
theorem small20 {a : Nat} (h : a ≤ 100000) : a < 2 ^ 20 := Nat.lt_of_le_of_lt h (by decide)
theorem fil_snoc : ∀ (p q : List Nat) (m x : Nat), p.length = q.length → fil (p ++ [m]) (q ++ [x]) = fil p q * m ^ x
  | [], [], m, x, _ => by
    show m ^ x * 1 = 1 * m ^ x
    omega
  | a :: p, b :: q, m, x, h => by
    show a ^ b * fil (p ++ [m]) (q ++ [x]) = a ^ b * fil p q * m ^ x
    rw [fil_snoc p q m x (by simpa using h), Nat.mul_assoc]
  | [], b :: q, m, x, h => by cases h
  | a :: p, [], m, x, h => by cases h
theorem fstIx_first : ∀ {x : Nat} {l : List Nat} {m y : Nat}, m < fstIx x l → l[m]? = some y → y ≠ x
  | x, [], m, y, h, _ => by
    have : fstIx x [] = 0 := rfl
    omega
  | x, z :: r, 0, y, h, e => by
    have hz : z = y := by simpa using e
    subst hz
    intro q
    unfold fstIx at h
    rw [if_pos q] at h
    exact absurd h (Nat.lt_irrefl _)
  | x, z :: r, m + 1, y, h, e => by
    unfold fstIx at h
    by_cases q : z = x
    · rw [if_pos q] at h
      exact absurd h (Nat.not_lt_zero _)
    · rw [if_neg q] at h
      exact fstIx_first (l := r) (m := m) (by omega) (by simpa using e)
theorem take_sum_le (c : List Nat) : ∀ i, (c.take i).sum ≤ c.sum := by
  induction c with
  | nil => intro i; cases i <;> exact Nat.le_refl _
  | cons x c ih =>
    intro i
    cases i with
    | zero => exact Nat.zero_le _
    | succ i =>
      rw [List.take_succ_cons, List.sum_cons, List.sum_cons]
      have := ih i
      omega
theorem take_sum_next {c : List Nat} {i x : Nat} (h : c[i]? = some x) : (c.take (i + 1)).sum = (c.take i).sum + x := by
  rw [take_next h, List.sum_append]
  simp
/-! ### promises -/
def spOrd (K : PySem.W.Frag) : Sp := fun vs H Q _ => ∃ a c, vs = [.ref a] ∧ Sq K H a (nv c) ∧ c.length ≤ 4 ∧ c.sum ≤ 2200 ∧ ∀ H', Same H H' → Q (.int (ord c : Nat)) H'
def spFil (K : PySem.W.Frag) : Sp := fun vs H Q _ => ∃ a b ms c, vs = [.ref a, .ref b] ∧ Sq K H a (nv ms) ∧ Sq K H b (nv c) ∧ Mks ms ∧ c.length = ms.length ∧ c.sum ≤ 2200 ∧ ∀ H', Same H H' → Q (.int (fil ms c : Nat)) H'
def spNext (K : PySem.W.Frag) : Sp := fun vs H Q _ => ∃ a b ms c, vs = [.ref a, .ref b] ∧ Sq K H a (nv ms) ∧ Sq K H b (nv c) ∧ Mks ms ∧ c.length = ms.length ∧ c.sum ≤ 3000 ∧ ∀ H', Same H H' → Q (.int (nextH ms c : Nat)) H'
/-- a new tuple of numbers -/
def newT (H : Hp) (c : List Nat) (Q : VK) : Prop := ∀ H' p, Same H H' → H p = none → H' p = some (.tup (nv c)) → Q (.ref p) H'
def spDear (K : PySem.W.Frag) : Sp := fun vs H Q _ => ∃ (a : Addr) (ms : List Nat) (n : Nat), vs = [.ref a, .int (n : Int)] ∧ Sq K H a (nv ms) ∧ Mks ms ∧ n ≤ 400 ∧ newT H (dear ms n) Q
theorem sc_orders_of : FnScope ["counts", "found", "length", "count", "deed"] ["counts"] (defScope (topS 25)) := ⟨rfl, rfl, rfl, by decide +kernel, rfl, by decide +kernel, by decide +kernel⟩
theorem sc_fillings_of : FnScope ["marks", "counts", "found", "many", "count", "_"] ["marks", "counts"] (defScope (topS 26)) := ⟨rfl, rfl, rfl, by decide +kernel, rfl, by decide +kernel, by decide +kernel⟩
theorem elem_sum {c : List Nat} {i x : Nat} (h : c[i]? = some x) : x ≤ c.sum := by
  have := take_sum_next h
  have := take_sum_le c (i + 1)
  omega
section
variable {P : Program} {w : World} {K : PySem.W.Frag} {mg : Str → Option Value} {base : Heap}
theorem ok_orders_of (T : Tx P K mg) : Ok P w K mg base CX0 1 "orders_of" ["counts"] (spOrd K) := by
  refine T.d_orders_of.ok sc_orders_of (fun _ _ _ _ _ _ us hl => match us, hl with | [_], _ => rfl) (fun vs H Q E h => ?_) (fun cdv A outer s H vs Q E hr h => ?_)
  · obtain ⟨a, ms, rfl, _⟩ := h
    rfl
  · obtain ⟨a, c, rfl, hl, h4, hs, q⟩ := h
    obtain ⟨k, hk⟩ := hl.kind
    refine ⟨_, PSs.nox (pss_cons (ps_asg (pe_tup (pa_cons pe_int (pa_cons pe_int pa_nil))) (pg_tup rfl (pgs_cons (pg_name (i := 1) sc_orders_of.nd rfl (.inl rfl)) (pgs_cons (pg_name (i := 2) sc_orders_of.nd rfl (.inl rfl)) pgs_nil))))
      (pss_cons (ps_for PassesOwn.never rfl (pi_sq k (pv 0)) (pg_name (i := 3) sc_orders_of.nd rfl (.inl rfl)) (pss_one (ps_for PassesOwn.never rfl (pi_range1 (by rfl) T.n_range (pa_cons (pv 3) pa_nil)) (pg_name (i := 4) sc_orders_of.nd rfl (.inl rfl)) (pss_cons (ps_aug (i := 2) sc_orders_of.nd rfl (.inl rfl) pe_int ip_add)
      (pss_one (ps_set (i := 1) sc_orders_of.nd rfl (.inl rfl) (pe_op op_fdivP (pe_op op_mulW (pv 1) (pv 2)) (pe_op op_add (pv 4) pe_int))))))))
      (pss_one (ps_ret (pv 1))))), ?_⟩
    refine ⟨by show 2 ≤ sizeLine; decide, fun tp htp => ⟨tp, _, rfl, .of upd_same, rfl, _, _, rfl, _, _, rfl, rfl, ?_⟩⟩
    have hk2 := same_b (same_upd (o := .tup [.int 1, .int 0]) htp) hk
    refine ⟨_, rfl, a, rfl, ⟨_, hk2⟩, for_sq (xs := nv c) (fun i σ H' => Same H H' ∧ ∃ x y, σ = [some (.ref a), some (.int (ord (c.take i) : Nat)), some (.int ((c.take i).sum : Nat)), x, y]) ⟨same_upd htp, none, none, by rw [List.take_zero, ord_nil]; rfl⟩ (fun i σ H' _ p => same_b p.1 hk) (fun i x σ H' hx p => ?_) (fun σ H' p => ?_)⟩
    · obtain ⟨n, e, rfl⟩ := nv_of hx
      obtain ⟨m1, x, y, rfl⟩ := p
      have hn := elem_sum e
      have hp : (c.take i).length ≤ 3 := by
        have : i < c.length := (List.getElem?_eq_some_iff.mp e).1
        rw [List.length_take]
        omega
      have hts := take_sum_next e
      have htl := take_sum_le c (i + 1)
      refine ⟨_, rfl, n, rfl, by omega, by omega, for_range (fun j σ H'' => Same H H'' ∧ ∃ y, σ = [some (.ref a), some (.int (ord (c.take i ++ [j]) : Nat)), some (.int ((c.take i).sum + j : Nat)), some (.int n), y]) ⟨m1, y, ?_⟩ (fun j σ H'' hj p => ?_) (fun σ H'' p => ?_)⟩
      · rw [ord_zero]
        rfl
      · obtain ⟨m1, y, rfl⟩ := p
        have hj' : j < n := by
          have : (n : Int).toNat = n := rfl
          omega
        have hb : ord (c.take i ++ [j]) < 2 ^ (2 * (c.take i ++ [j]).sum + 1) := ord_bits (by rw [List.length_append]; exact Nat.succ_le_succ hp)
        have es : (c.take i ++ [j]).sum = (c.take i).sum + j := by
          rw [List.sum_append]
          simp
        rw [es] at hb
        refine ⟨_, rfl, _, _, rfl, rfl, ?_⟩
        refine ⟨_, rfl, _, rfl, (ord (c.take i ++ [j]) : Nat), ((c.take i).sum + j : Nat) + 1, rfl, rfl, ?_, _, rfl, _, _, rfl, rfl, _, _, rfl, rfl, ?_, m1, some (.int ((0 : Int) + j)), ?_⟩
        · exact nat_mulW (b := (c.take i).sum + j + 1) hb (small20 (by omega)) (by omega) (by decide) (by omega)
        · exact small_div (by omega) (by omega)
        · have e1 := ord_step (c.take i) j
          have e2 : (((ord (c.take i ++ [j]) : Nat) : Int) * (((c.take i).sum + j : Nat) + 1 : Int)) / ((0 : Int) + j + 1) = (ord (c.take i ++ [j + 1]) : Nat) := by
            rw [← e1]
            have : ((0 : Int) + j + 1) = ((j + 1 : Nat) : Int) := by omega
            rw [this]
            rfl
          show [some (V.ref a), some (V.int ((((ord (c.take i ++ [j]) : Nat) : Int) * (((c.take i).sum + j : Nat) + 1 : Int)) / ((0 : Int) + j + 1))), _, _, _] = _
          rw [e2]
          rfl
      · obtain ⟨m1, y, rfl⟩ := p
        refine ⟨m1, some (.int n), y, ?_⟩
        rw [hts, take_next e]
        rfl
    · obtain ⟨m1, x, y, rfl⟩ := p
      rw [nv_length, List.take_length]
      exact ⟨_, rfl, q _ m1⟩
theorem ok_fillings_of (T : Tx P K mg) : Ok P w K mg base CX0 1 "fillings_of" ["marks", "counts"] (spFil K) := by
  refine T.d_fillings_of.ok sc_fillings_of (fun _ _ _ _ _ _ us hl => match us, hl with | [_, _], _ => rfl) (fun vs H Q E h => ?_) (fun cdv A outer s H vs Q E hr h => ?_)
  · obtain ⟨a, b, ms, c, rfl, _⟩ := h
    rfl
  · obtain ⟨a, b, ms, c, rfl, hl1, hl2, hm, hc, hs, q⟩ := h
    obtain ⟨k1, hk1⟩ := hl1.kind
    obtain ⟨k2, hk2⟩ := hl2.kind
    refine ⟨_, PSs.nox (pss_cons (ps_set (i := 2) sc_fillings_of.nd rfl (.inl rfl) pe_int)
      (pss_cons (ps_for PassesOwn.never rfl (pi_zipB k1 k2 (by rfl) T.n_zip (pa_cons (pv 0) (pa_cons (pv 1) pa_nil))) (pg_tup rfl (pgs_cons (pg_name (i := 3) sc_fillings_of.nd rfl (.inl rfl)) (pgs_cons (pg_name (i := 4) sc_fillings_of.nd rfl (.inl rfl)) pgs_nil))) (pss_one (ps_for PassesOwn.never rfl (pi_range1 (by rfl) T.n_range (pa_cons (pv 4) pa_nil)) (pg_name (i := 5) sc_fillings_of.nd rfl (.inl rfl)) (pss_one (ps_aug (i := 2) sc_fillings_of.nd rfl (.inl rfl) (pv 3) ip_mulW)))))
      (pss_one (ps_ret (pv 2))))), ?_⟩
    refine ⟨_, rfl, _, rfl, a, b, _, _, rfl, hk1, hk2, for_zip2 (xs := nv ms) (ys := nv c) (by rw [nv_length, nv_length, hc]) (fun i σ H' => Same H H' ∧ ∃ x y z, σ = [some (.ref a), some (.ref b), some (.int (fil (ms.take i) (c.take i) : Nat)), x, y, z]) ⟨Same.refl _, none, none, none, rfl⟩ (fun i σ H' p => ⟨same_b p.1 hk1, same_b p.1 hk2⟩) (fun i x y T σ H' hx hy p hT => ?_) (fun σ H' p => ?_)⟩
    · obtain ⟨m, e1, rfl⟩ := nv_of hx
      obtain ⟨n, e, rfl⟩ := nv_of hy
      obtain ⟨m1, x, y, z, rfl⟩ := p
      have hm1 := hm.get e1
      have hn := elem_sum e
      have hts := take_sum_next e
      have htl := take_sum_le c (i + 1)
      have hle : (ms.take i).length = (c.take i).length := by rw [List.length_take, List.length_take, hc]
      have m2 : Same H (upd H' T (.tup [.int m, .int n])) := m1.trans (same_upd hT)
      refine ⟨_, _, rfl, .of upd_same, rfl, _, _, rfl, _, _, rfl, rfl, _, rfl, n, rfl, by omega, by omega, for_range (fun j σ H'' => Same H H'' ∧ ∃ z, σ = [some (.ref a), some (.ref b), some (.int (fil (ms.take i ++ [m]) (c.take i ++ [j]) : Nat)), some (.int m), some (.int n), z]) ⟨m2, z, ?_⟩ (fun j σ H'' hj p => ?_) (fun σ H'' p => ?_)⟩
      · rw [fil_snoc _ _ _ _ hle, Nat.pow_zero, Nat.mul_one]
        rfl
      · obtain ⟨m3, z, rfl⟩ := p
        have hj' : j < n := by
          have : (n : Int).toNat = n := rfl
          omega
        have es : (c.take i ++ [j]).sum = (c.take i).sum + j := by
          rw [List.sum_append]
          simp
        have hb := fil_bits (ms := ms.take i ++ [m]) (c := c.take i ++ [j]) (fun y hy => by
          rcases List.mem_append.mp hy with z | z
          · have := hm.2.2 y (List.mem_of_mem_take z)
            omega
          · have : y = m := by simpa using z
            omega)
        rw [es] at hb
        refine ⟨_, rfl, _, rfl, _, _, rfl, rfl, nat_mulW (b := m) (le_pow2 hb) (small20 (by omega)) (by omega) (by decide) (by omega), m3, some (.int ((0 : Int) + j)), ?_⟩
        have e3 : fil (ms.take i ++ [m]) (c.take i ++ [j + 1]) = fil (ms.take i ++ [m]) (c.take i ++ [j]) * m := by
          rw [fil_snoc _ _ _ _ hle, fil_snoc _ _ _ _ hle, Nat.pow_succ, Nat.mul_assoc]
        rw [e3]
        rfl
      · obtain ⟨m3, z, rfl⟩ := p
        refine ⟨m3, some (.int m), some (.int n), z, ?_⟩
        rw [take_next e, take_next e1]
        rfl
    · obtain ⟨m1, x, y, z, rfl⟩ := p
      rw [nv_length, List.take_length, ← hc, List.take_length]
      exact ⟨_, rfl, q _ m1⟩
end
end W6
namespace W6
open PySem PySem.Spec PyProof.Rows L2 K6
theorem sc_next_hand : FnScope ["marks", "counts", "weights", "many", "count"] ["marks", "counts"] (defScope (topS 27)) := ⟨rfl, rfl, rfl, by decide +kernel, rfl, by decide +kernel, by decide +kernel⟩
theorem sc_dearest_counts : FnScope ["marks", "length", "found", "_"] ["marks", "length"] (defScope (topS 28)) := ⟨rfl, rfl, rfl, by decide +kernel, rfl, by decide +kernel, by decide +kernel⟩
theorem nv_flat (l : List Nat) : (nv l).all flatV = true := by
  unfold nv
  rw [List.all_map]
  exact List.all_eq_true.mpr fun _ _ => rfl
theorem wts_le {ms c : List Nat} {B : Nat} (hm : ∀ m ∈ ms, m ≤ 60) : ∀ x ∈ wts ms c, x ≤ 60 * (c.sum + 1) := by
  induction ms generalizing c with
  | nil => intro x hx; cases hx
  | cons m ms ih =>
    cases c with
    | nil => intro x hx; cases hx
    | cons y c =>
      intro x hx
      have hx : x ∈ (m * (y + 1)) :: wts ms c := hx
      rcases List.mem_cons.mp hx with e | hx
      · rw [e, List.sum_cons]
        exact Nat.mul_le_mul (hm m List.mem_cons_self) (by omega)
      · have := ih (fun z hz => hm z (List.mem_cons_of_mem _ hz)) x hx
        rw [List.sum_cons]
        omega
section
variable {P : Program} {w : World} {K : PySem.W.Frag} {mg : Str → Option Value} {base : Heap}
theorem ok_next_hand (T : Tx P K mg) : Ok P w K mg base CX0 1 "next_hand" ["marks", "counts"] (spNext K) := by
  refine T.d_next_hand.ok sc_next_hand (fun _ _ _ _ _ _ us hl => match us, hl with | [_, _], _ => rfl) (fun vs H Q E h => ?_) (fun cdv A outer s H vs Q E hr h => ?_)
  · obtain ⟨a, b, ms, c, rfl, _⟩ := h
    rfl
  · obtain ⟨a, b, ms, c, rfl, hl1, hl2, hm, hc, hs, q⟩ := h
    obtain ⟨k1, hk1⟩ := hl1.kind
    obtain ⟨k2, hk2⟩ := hl2.kind
    have hlen := wts_length ms c hc
    have hz := nv4 hm
    refine ⟨_, PSs.nox (pss_cons (ps_setLc (i := 2) (own := [("many", 3), ("count", 4)]) (g := gTup K 2 (gCons (gName 3) (gCons (gName 4) gNil))) (tt := tYes) rfl sc_next_hand.nd rfl rfl (sw_true rfl rfl rfl (by decide +kernel)) (pi_zipB k1 k2 (by rfl) T.n_zip (pa_cons (pv 0) (pa_cons (pv 1) pa_nil))) (blkOk_by (N := ["marks", "counts", "weights", "many", "count"]) (sc := defScope (topS 27)) (by decide +kernel)) (fun _ _ _ _ _ => (pg_tup rfl (pgs_cons (pg_name (i := 3) sc_next_hand.nd rfl (.inl rfl)) (pgs_cons (pg_name (i := 4) sc_next_hand.nd rfl (.inl rfl)) pgs_nil)))) (fun _ _ _ _ _ => pts_nil) (fun _ _ _ _ _ => (pe_op op_mulW (pv 3) (pe_op op_add (pv 4) pe_int))))
      (pss_one (ps_ret (pe_bm PySem.F.plainAttrs_list PySem.F.slot_list_index PySem.F.type_list_index mt_index (pv 2) (pa_cons (pe_callB (cr_min (by rfl)) (by rfl) T.n_min b_min (pa_cons (pv 2) pa_nil)) pa_nil))))), ?_⟩
    refine ⟨_, rfl, _, rfl, a, b, _, _, rfl, hk1, hk2, fun D hD => lc_mapZ (xs := nv ms) (ys := nv c) (zs := nv (wts ms c)) hk1 hk2 (by rw [nv_length, nv_length, hc]) hD (by rw [nv_length, nv_length, hlen]) hz (fun i x y z T H' R hx hy hzz hR eT => ?_) (fun H' m1 eD => ?_)⟩
    · obtain ⟨m, e1, rfl⟩ := nv_of hx
      obtain ⟨n, e2, rfl⟩ := nv_of hy
      obtain ⟨t, e3, rfl⟩ := nv_of hzz
      rw [wts_get ms c i m n e1 e2] at e3
      have hm1 := hm.get e1
      have hn := elem_sum e2
      have e3 := Option.some.inj e3
      subst e3
      refine ⟨_, _, rfl, .of eT, rfl, _, _, rfl, _, _, rfl, rfl, rfl, _, rfl, _, rfl, _, _, rfl, rfl, _, _, rfl, rfl, nat_mulW (b := n + 1) (small20 (by omega)) (small20 (by omega)) (by decide) (by decide) (by decide), hR _ (Same.refl _)⟩
    · obtain ⟨g1, g2⟩ := nextH_at hc hm.ne
      refine ⟨_, rfl, .inl ⟨rfl, _, .of eD⟩, _, rfl, D, (wts ms c).map (fun (n : Nat) => (n : Int)), rfl, .of (by rw [← nv_map]; exact eD), ?_, fun mn h1 h2 => ?_⟩
      · rw [List.length_map, hlen]
        have := hm.1
        omega
      · obtain ⟨x, hx, rfl⟩ := List.mem_map.mp h1
        have e1 : x = minL (wts ms c) := by
          refine Nat.le_antisymm ?_ (minL_le _ _ hx)
          have := h2 ((minL (wts ms c) : Nat) : Int) (List.mem_map.mpr ⟨_, minL_mem _ (fun e => by rw [e] at hx; cases hx), rfl⟩)
          omega
        subst e1
        refine ⟨D, _, .int ((minL (wts ms c) : Nat) : Int), nextH ms c, _, rfl, rfl, .of eD, rfl, nv_flat _, nv_get g1, ?_, fun j z hj hz' => ?_, q _ m1⟩
        · show ((minL (wts ms c) : Nat) : Int) == ((minL (wts ms c) : Nat) : Int)
          exact beq_self_eq_true _
        · obtain ⟨y, e2, rfl⟩ := nv_of hz'
          have := fstIx_first hj e2
          show (((y : Nat) : Int) == ((minL (wts ms c) : Nat) : Int)) = false
          exact beq_false_of_ne fun z => this (by omega)
theorem ok_dearest_counts (T : Tx P K mg) : Ok P w K mg base CX0 2 "dearest_counts" ["marks", "length"] (spDear K) := by
  have O_next_hand := ok_next_hand (P := P) (w := w) (base := base) T
  refine T.d_dearest_counts.ok sc_dearest_counts (fun _ _ _ _ _ _ us hl => match us, hl with | [_, _], _ => rfl) (fun vs H Q E h => ?_) (fun cdv A outer s H vs Q E hr h => ?_)
  · obtain ⟨a, ms, n, rfl, _⟩ := h
    rfl
  · obtain ⟨a, ms, n, rfl, hl, hm, hn, q⟩ := h
    have hz := nv4 hm
    refine ⟨_, PSs.nox (pss_cons (ps_set (i := 2) sc_dearest_counts.nd rfl (.inl rfl) (pe_op op_rep (pe_lst (pa_cons pe_int pa_nil)) (pe_callB call_len (by rfl) T.n_len b_len (pa_cons (pv 0) pa_nil))))
      (pss_cons (ps_for PassesOwn.never rfl (pi_range1 (by rfl) T.n_range (pa_cons (pv 1) pa_nil)) (pg_name (i := 3) sc_dearest_counts.nd rfl (.inl rfl)) (pss_one (ps_augS (pv 2) (pe_f O_next_hand (hr.mono (by decide)) pass0 (pa_cons (pv 0) (pa_cons (pv 2) pa_nil))) get_list pe_int ip_add set_list)))
      (pss_one (ps_ret (pe_callTy call_tuple_of (by rfl) T.n_tuple b_tuple (pa_cons (pv 2) pa_nil)))))), ?_⟩
    have hlv : LenV K (.ref a) H ms.length := by
      rcases hl with h | h
      · exact .inl ⟨_, h, (nv_length ms).symm⟩
      · exact .inr ⟨_, h, (nv_length ms).symm⟩
    refine ⟨by show 1 ≤ sizeLine; decide, fun p hp => ⟨_, rfl, .ref a, ms.length, rfl, ?_, p, (ms.length : Nat), _, rfl, rfl, upd_same, by omega, ?_, ?_, fun D hD => ?_⟩⟩
    · rcases hl with h | h
      · exact .inl ⟨_, (same_upd hp).seq h, (nv_length ms).symm⟩
      · exact .inr ⟨_, same_t (same_upd hp) h, (nv_length ms).symm⟩
    · have := hm.2.1
      omega
    · show 1 * ms.length ≤ sizeLine
      rw [nv_length] at hz
      omega
    · have hD0 : H D = none := (same_upd hp).free hD
      have hm0 : Same H (upd (upd H p (.lst [.int 0])) D (.lst (List.replicate ms.length [V.int 0]).flatten)) := (same_upd hp).trans (same_upd hD)
      have e0 : (List.replicate ms.length [V.int 0]).flatten = nv (dear ms 0) := by
        show _ = nv (List.replicate ms.length 0)
        unfold nv
        rw [List.map_replicate]
        have : ∀ j : Nat, (List.replicate j [V.int 0]).flatten = List.replicate j (V.int ((0 : Nat) : Int)) := fun j => by
          induction j with
          | zero => rfl
          | succ j ih => rw [List.replicate_succ, List.flatten_cons, ih, List.replicate_succ]; rfl
        exact this _
      refine ⟨_, rfl, n, rfl, by omega, by omega, for_range (fun i σ H' => Same H H' ∧ H' D = some (.lst (nv (dear ms i))) ∧ ∃ x, σ = [some (.ref a), some (.int n), some (.ref D), x]) ⟨hm0, by rw [← e0]; exact upd_same, none, rfl⟩ (fun i σ H' hi p => ?_) (fun σ H' p => ?_)⟩
      · obtain ⟨m1, eD, x, rfl⟩ := p
        have hi' : i < n := by
          have : (n : Int).toNat = n := rfl
          omega
        have hdl := dear_length ms i
        have hds := dear_sum hm.ne i
        obtain ⟨g1, g2⟩ := nextH_at hdl hm.ne
        obtain ⟨x0, hx0⟩ : ∃ x0, (dear ms i)[nextH ms (dear ms i)]? = some x0 := ⟨_, List.getElem?_eq_getElem (by omega)⟩
        refine ⟨_, rfl, _, rfl, _, rfl, a, D, ms, dear ms i, rfl, same_s m1 hl, .inl (.of eD), hm, hdl, by omega, fun H'' m2 => ?_⟩
        refine ⟨D, _, nextH ms (dear ms i), _, rfl, rfl, .of (m2 _ _ eD), nv_get hx0, _, _, rfl, rfl, ?_⟩
        refine ⟨D, _, _, nextH ms (dear ms i), rfl, rfl, m2 _ _ eD, ?_, ?_, ?_, some (.int (0 + i)), rfl⟩
        · unfold ixN
          rw [if_pos (by omega), if_pos (by rw [nv_length]; omega)]
          simp
        · intro b o e
          rw [upd_ne (ne_of_none e hD0)]
          exact m2 _ _ (m1 _ _ e)
        · rw [upd_same]
          have e2 := inc_set (dear ms i) (nextH ms (dear ms i)) x0 hx0
          show some (HO.lst ((nv (dear ms i)).set _ (V.int ((x0 : Nat) + 1 : Int)))) = some (HO.lst (nv (inc (dear ms i) (nextH ms (dear ms i)))))
          rw [← e2]
          unfold nv
          rw [List.map_set]
          rfl
      · obtain ⟨m1, eD, x, rfl⟩ := p
        have : (n : Int).toNat = n := rfl
        rw [this] at eD
        exact ⟨_, rfl, D, _, rfl, .inl ⟨.of eD, fun l hl => q _ l (m1.trans (same_upd hl)) (m1.free hl) upd_same⟩⟩
end
end W6
namespace W6
open PySem PySem.Spec PyProof.Rows L2 K6
/-! ### a def called by keywords -/
def rv (_ ws : List Value) : List Value := ws.reverse
def rvV (_ ws : List V) : List V := ws.reverse
def ap (us ws : List Value) : List Value := us ++ ws
def apV (us ws : List V) : List V := us ++ ws
theorem Binds.to_all {K : PySem.W.Frag} {fd : FuncData} {ps : List Str} {x : Str} {params : Arguments} {body : List Stmt} {scope : Scope} {kws : List (Str × V)} {f : Addr} (F : FunD K x x params body scope [] kws f fd) (n : Nat) (ks : List Str) (g : List Value → List Value → List Value) (gV : List V → List V → List V)
    (hrel : ∀ {vs : List V} {us : List Value} {zs : List V} {ws : List Value}, Vals vs us → Vals zs ws → Vals (gV vs zs) (g us ws))
    (h : ∀ (kV doc pm : Value) (an : Option Addr) (cdv ct : Value) (us ws : List Value), us.length = n → ws.length = ks.length → bindArgs (PySem.W.fnOf x x params body scope .none kV doc pm an cdv ct) ⟨us, ks.zip ws⟩ = pure (ps.zip (g us ws))) : KBn K fd ps n ks g gV := by
  obtain ⟨oc, od, dV, kV, doc, pm, an, cdv, ct, osl, rfl, lk, hcd, hD, hK⟩ := F.ex
  rcases hD with ⟨_, rfl⟩ | ⟨e, _⟩
  · exact ⟨fun s us ws _ l1 l2 => .of_eq (h kV doc pm an cdv ct us ws l1 l2), hrel⟩
  · exact absurd rfl e
theorem rv_rel {vs : List V} {us : List Value} {zs : List V} {ws : List Value} (_ : Vals vs us) (h : Vals zs ws) : Vals (rvV vs zs) (rv us ws) := h.reverse
theorem ap_rel {vs : List V} {us : List Value} {zs : List V} {ws : List Value} (h1 : Vals vs us) (h : Vals zs ws) : Vals (apV vs zs) (ap us ws) := h1.append h
/-- with its two parameters by keywords, the second one first, too -/
structure Ok2 (P : Program) (w : World) (K : PySem.W.Frag) (mg : Str → Option Value) (base : Heap) (CX : CXT) (k : Nat) (x a b : Str) (sp : Sp) : Prop where
  ex : ∃ fd, FnOk P w K mg base CX k (He.ga K x) fd [a, b] sp ∧ Binds K fd [a, b] [] ∧ (∀ (s : Shared) (us : List Value), us.length = [a, b].length → BindsTo s fd ⟨us, []⟩ ([a, b].zip us)) ∧ KBn K fd [a, b] 0 [b, a] rv rvV
  g : mg x = some (.ref (He.ga K x))
  kp : PySem.W.keepIn K (.ref (He.ga K x)) = true
theorem Ok2.ok {P : Program} {w : World} {K : PySem.W.Frag} {mg : Str → Option Value} {base : Heap} {CX : CXT} {k : Nat} {x a b : Str} {sp : Sp} (O : Ok2 P w K mg base CX k x a b sp) : Ok P w K mg base CX k x [a, b] sp := by
  obtain ⟨⟨fd, h1, h2, h3, _⟩, g, kp⟩ := O
  exact ⟨⟨fd, h1, h2, h3⟩, g, kp⟩
/-- one keyword-only parameter with its default -/
structure OkK (P : Program) (w : World) (K : PySem.W.Frag) (mg : Str → Option Value) (base : Heap) (CX : CXT) (k : Nat) (x a b : Str) (sp : Sp) : Prop where
  ex : ∃ fd, FnOk P w K mg base CX k (He.ga K x) fd [a, b] sp ∧ (∃ ds, Vals [.int 400] ds ∧ Binds K fd [a, b] ds) ∧ KBn K fd [a, b] 0 [a, b] ap apV ∧ KBn K fd [a, b] 1 [b] ap apV
  g : mg x = some (.ref (He.ga K x))
  kp : PySem.W.keepIn K (.ref (He.ga K x)) = true
/-! ### promises -/
def deedOk (m : Nat) : V → Bool
  | .int i => decide (0 ≤ i) && decide (i < (m : Int) + 1)
  | _ => false
def spDeeds (K : PySem.W.Frag) : Sp := fun vs H Q E => ∃ v t, ∃ m : Nat, vs = [v, .int (m : Int)] ∧ atomT v = some t ∧ (deedOk m v = true → Q v H) ∧ (deedOk m v = false → ∀ d, H d = none → E (.ref (He.ga K "Refused")) (some d) (upd H d (.xd [("at", v)])))
def spCrowded (K : PySem.W.Frag) : Sp := fun vs H Q _ => ∃ x ms, ∃ n : Nat, vs = [.ref x, .int (n : Int)] ∧ HandsAt K H x ms ∧ Mks ms ∧ n ≤ 400 ∧ newT H (dear ms n) Q
/-- the fraction rounded up -/
def cdv (a b : Nat) : Int := -((-(a : Int)) / (b : Int))
def spBound (K : PySem.W.Frag) : Sp := fun vs H Q E => ∃ x ms v t, vs = [.ref x, v] ∧ HandsAt K H x ms ∧ Mks ms ∧ atomT v = some t ∧ (∀ n : Nat, v = .int (n : Int) → n ≤ 60 → ∀ H', Same H H' → Q (.int (cdv (ord (dear ms n)) (fil ms (dear ms n)))) H') ∧
  (deedOk 60 v = false → ∀ d, H d = none → E (.ref (He.ga K "Refused")) (some d) (upd H d (.xd [("at", v)])))
/-- hands that fail at t, or not up to n -/
def tooG (K : PySem.W.Frag) (H : Hp) (ms : List Nat) (n : Nat) (E : XK) : Prop := (∀ k, 1 ≤ k → k ≤ n → crowdAt ms k = false) ∧ ∀ H' d, Same H H' → H d = none → H' d = some (.xd [("most", .int (n : Int))]) → E (.ref (He.ga K "TooGreat")) (some d) H'
def spFail (K : PySem.W.Frag) : Sp := fun vs H Q E => ∃ x ms, ∃ n : Nat, vs = [.ref x, .int (n : Int)] ∧ HandsAt K H x ms ∧ Mks ms ∧ n ≤ 3000 ∧ ((∃ t, Told ms t ∧ t ≤ n ∧ newT H (dear ms t) Q) ∨ tooG K H ms n E)
def spLeast (K : PySem.W.Frag) : Sp := fun vs H Q E => ∃ x ms, ∃ n : Nat, vs = [.ref x, .int (n : Int)] ∧ HandsAt K H x ms ∧ Mks ms ∧ n ≤ 3000 ∧
  ((fits ms = true ∧ ∀ H', Same H H' → Q .non H') ∨ (fits ms = false ∧ ∃ t, Told ms t ∧ t ≤ n ∧ ∀ H', Same H H' → Q (.int (t : Nat)) H') ∨ (fits ms = false ∧ tooG K H ms n E))
/-- a paper: a word, a tuple of numbers -/
def PaperAt (H : Hp) (p : Addr) (z : Str) (c : List Nat) : Prop := ∃ q, H p = some (.tup [.str z, .ref q]) ∧ H q = some (.tup (nv c))
def newP (H : Hp) (z : Str) (c : List Nat) (Q : VK) : Prop := ∀ H' p, Same H H' → PaperAt H' p z c → Q (.ref p) H'
def spPaper (K : PySem.W.Frag) : Sp := fun vs H Q E => ∃ x ms, ∃ n : Nat, vs = [.ref x, .int (n : Int)] ∧ HandsAt K H x ms ∧ Mks ms ∧ n ≤ 3000 ∧
  ((fits ms = true ∧ newP H "tells" [shareT ms, shareB ms] Q) ∨ (fits ms = false ∧ ∃ t, Told ms t ∧ t ≤ n ∧ newP H "more" (dear ms t) Q) ∨ (fits ms = false ∧ tooG K H ms n E))
theorem sc_check_deeds : FnScope ["length", "most"] ["length", "most"] (defScope (topS 29)) := ⟨rfl, rfl, rfl, by decide +kernel, rfl, by decide +kernel, by decide +kernel⟩
theorem sc_crowded_counts : FnScope ["hands", "length"] ["hands", "length"] (defScope (topS 30)) := ⟨rfl, rfl, rfl, by decide +kernel, rfl, by decide +kernel, by decide +kernel⟩
theorem sc_failing_counts : FnScope ["hands", "most", "counts", "stories", "logs", "length", "hand"] ["hands", "most"] (defScope (topS 35)) := ⟨rfl, rfl, rfl, by decide +kernel, rfl, by decide +kernel, by decide +kernel⟩
theorem sc_least_failing : FnScope ["hands", "most"] ["hands", "most"] (defScope (topS 36)) := ⟨rfl, rfl, rfl, by decide +kernel, rfl, by decide +kernel, by decide +kernel⟩
theorem sc_court_paper : FnScope ["hands", "most"] ["hands", "most"] (defScope (topS 37)) := ⟨rfl, rfl, rfl, by decide +kernel, rfl, by decide +kernel, by decide +kernel⟩
theorem sc_crowd_bound : FnScope ["hands", "length", "counts"] ["hands", "length"] (defScope (topS 39)) := ⟨rfl, rfl, rfl, by decide +kernel, rfl, by decide +kernel, by decide +kernel⟩
theorem rep0 (j : Nat) : (List.replicate j [V.int 0]).flatten = nv (List.replicate j 0) := by
  unfold nv
  rw [List.map_replicate]
  induction j with
  | zero => rfl
  | succ j ih => rw [List.replicate_succ, List.flatten_cons, ih, List.replicate_succ]; rfl
section
variable {P : Program} {w : World} {K : PySem.W.Frag} {mg : Str → Option Value} {base : Heap}
theorem ok_check_deeds (T : Tx P K mg) : Ok P w K mg base (L2.CX P w) 4 "check_deeds" ["length", "most"] (spDeeds K) := by
  have O_is_below := ok_is_below (P := P) (w := w) (base := base) T
  refine T.d_check_deeds.ok sc_check_deeds (fun _ _ _ _ _ _ us hl => match us, hl with | [_, _], _ => rfl) (fun vs H Q E h => ?_) (fun cdv A outer s H vs Q E hr h => ?_)
  · obtain ⟨v, t, m, rfl, _⟩ := h
    rfl
  · obtain ⟨v, t, m, rfl, ha, q1, q2⟩ := h
    refine ⟨_, (pss_cons (ps_if (pt_not (pt_val (pe_f O_is_below (hr.mono (by decide)) pass0 (pa_cons (pv 0) (pa_cons (pe_op op_add (pv 1) pe_int) pa_nil))))) (pss_one (ps_raiseErr rfl T.eR.mkE hr (takes_of rfl rfl rfl rfl) (pa_cons (pv 0) pa_nil))) pss_nil)
      (pss_one (ps_ret (pv 0)))), ?_⟩
    refine ⟨_, rfl, _, rfl, _, _, rfl, rfl, v, t, (m : Int) + 1, rfl, ha, _, rfl, ?_⟩
    have e : (isN v && decide (spBelow.iv v < (m : Int) + 1)) = deedOk m v := by
      cases v with
      | int i => rfl
      | _ => rfl
    rw [e]
    cases hd : deedOk m v with
    | true => exact ⟨_, rfl, q1 hd⟩
    | false => exact ⟨_, rfl, _, rfl, fun d hd' => q2 hd d hd'⟩
theorem ok_crowded_counts (T : Tx P K mg) : Ok P w K mg base CX0 5 "crowded_counts" ["hands", "length"] (spCrowded K) := by
  have O_check_deeds := ok_check_deeds (P := P) (w := w) (base := base) T
  have O_dearest_counts := ok_dearest_counts (P := P) (w := w) (base := base) T
  obtain ⟨_, c_MOST_DEEDS⟩ := T.c_MOST_DEEDS
  refine T.d_crowded_counts.ok sc_crowded_counts (fun _ _ _ _ _ _ us hl => match us, hl with | [_, _], _ => rfl) (fun vs H Q E h => ?_) (fun cdv A outer s H vs Q E hr h => ?_)
  · obtain ⟨v, t, m, rfl, _⟩ := h
    rfl
  · obtain ⟨x, ms, n, rfl, ⟨dx, t, h1, h2⟩, hm, hn, q⟩ := h
    refine ⟨_, PSs.nox (pss_one (ps_ret (pe_f O_dearest_counts (hr.mono (by decide)) pass0 (pa_cons (pe_fld (pv 0) rfl) (pa_cons (pe_f O_check_deeds (hr.mono (by decide)) passN (pa_cons (pv 1) (pa_cons (pe_glob (v := .int 400) (by rfl) c_MOST_DEEDS ⟨_, rfl⟩) pa_nil))) pa_nil))))), ?_⟩
    have hb : deedOk 400 (.int (n : Int)) = true := by
      show (decide ((0 : Int) ≤ n) && decide ((n : Int) < 400 + 1)) = true
      rw [decide_eq_true (by omega), decide_eq_true (by omega)]
      rfl
    refine ⟨_, rfl, x, _, dx, _, _, rfl, h1, T.clH, T.aMarks, rfl, _, rfl, .int n, _, 400, rfl, rfl, fun _ => ⟨t, ms, n, rfl, .inr (.of h2), hm, hn, q⟩, fun z => ?_⟩
    rw [hb] at z
    cases z
theorem ok_crowd_bound (T : Tx P K mg) : Ok2 P w K mg base (L2.CX P w) 6 "crowd_bound" "hands" "length" (spBound K) := by
  have O_check_deeds := ok_check_deeds (P := P) (w := w) (base := base) T
  have O_crowded_counts := ok_crowded_counts (P := P) (w := w) (base := base) T
  have O_orders_of := ok_orders_of (P := P) (w := w) (base := base) T
  have O_fillings_of := ok_fillings_of (P := P) (w := w) (base := base) T
  obtain ⟨_, c_MOST_CROWD⟩ := T.c_MOST_CROWD
  obtain ⟨fd, F⟩ := T.d_crowd_bound.fn
  refine ⟨⟨fd, F.ok sc_crowd_bound (fun vs H Q E h => ?_) (fun cdv A outer s H vs Q E hr h => ?_), F.bindsN (fun _ _ _ _ _ _ us hl => match us, hl with | [_, _], _ => rfl), F.bindsA (fun _ _ _ _ _ _ us hl => match us, hl with | [_, _], _ => rfl),
    Binds.to_all F 0 ["length", "hands"] rv rvV rv_rel (fun _ _ _ _ _ _ us ws h1 h2 => match us, h1, ws, h2 with | [], _, [_, _], _ => rfl)⟩, T.d_crowd_bound.g, F.kp⟩
  · obtain ⟨x, ms, v, t, rfl, _⟩ := h
    rfl
  · obtain ⟨x, ms, v, t, rfl, hh, hm, ha, q1, q2⟩ := h
    have hh0 := hh
    obtain ⟨dx, tt, h1, h2⟩ := hh
    refine ⟨_, (pss_cons (ps_expr (pe_f O_check_deeds (hr.mono (by decide)) (passes_call (takes_of rfl rfl rfl rfl) (fun _ _ _ _ h => h)) (pa_cons (pv 1) (pa_cons (pe_glob (v := .int 60) (by rfl) c_MOST_CROWD ⟨_, rfl⟩) pa_nil))))
      (pss_cons (ps_set (i := 2) sc_crowd_bound.nd rfl (.inl rfl) (pe_f O_crowded_counts (hr.mono (by decide)) pass0 (pa_cons (pv 0) (pa_cons (pv 1) pa_nil))))
      (pss_one (ps_ret (pe_un un_neg (pe_op op_fdivP (pe_un un_neg (pe_f O_orders_of (hr.mono (by decide)) pass0 (pa_cons (pv 2) pa_nil))) (pe_f O_fillings_of (hr.mono (by decide)) pass0 (pa_cons (pe_fld (pv 0) rfl) (pa_cons (pv 2) pa_nil))))))))), ?_⟩
    refine ⟨_, rfl, v, t, 60, rfl, ha, fun hd => ?_, fun hd => q2 hd⟩
    cases v with
    | int i =>
      have hd : (decide (0 ≤ i) && decide (i < ((60 : Nat) : Int) + 1)) = true := hd
      rw [Bool.and_eq_true, decide_eq_true_eq, decide_eq_true_eq] at hd
      obtain ⟨n, rfl⟩ : ∃ n : Nat, i = n := ⟨i.toNat, by omega⟩
      have hn : n ≤ 60 := by omega
      refine ⟨_, rfl, _, rfl, x, ms, n, rfl, hh0, hm, by omega, fun H1 p m1 f1 e1 => ?_⟩
      have hdl := dear_length ms n
      have hds := dear_sum hm.ne n
      have h4 := hm.2.1
      refine ⟨_, rfl, p, _, rfl, .inr (.of e1), by omega, by omega, fun H2 m2 => ⟨_, rfl, ?_⟩⟩
      have m3 := m1.trans m2
      refine ⟨_, rfl, x, _, dx, _, _, rfl, m3 _ _ h1, T.clH, T.aMarks, rfl, _, rfl, tt, p, ms, _, rfl, .inr (.of (m3 _ _ h2)), .inr (.of (m2 _ _ e1)), hm, hdl, by omega, fun H3 m4 => ?_⟩
      have hf := fil_pos (dear ms n) hm.pos
      have hb := fil_bits (ms := ms) (c := dear ms n) (fun y hy => by have := hm.2.2 y hy; omega)
      rw [hds] at hb
      have hb2 : fil ms (dear ms n) < 2 ^ 361 := Nat.lt_of_le_of_lt hb (Nat.pow_lt_pow_right (by decide) (by omega))
      refine ⟨_, _, rfl, rfl, ⟨by omega, ?_⟩, _, rfl, q1 n rfl hn _ (m3.trans m4)⟩
      exact (wide_div (i := 0) (j := (fil ms (dear ms n) : Nat)) (b := 361) (by omega) (by rw [Int.natAbs_natCast]; exact hb2) (by decide) (by decide)).2 |> PyProof.noPylong_of_log2
    | _ => cases hd
theorem ok_failing_counts (T : Tx P K mg) : Ok P w K mg base (L2.CX P w) 2 "failing_counts" ["hands", "most"] (spFail K) := by
  have O_next_hand := ok_next_hand (P := P) (w := w) (base := base) T
  refine T.d_failing_counts.ok sc_failing_counts (fun _ _ _ _ _ _ us hl => match us, hl with | [_, _], _ => rfl) (fun vs H Q E h => ?_) (fun cdv A outer s H vs Q E hr h => ?_)
  · obtain ⟨x, ms, n, rfl, _⟩ := h
    rfl
  · obtain ⟨x, ms, n, rfl, ⟨dx, tt, h1, h2⟩, hm, hn, q⟩ := h
    refine ⟨_, (pss_cons (ps_set (i := 2) sc_failing_counts.nd rfl (.inl rfl) (pe_op op_rep (pe_lst (pa_cons pe_int pa_nil)) (pe_fld (pv 0) rfl)))
      (pss_cons (ps_asg (pe_tup (pa_cons pe_int (pa_cons pe_int pa_nil))) (pg_tup rfl (pgs_cons (pg_name (i := 3) sc_failing_counts.nd rfl (.inl rfl)) (pgs_cons (pg_name (i := 4) sc_failing_counts.nd rfl (.inl rfl)) pgs_nil))))
      (pss_cons (ps_for (passes_of rfl) rfl (pi_range2 (by rfl) T.n_range (pa_cons pe_int (pa_cons (pe_op op_add (pv 1) pe_int) pa_nil))) (pg_name (i := 5) sc_failing_counts.nd rfl (.inl rfl)) (pss_cons (ps_set (i := 6) sc_failing_counts.nd rfl (.inl rfl) (pe_f O_next_hand (hr.mono (by decide)) pass0 (pa_cons (pe_fld (pv 0) rfl) (pa_cons (pv 2) pa_nil))))
      (pss_cons (ps_augS (pv 2) (pv 6) get_list pe_int ip_add set_list)
      (pss_cons (ps_set (i := 3) sc_failing_counts.nd rfl (.inl rfl) (pe_op op_fdivP (pe_op op_mulW (pv 3) (pv 5)) (pe_ix ix_seq (pv 2) (pv 6) (fun _ _ => rfl))))
      (pss_cons (ps_aug (i := 4) sc_failing_counts.nd rfl (.inl rfl) (pe_ix ix_seq (pe_fld (pv 0) rfl) (pv 6) (fun _ _ => rfl)) ip_mulW)
      (pss_one (ps_if (pt_cmpR op_gt (pv 3) (pv 4) (nomark _)) (pss_one (ps_ret (pe_callTy call_tuple_of (by rfl) T.n_tuple b_tuple (pa_cons (pv 2) pa_nil)))) pss_nil)))))))
      (pss_one (ps_raiseErr rfl T.eT.mkE hr (takes_of rfl rfl rfl rfl) (pa_cons (pv 1) pa_nil)))))), ?_⟩
    have hz := nv4 hm
    refine ⟨by show 1 ≤ sizeLine; decide, fun p hp => ⟨_, rfl, x, _, dx, _, _, rfl, same_upd hp _ _ h1, T.clH, T.aMany, rfl, p, (ms.length : Nat), _, rfl, rfl, upd_same, by omega, ?_, ?_, fun D hD => ?_⟩⟩
    · have := hm.2.1
      omega
    · show 1 * ms.length ≤ sizeLine
      rw [nv_length] at hz
      omega
    · have hD0 : H D = none := (same_upd hp).free hD
      have hm0 : Same H (upd (upd H p (.lst [.int 0])) D (.lst (List.replicate ms.length [V.int 0]).flatten)) := (same_upd hp).trans (same_upd hD)
      refine ⟨by show 2 ≤ sizeLine; decide, fun tp htp => ⟨tp, _, rfl, .of upd_same, rfl, _, _, rfl, _, _, rfl, rfl, ?_⟩⟩
      have hm1 := hm0.trans (same_upd (o := .tup [.int 1, .int 1]) htp)
      refine ⟨_, rfl, _, _, rfl, rfl, 1, (n : Int) + 1, rfl, ⟨by omega, by omega, by omega, by omega⟩, ?_⟩
      have hne : ((n : Int) + 1 - 1).toNat = n := by omega
      refine for_range (fun i σ H' => Same H H' ∧ H' D = some (.lst (nv (dear ms i))) ∧ (∀ k, 1 ≤ k → k ≤ i → crowdAt ms k = false) ∧ ∃ y z, σ = [some (.ref x), some (.int n), some (.ref D), some (.int (ord (dear ms i) : Nat)), some (.int (fil ms (dear ms i) : Nat)), y, z]) ⟨hm1, ?_, fun k a b => by omega, none, none, ?_⟩ (fun i σ H' hi p => ?_) (fun σ H' p => ?_)
      · rw [upd_ne (ne_of_none upd_same htp), upd_same, rep0]
        rfl
      · have e1 : ord (dear ms 0) = 1 := ord_unique (by
          show 1 * bot (List.replicate ms.length 0) = fact (List.replicate ms.length 0).sum
          rw [bot_zero, List.sum_replicate_nat, Nat.mul_zero]
          rfl)
        have e2 : fil ms (dear ms 0) = 1 := fil_zero ms _
        rw [e1, e2]
        rfl
      · rw [hne] at hi
        obtain ⟨m1, eD, hk, y, z, rfl⟩ := p
        have hdl := dear_length ms i
        have hds := dear_sum hm.ne i
        obtain ⟨g1, g2⟩ := nextH_at hdl hm.ne
        have hx0 : (dear ms i)[nextH ms (dear ms i)]? = some (dear ms i)[nextH ms (dear ms i)] := List.getElem?_eq_getElem (by omega)
        have hx1 : ms[nextH ms (dear ms i)]? = some ms[nextH ms (dear ms i)] := List.getElem?_eq_getElem g2
        generalize (dear ms i)[nextH ms (dear ms i)] = x0 at hx0
        generalize ms[nextH ms (dear ms i)] = mm at hx1
        have hmm := hm.get hx1
        have hx0s := elem_sum hx0
        refine ⟨_, rfl, x, _, dx, _, _, rfl, m1 _ _ h1, T.clH, T.aMarks, rfl, _, rfl, tt, D, ms, dear ms i, rfl, .inr (.of (m1 _ _ h2)), .inl (.of eD), hm, hdl, by omega, fun H2 m2 => ?_⟩
        have m3 := m1.trans m2
        refine ⟨_, rfl, _, rfl, D, _, nextH ms (dear ms i), _, rfl, rfl, .of (m2 _ _ eD), nv_get hx0, _, _, rfl, rfl, ?_⟩
        have e2 := inc_set (dear ms i) (nextH ms (dear ms i)) x0 hx0
        have e3 : (nv (dear ms i)).set (nextH ms (dear ms i)) (V.int ((x0 : Nat) + 1 : Int)) = nv (dear ms (i + 1)) := by
          show _ = nv (inc (dear ms i) (nextH ms (dear ms i)))
          rw [← e2]
          unfold nv
          rw [List.map_set]
          rfl
        have hinc : (dear ms (i + 1))[nextH ms (dear ms i)]? = some (x0 + 1) := by
          show (inc (dear ms i) (nextH ms (dear ms i)))[nextH ms (dear ms i)]? = _
          rw [← e2]
          exact List.getElem?_set_self (by omega)
        refine ⟨D, _, _, nextH ms (dear ms i), rfl, rfl, m2 _ _ eD, ?_, ?_⟩
        · unfold ixN
          rw [if_pos (by omega), if_pos (by rw [nv_length]; omega)]
          simp
        · rw [e3]
          have m4 : Same H (upd H2 D (.lst (nv (dear ms (i + 1))))) := fun b o e => by
            rw [upd_ne (ne_of_none e hD0)]
            exact m3 _ _ e
          have hob := ord_bits (c := dear ms i) (by rw [hdl]; exact hm.2.1)
          have hfb := fil_bits (ms := ms) (c := dear ms i) (fun y hy => by have := hm.2.2 y hy; omega)
          rw [hds] at hob hfb
          refine ⟨_, rfl, _, rfl, _, _, rfl, rfl, ?_, _, rfl, _, rfl, .inl ⟨D, _, nextH ms (dear ms i), _, rfl, rfl, .of upd_same, atI_nat (nv_get hinc), _, _, rfl, rfl, ?_, ?_⟩⟩
          · have := nat_mulW (b := i + 1) hob (small20 (by omega)) (by omega) (by decide) (by omega)
            have e9 : ((1 : Int) + i) = ((i + 1 : Nat) : Int) := by omega
            rw [e9]
            exact this
          · exact small_div (by omega) (by omega)
          · have e5 : (((ord (dear ms i) : Nat) : Int) * ((1 : Int) + i)) / ((x0 + 1 : Nat) : Int) = (ord (dear ms (i + 1)) : Nat) := by
              have e6 := ord_inc hx0
              rw [hds] at e6
              have e7 : dear ms (i + 1) = inc (dear ms i) (nextH ms (dear ms i)) := rfl
              rw [e7, ← e6]
              have e9 : ((1 : Int) + i) = ((i + 1 : Nat) : Int) := by omega
              rw [e9]
              rfl
            refine ⟨_, rfl, _, rfl, x, _, dx, _, _, rfl, m4 _ _ h1, T.clH, T.aMarks, rfl, _, rfl, .inr (.inl ⟨tt, _, nextH ms (dear ms i), _, rfl, rfl, .of (m4 _ _ h2), atI_nat (nv_get hx1), _, _, rfl, rfl, nat_mulW (b := mm) (le_pow2 hfb) (small20 (by omega)) (by omega) (by decide) (by omega), ?_⟩)⟩
            have e8 : fil ms (dear ms (i + 1)) = fil ms (dear ms i) * mm := fil_inc ms (dear ms i) _ mm (by omega) hx1
            have e10 : ((fil ms (dear ms i) : Nat) : Int) * (mm : Nat) = (fil ms (dear ms (i + 1)) : Nat) := by
              rw [e8]
              rfl
            refine ⟨_, rfl, _, rfl, _, _, rfl, rfl, _, rfl, ?_⟩
            have ec : decide (((fil ms (dear ms (i + 1)) : Nat) : Int) < ((ord (dear ms (i + 1)) : Nat) : Int)) = crowdAt ms (i + 1) := by
              unfold crowdAt
              rw [decide_eq_decide]
              omega
            rw [e10, e5, ec]
            cases hcr : crowdAt ms (i + 1) with
            | false =>
              refine iteF ⟨m4, upd_same, fun k a b => ?_, some (.int (1 + i)), some (.int (nextH ms (dear ms i) : Nat)), by rw [← e10, ← e5]; rfl⟩
              by_cases hki : k ≤ i
              · exact hk k a hki
              · have : k = i + 1 := by omega
                rw [this]
                exact hcr
            | true =>
              have told : Told ms (i + 1) := ⟨by omega, hcr, fun k a b => hk k a (by omega)⟩
              refine iteT ⟨_, rfl, D, _, rfl, .inl ⟨.of upd_same, fun l hl => ?_⟩⟩
              rcases q with ⟨t, tt', hle, q⟩ | ⟨q, _⟩
              · have : t = i + 1 := tt'.unique told
                subst this
                exact q _ l (m4.trans (same_upd hl)) (m4.free hl) upd_same
              · have := q (i + 1) (by omega) (by omega)
                rw [hcr] at this
                cases this
      · rw [hne] at p
        obtain ⟨m1, eD, hk, y, z, rfl⟩ := p
        rcases q with ⟨t, tt', hle, q⟩ | ⟨_, q⟩
        · have := hk t tt'.pos hle
          rw [tt'.at_] at this
          cases this
        · exact ⟨_, rfl, _, rfl, fun d hd => q _ d (m1.trans (same_upd hd)) (m1.free hd) upd_same⟩
end
end W6
namespace W6
open PySem PySem.Spec PyProof.Rows L2 K6
section
variable {P : Program} {w : World} {K : PySem.W.Frag} {mg : Str → Option Value} {base : Heap}
theorem ok_least_failing (T : Tx P K mg) : OkK P w K mg base (L2.CX P w) 6 "least_failing" "hands" "most" (spLeast K) := by
  have O_is_telling := ok_is_telling (P := P) (w := w) (base := base) T
  have O_failing_counts := ok_failing_counts (P := P) (w := w) (base := base) T
  obtain ⟨fd, F⟩ := T.d_least_failing.fn
  refine ⟨⟨fd, F.ok sc_least_failing (fun vs H Q E h => ?_) (fun cdv A outer s H vs Q E hr h => ?_), F.binds0 1 (by decide) rfl (fun D doc pm an cdv ct us ks h1 h2 => match us, h1, ks, h2 with | [_], _, [_], _ => ⟨_, _, _, _, _, _, rfl, rfl, rfl⟩),
    Binds.to_all F 0 ["hands", "most"] ap apV ap_rel (fun _ _ _ _ _ _ us ws h1 h2 => match us, h1, ws, h2 with | [], _, [_, _], _ => rfl),
    Binds.to_all F 1 ["most"] ap apV ap_rel (fun _ _ _ _ _ _ us ws h1 h2 => match us, h1, ws, h2 with | [_], _, [_], _ => rfl)⟩, T.d_least_failing.g, F.kp⟩
  · obtain ⟨x, ms, n, rfl, _⟩ := h
    rfl
  · obtain ⟨x, ms, n, rfl, hh, hm, hn, q⟩ := h
    refine ⟨_, (pss_one (ps_ret (pe_ifExp (pt_val (pe_f O_is_telling (hr.mono (by decide)) pass0 (pa_cons (pv 0) pa_nil))) pe_non (pe_callB (cr_sumS (by rfl)) (by rfl) T.n_sum b_sum (pa_cons (pe_f O_failing_counts (hr.mono (by decide)) (passes_call (takes_of rfl rfl rfl rfl) (fun _ _ _ _ h => h)) (pa_cons (pv 0) (pa_cons (pv 1) pa_nil))) pa_nil))))), ?_⟩
    refine ⟨_, rfl, x, ms, rfl, hh, hm, fun H1 m1 => ⟨_, rfl, ?_⟩⟩
    rcases q with ⟨hf, q⟩ | ⟨hf, t, told, hle, q⟩ | ⟨hf, q1, q2⟩
    · rw [hf]
      exact iteT (q _ m1)
    · rw [hf]
      refine iteF ⟨_, rfl, _, rfl, x, ms, n, rfl, hh.same m1, hm, hn, .inl ⟨t, told, hle, fun H2 p m2 f2 e2 => ?_⟩⟩
      refine ⟨p, (dear ms t).map (fun (n : Nat) => (n : Int)), rfl, .inr (.of (by rw [← nv_map]; exact e2)), ?_⟩
      rw [sum_cast, dear_sum hm.ne]
      exact q _ (m1.trans m2)
    · rw [hf]
      exact iteF ⟨_, rfl, _, rfl, x, ms, n, rfl, hh.same m1, hm, hn, .inr ⟨q1, fun H2 d m2 f2 e2 => q2 _ d (m1.trans m2) (m1.free f2) e2⟩⟩
theorem ok_court_paper (T : Tx P K mg) : OkK P w K mg base (L2.CX P w) 6 "court_paper" "hands" "most" (spPaper K) := by
  have O_is_telling := ok_is_telling (P := P) (w := w) (base := base) T
  have O_share := ok_share (P := P) (w := w) (base := base) T
  have O_failing_counts := ok_failing_counts (P := P) (w := w) (base := base) T
  obtain ⟨fd, F⟩ := T.d_court_paper.fn
  refine ⟨⟨fd, F.ok sc_court_paper (fun vs H Q E h => ?_) (fun cdv A outer s H vs Q E hr h => ?_), F.binds0 1 (by decide) rfl (fun D doc pm an cdv ct us ks h1 h2 => match us, h1, ks, h2 with | [_], _, [_], _ => ⟨_, _, _, _, _, _, rfl, rfl, rfl⟩),
    Binds.to_all F 0 ["hands", "most"] ap apV ap_rel (fun _ _ _ _ _ _ us ws h1 h2 => match us, h1, ws, h2 with | [], _, [_, _], _ => rfl),
    Binds.to_all F 1 ["most"] ap apV ap_rel (fun _ _ _ _ _ _ us ws h1 h2 => match us, h1, ws, h2 with | [_], _, [_], _ => rfl)⟩, T.d_court_paper.g, F.kp⟩
  · obtain ⟨x, ms, n, rfl, _⟩ := h
    rfl
  · obtain ⟨x, ms, n, rfl, hh, hm, hn, q⟩ := h
    refine ⟨_, (pss_cons (ps_if (pt_val (pe_f O_is_telling (hr.mono (by decide)) pass0 (pa_cons (pv 0) pa_nil))) (pss_one (ps_ret (pe_tup (pa_cons pe_str (pa_cons (pe_f O_share (hr.mono (by decide)) pass0 (pa_cons (pv 0) pa_nil)) pa_nil))))) pss_nil)
      (pss_one (ps_ret (pe_tup (pa_cons pe_str (pa_cons (pe_f O_failing_counts (hr.mono (by decide)) (passes_call (takes_of rfl rfl rfl rfl) (fun _ _ _ _ h => h)) (pa_cons (pv 0) (pa_cons (pv 1) pa_nil))) pa_nil)))))), ?_⟩
    refine ⟨_, rfl, x, ms, rfl, hh, hm, fun H1 m1 => ⟨_, rfl, ?_⟩⟩
    rcases q with ⟨hf, q⟩ | ⟨hf, t, told, hle, q⟩ | ⟨hf, q1, q2⟩
    · rw [hf]
      refine iteT ⟨_, rfl, x, ms, rfl, hh.same m1, hm, fun H2 p m2 f2 e2 => ⟨by show 2 ≤ sizeLine; decide, fun r hr => ?_⟩⟩
      exact q _ r ((m1.trans m2).trans (same_upd hr)) ⟨p, upd_same, by rw [upd_ne (ne_of_none e2 hr)]; exact e2⟩
    · rw [hf]
      refine iteF ⟨_, rfl, _, rfl, x, ms, n, rfl, hh.same m1, hm, hn, .inl ⟨t, told, hle, fun H2 p m2 f2 e2 => ⟨by show 2 ≤ sizeLine; decide, fun r hr => ?_⟩⟩⟩
      exact q _ r ((m1.trans m2).trans (same_upd hr)) ⟨p, upd_same, by rw [upd_ne (ne_of_none e2 hr)]; exact e2⟩
    · rw [hf]
      exact iteF ⟨_, rfl, _, rfl, x, ms, n, rfl, hh.same m1, hm, hn, .inr ⟨q1, fun H2 d m2 f2 e2 => q2 _ d (m1.trans m2) (m1.free f2) e2⟩⟩
end
end W6
namespace W6
open PySem PySem.Spec PyProof.Rows L2 K6
/-! ### data -/
def dn (c : List Nat) : List PyData := c.map fun (n : Nat) => PyData.int (n : Int)
theorem dp_nums (K : PySem.W.Frag) (H : Hp) : ∀ c : List Nat, DpAll K H (nv c) (dn c)
  | [] => .nil
  | _ :: c => .cons (.int _) (dp_nums K H c)
theorem eqv_nums : ∀ a b : List Nat, PyData.eqvAll (dn a) (dn b) = decide (a = b)
  | [], [] => rfl
  | [], _ :: _ => rfl
  | _ :: _, [] => rfl
  | x :: a, y :: b => by
    show (((x : Int) == (y : Int)) && PyData.eqvAll (dn a) (dn b)) = _
    rw [eqv_nums a b, Bool.eq_iff_iff, Bool.and_eq_true, beq_iff_eq, decide_eq_true_eq, decide_eq_true_eq, List.cons.injEq]
    constructor
    · rintro ⟨h1, h2⟩
      exact ⟨by omega, h2⟩
    · rintro ⟨h1, h2⟩
      exact ⟨by omega, h2⟩
theorem eqv_empty (ds : List PyData) : PyData.eqv (.list ds) (.list []) = ds.isEmpty := by
  cases ds <;> rfl
/-- flat data -/
def flatD : PyData → Bool
  | .none => true
  | .bool _ => true
  | .int _ => true
  | _ => false
theorem flat_all : ∀ {ds : List PyData}, (∀ d ∈ ds, flatD d = true) → PyData.canLayAll0 ds = true ∧ PyData.depthAll ds = 0
  | [], _ => ⟨rfl, rfl⟩
  | d :: ds, h => by
    obtain ⟨h1, h2⟩ := flat_all (ds := ds) fun x hx => h x (List.mem_cons_of_mem _ hx)
    have hd := h d List.mem_cons_self
    cases d with
    | none => exact ⟨by show (true && PyData.canLayAll0 ds) = true; rw [h1]; rfl, by show max 0 (PyData.depthAll ds) = 0; rw [h2]; rfl⟩
    | bool b => exact ⟨by show (true && PyData.canLayAll0 ds) = true; rw [h1]; rfl, by show max 0 (PyData.depthAll ds) = 0; rw [h2]; rfl⟩
    | int i => exact ⟨by show (true && PyData.canLayAll0 ds) = true; rw [h1]; rfl, by show max 0 (PyData.depthAll ds) = 0; rw [h2]; rfl⟩
    | _ => cases hd
theorem dn_flat (c : List Nat) : ∀ d ∈ dn c, flatD d = true := fun d h => by
  obtain ⟨n, _, rfl⟩ := List.mem_map.mp h
  rfl
theorem shaped_list {ds : List PyData} (h : ∀ d ∈ ds, flatD d = true) : SeqAt.shaped (.list ds) = true := by
  obtain ⟨h1, h2⟩ := flat_all h
  show (PyData.canLayAll0 ds && decide (PyData.depthAll ds + 1 ≤ 64)) = true
  rw [h1, h2]
  rfl
theorem shaped_tup {ds : List PyData} (h : ∀ d ∈ ds, flatD d = true) : SeqAt.shaped (.tuple ds) = true := by
  obtain ⟨h1, h2⟩ := flat_all h
  show (PyData.canLayAll0 ds && decide (PyData.depthAll ds + 1 ≤ 64)) = true
  rw [h1, h2]
  rfl
/-- a list of tuples of numbers -/
def dns (cs : List (List Nat)) : List PyData := cs.map fun c => PyData.tuple (dn c)
theorem dns_shaped (cs : List (List Nat)) : SeqAt.shaped (.list (dns cs)) = true := by
  have : ∀ cs : List (List Nat), PyData.canLayAll0 (dns cs) = true ∧ PyData.depthAll (dns cs) ≤ 1 := by
    intro cs
    induction cs with
    | nil => exact ⟨rfl, Nat.zero_le _⟩
    | cons c cs ih =>
      obtain ⟨h1, h2⟩ := flat_all (dn_flat c)
      refine ⟨?_, ?_⟩
      · show (PyData.canLayAll0 (dn c) && PyData.canLayAll0 (dns cs)) = true
        rw [h1, ih.1]
        rfl
      · show max (PyData.depthAll (dn c) + 1) (PyData.depthAll (dns cs)) ≤ 1
        rw [h2]
        exact Nat.max_le.mpr ⟨Nat.le_refl _, ih.2⟩
  obtain ⟨h1, h2⟩ := this cs
  show (PyData.canLayAll0 (dns cs) && decide (PyData.depthAll (dns cs) + 1 ≤ 64)) = true
  rw [h1, decide_eq_true (by omega)]
  rfl
/-- tuples of numbers at these places -/
inductive Tups (H : Hp) : List V → List (List Nat) → Prop where
  | nil : Tups H [] []
  | cons {p : Addr} {c : List Nat} {vs : List V} {cs : List (List Nat)} : H p = some (.tup (nv c)) → Tups H vs cs → Tups H (.ref p :: vs) (c :: cs)
theorem Tups.dp {K : PySem.W.Frag} {H : Hp} {vs : List V} {cs : List (List Nat)} (h : Tups H vs cs) : DpAll K H vs (dns cs) := by
  induction h with
  | nil => exact .nil
  | cons e _ ih => exact .cons (.tup (.of e) (dp_nums K H _)) ih
theorem Tups.same {H H' : Hp} {vs : List V} {cs : List (List Nat)} (e : Same H H') (h : Tups H vs cs) : Tups H' vs cs := by
  induction h with
  | nil => exact .nil
  | cons q _ ih => exact .cons (e _ _ q) ih
theorem Tups.len {H : Hp} {vs : List V} {cs : List (List Nat)} (h : Tups H vs cs) : vs.length = cs.length := by
  induction h with
  | nil => rfl
  | cons q _ ih => rw [List.length_cons, List.length_cons, ih]
theorem Tups.append {H : Hp} {vs ws : List V} {cs ds : List (List Nat)} (h : Tups H vs cs) (k : Tups H ws ds) : Tups H (vs ++ ws) (cs ++ ds) := by
  induction h with
  | nil => exact k
  | cons q _ ih => exact .cons q ih
theorem Tups.get {H : Hp} {vs : List V} {cs : List (List Nat)} (h : Tups H vs cs) : ∀ {i : Nat} {v : V}, vs[i]? = some v → ∃ p c, v = .ref p ∧ cs[i]? = some c ∧ H p = some (.tup (nv c)) := by
  induction h with
  | nil => intro i v e; simp at e
  | @cons p c vs cs q _ ih =>
    intro i v e
    cases i with
    | zero =>
      have : v = .ref p := by simpa using e.symm
      exact ⟨p, c, this, rfl, q⟩
    | succ i => exact ih (by simpa using e)
/-! ### reading a list or a tuple -/
theorem ix_sq {K : PySem.W.Frag} {H : Hp} {p : Addr} {xs : List V} {i : Int} {v : V} {Q : VK} (h : Sq K H p xs) (e : atI xs i = some v) (q : Q v H) : rIx K (.ref p) (.int i) H Q := by
  rcases h with h | h
  · exact .inl ⟨p, xs, i, v, rfl, rfl, h, e, q⟩
  · exact .inr (.inl ⟨p, xs, i, v, rfl, rfl, h, e, q⟩)
theorem len_sq {K : PySem.W.Frag} {H : Hp} {p : Addr} {xs : List V} (h : Sq K H p xs) : LenV K (.ref p) H xs.length := by
  rcases h with h | h
  · exact .inl ⟨_, h, rfl⟩
  · exact .inr ⟨_, h, rfl⟩
structure RTup (K : PySem.W.Frag) (xs : List V) (H : Hp) (Q : VK) : Prop where
  ex : ∃ p ys, xs = [.ref p] ∧ ((SqL K H p ys ∧ ∀ l, H l = none → Q (.ref l) (upd H l (.tup ys))) ∨ (SqT K H p ys ∧ Q (.ref p) H))
theorem call_tupS {X : Cx} : CallR X (.type "tuple") (RTup X.K) := fun pins s σ H vs us Q I r h => call_tuple_of pins s σ H vs us Q I r h.ex
theorem tuple_sq {K : PySem.W.Frag} {H : Hp} {p : Addr} {ys : List V} {Q : VK} (h : Sq K H p ys) (q : ∀ H' l, Same H H' → SqT K H' l ys → Q (.ref l) H') : RTup K [V.ref p] H Q := by
  rcases h with h | h
  · exact ⟨p, ys, rfl, .inl ⟨h, fun l hl => q _ l (same_upd hl) (.of upd_same)⟩⟩
  · exact ⟨p, ys, rfl, .inr ⟨h, q _ p (Same.refl _) h⟩⟩
structure RLst (K : PySem.W.Frag) (xs : List V) (H : Hp) (Q : VK) : Prop where
  ex : ∃ p ys, xs = [.ref p] ∧ (SqL K H p ys ∨ SqT K H p ys) ∧ ∀ l, H l = none → Q (.ref l) (upd H l (.lst ys))
theorem call_lstS {X : Cx} : CallR X (.type "list") (RLst X.K) := fun pins s σ H vs us Q I r h => call_list_of pins s σ H vs us Q I r h.ex
theorem list_sq {K : PySem.W.Frag} {H : Hp} {p : Addr} {ys : List V} {Q : VK} (h : Sq K H p ys) (q : ∀ l, H l = none → Q (.ref l) (upd H l (.lst ys))) : RLst K [V.ref p] H Q := ⟨p, ys, rfl, h, q⟩
end W6
namespace W6
open PySem PySem.Spec PyProof.Rows L2 K6
/-! ### papers, also bent ones -/
def partOk : V → Bool
  | .non => true
  | .bl _ => true
  | .int _ => true
  | _ => false
theorem part_atom {v : V} (h : partOk v = true) : ∃ t, atomT v = some t := by
  cases v with
  | non => exact ⟨_, rfl⟩
  | bl b => exact ⟨_, rfl⟩
  | int i => exact ⟨_, rfl⟩
  | _ => cases h
def numOf : V → Nat
  | .int i => i.toNat
  | _ => 0
def allN (ps : List V) : Bool := ps.all isN
theorem allN_nv : ∀ {ps : List V}, allN ps = true → ps = nv (ps.map numOf)
  | [], _ => rfl
  | p :: ps, h => by
    have h : (isN p && allN ps) = true := h
    rw [Bool.and_eq_true] at h
    have ih := allN_nv h.2
    cases p with
    | int i =>
      have hi : 0 ≤ i := of_decide_eq_true h.1
      show V.int i :: ps = V.int ((i.toNat : Nat) : Int) :: nv (ps.map numOf)
      rw [← ih, Int.toNat_of_nonneg hi]
    | _ => cases h.1
/-- what a value is -/
inductive Desc where
  | bad
  | pair (k : Bool) (z : V) (ps : List V)
def Desc.k : Desc → Bool
  | .bad => true
  | .pair k _ _ => k
/-- whether it holds -/
def moreD (ms c : List Nat) : Bool := decide (c.length = ms.length) && (decide (c.sum ≤ 3000) && decide (fil ms c < ord c))
def heldD (ms : List Nat) : Desc → Bool
  | .bad => false
  | .pair _ z ps => allN ps && (if z = .str "tells" then fits ms && decide (ps.map numOf = [shareT ms, shareB ms]) else if z = .str "more" then moreD ms (ps.map numOf) else false)
def wordOk (z : V) : Bool := decide (z = .str "tells") || (decide (z = .str "more") || (decide (z = .str "less") || (decide (z = .int 0) || decide (z = .non))))
theorem word_cases {z : V} (h : wordOk z = true) : z = .str "tells" ∨ z = .str "more" ∨ z = .str "less" ∨ z = .int 0 ∨ z = .non := by
  unfold wordOk at h
  simpa using h
theorem word_atom {z : V} (h : wordOk z = true) : ∃ t, atomT z = some t := by
  rcases word_cases h with rfl | rfl | rfl | rfl | rfl
  · exact ⟨_, rfl⟩
  · exact ⟨_, rfl⟩
  · exact ⟨_, rfl⟩
  · exact ⟨_, rfl⟩
  · exact ⟨_, rfl⟩
def DescAt (K : PySem.W.Frag) (H : Hp) (ms : List Nat) (v : V) : Desc → Prop
  | .bad => (∃ t, atomT v = some t) ∨ (∃ a xs, v = .ref a ∧ Sq K H a xs ∧ xs.length ≠ 2 ∧ xs.length ≤ 10) ∨ (∃ a x p b t, v = .ref a ∧ Sq K H a [x, p] ∧ Kn K H x b ∧ atomT p = some t)
  | .pair k z ps => ∃ a q, v = .ref a ∧ Sq K H a [z, .ref q] ∧ wordOk z = true ∧ SqB k K H q ps ∧ (∀ p ∈ ps, partOk p = true) ∧ ps.length ≤ 10 ∧ (∀ c, ps = nv c → c.length = ms.length → c.sum ≤ 3000 → c.sum ≤ 2200)
theorem DescAt.same {K : PySem.W.Frag} {H H' : Hp} {ms : List Nat} {v : V} (e : Same H H') : ∀ {D : Desc}, DescAt K H ms v D → DescAt K H' ms v D
  | .bad, h => by
    rcases h with h | ⟨a, xs, h1, h2, h3⟩ | ⟨a, x, p, b, t, h1, h2, h3, h4⟩
    · exact .inl h
    · exact .inr (.inl ⟨a, xs, h1, same_s e h2, h3⟩)
    · exact .inr (.inr ⟨a, x, p, b, t, h1, same_s e h2, ty_same e h3, h4⟩)
  | .pair k z ps, h => by
    obtain ⟨a, q, h1, h2, h3, h4, h5⟩ := h
    exact ⟨a, q, h1, same_s e h2, h3, same_b e h4, h5⟩
def spHolds (K : PySem.W.Frag) : Sp := fun vs H Q _ => ∃ x ms v, ∃ D : Desc, vs = [.ref x, v] ∧ HandsAt K H x ms ∧ Mks ms ∧ DescAt K H ms v D ∧ ∀ H', Same H H' → Q (.bl (heldD ms D)) H'
theorem held_word {ms : List Nat} {k : Bool} {z : V} {ps : List V} (h : isS z = false) : heldD ms (.pair k z ps) = false := by
  show (allN ps && _) = false
  cases z with
  | str y => cases h
  | _ => exact Bool.and_false _
theorem all_bl (ps : List V) : ((ps.map isN).all id) = allN ps := by
  rw [List.all_map]
  rfl
theorem get_map {α β : Type} {f : α → β} {l : List α} {i : Nat} {x : α} {y : β} (hx : l[i]? = some x) (hy : (l.map f)[i]? = some y) : y = f x := by
  rw [List.getElem?_map, hx] at hy
  exact (Option.some.inj hy).symm
theorem sc_court_holds : FnScope ["hands", "value", "part", "count"] ["hands", "value"] (defScope (topS 38)) := ⟨rfl, rfl, rfl, by decide +kernel, rfl, by decide +kernel, by decide +kernel⟩
section
variable {P : Program} {w : World} {K : PySem.W.Frag} {mg : Str → Option Value} {base : Heap}
theorem ok_court_holds (T : Tx P K mg) : Ok2 P w K mg base CX0 6 "court_holds" "hands" "value" (spHolds K) := by
  have O_is_sequence := ok_is_sequence (P := P) (w := w) (base := base) T
  have O_is_text := ok_is_text (P := P) (w := w) (base := base) T
  have O_is_number := ok_is_number (P := P) (w := w) (base := base) T
  have O_is_telling := ok_is_telling (P := P) (w := w) (base := base) T
  have O_share := ok_share (P := P) (w := w) (base := base) T
  have O_orders_of := ok_orders_of (P := P) (w := w) (base := base) T
  have O_fillings_of := ok_fillings_of (P := P) (w := w) (base := base) T
  obtain ⟨_, c_MOST_PAPER⟩ := T.c_MOST_PAPER
  obtain ⟨fd, F⟩ := T.d_court_holds.fn
  refine ⟨⟨fd, F.ok sc_court_holds (fun vs H Q E h => ?_) (fun cdv A outer s H vs Q E hr h => ?_), F.bindsN (fun _ _ _ _ _ _ us hl => match us, hl with | [_, _], _ => rfl), F.bindsA (fun _ _ _ _ _ _ us hl => match us, hl with | [_, _], _ => rfl),
    Binds.to_all F 0 ["value", "hands"] rv rvV rv_rel (fun _ _ _ _ _ _ us ws h1 h2 => match us, h1, ws, h2 with | [], _, [_, _], _ => rfl)⟩, T.d_court_holds.g, F.kp⟩
  · obtain ⟨x, ms, v, D, rfl, _⟩ := h
    rfl
  · obtain ⟨x, ms, v, D, rfl, hh, hm, hd, q⟩ := h
    obtain ⟨k, hkD⟩ : ∃ k, k = D.k := ⟨_, rfl⟩
    refine ⟨_, PSs.nox (pss_cons (ps_if (PW.pt (pw_or (pt_not (pt_val (pe_f O_is_sequence (hr.mono (by decide)) pass0 (pa_cons (pv 1) pa_nil)))) (pw_or (pt_cmpR op_ne (pe_callB call_len (by rfl) T.n_len b_len (pa_cons (pv 1) pa_nil)) pe_int (nomark _)) (pw_or (pt_not (pt_val (pe_f O_is_text (hr.mono (by decide)) pass0 (pa_cons (pe_ix ix_seq (pv 1) pe_int (fun _ _ => rfl)) pa_nil)))) (pw_or1 (pt_not (pt_val (pe_f O_is_sequence (hr.mono (by decide)) pass0 (pa_cons (pe_ix ix_seq (pv 1) pe_int (fun _ _ => rfl)) pa_nil))))))))) (pss_one (ps_ret pe_bl)) pss_nil)
      (pss_cons (ps_if (pt_cmpR op_eq (pe_ix ix_seq (pv 1) pe_int (fun _ _ => rfl)) pe_str (nomark _)) (pss_one (ps_ret (pe_and (pe_f O_is_telling (hr.mono (by decide)) pass0 (pa_cons (pv 0) pa_nil)) (pe_and (pe_callB (cr_all (by rfl)) (by rfl) T.n_all b_all (pa_cons (pe_lc (own := [("part", 2)]) (g := gName 2) (tt := tYes) rfl sc_court_holds.nd (pi_sq k (pe_ix ix_seq (pv 1) pe_int (fun _ _ => rfl))) (blkOk_by (N := ["hands", "value", "part", "count"]) (sc := defScope (topS 38)) (by decide +kernel)) (fun _ _ _ _ _ => (pg_name (i := 2) sc_court_holds.nd rfl (.inl rfl))) (fun _ _ _ _ _ => pts_nil) (fun _ _ _ _ _ => (pe_f O_is_number (hr.mono (by decide)) pass0 (pa_cons (pv 2) pa_nil)))) pa_nil)) (pe_one (pe_cmpR (op_eqD hr.units) (pe_callTy call_tupS (by rfl) T.n_tuple b_tuple (pa_cons (pe_ix ix_seq (pv 1) pe_int (fun _ _ => rfl)) pa_nil)) (pe_f O_share (hr.mono (by decide)) pass0 (pa_cons (pv 0) pa_nil)) (nomark _))))))) pss_nil)
      (pss_cons (ps_if (pt_cmpR op_ne (pe_ix ix_seq (pv 1) pe_int (fun _ _ => rfl)) pe_str (nomark _)) (pss_one (ps_ret pe_bl)) pss_nil)
      (pss_cons (ps_if (PW.pt (pw_or (pt_cmpR op_ne (pe_callB call_len (by rfl) T.n_len b_len (pa_cons (pe_ix ix_seq (pv 1) pe_int (fun _ _ => rfl)) pa_nil)) (pe_fld (pv 0) rfl) (nomark _)) (pw_or (pt_not (pt_val (pe_callB (cr_all (by rfl)) (by rfl) T.n_all b_all (pa_cons (pe_lc (own := [("count", 3)]) (g := gName 3) (tt := tYes) rfl sc_court_holds.nd (pi_sq k (pe_ix ix_seq (pv 1) pe_int (fun _ _ => rfl))) (blkOk_by (N := ["hands", "value", "part", "count"]) (sc := defScope (topS 38)) (by decide +kernel)) (fun _ _ _ _ _ => (pg_name (i := 3) sc_court_holds.nd rfl (.inl rfl))) (fun _ _ _ _ _ => pts_nil) (fun _ _ _ _ _ => (pe_f O_is_number (hr.mono (by decide)) pass0 (pa_cons (pv 3) pa_nil)))) pa_nil)))) (pw_or1 (pt_cmpR op_gt (pe_callB (cr_sumS (by rfl)) (by rfl) T.n_sum b_sum (pa_cons (pe_ix ix_seq (pv 1) pe_int (fun _ _ => rfl)) pa_nil)) (pe_glob (v := .int 3000) (by rfl) c_MOST_PAPER ⟨_, rfl⟩) (nomark _)))))) (pss_one (ps_ret pe_bl)) pss_nil)
      (pss_one (ps_ret (pe_cmpR op_gt (pe_f O_orders_of (hr.mono (by decide)) pass0 (pa_cons (pe_ix ix_seq (pv 1) pe_int (fun _ _ => rfl)) pa_nil)) (pe_f O_fillings_of (hr.mono (by decide)) pass0 (pa_cons (pe_fld (pv 0) rfl) (pa_cons (pe_ix ix_seq (pv 1) pe_int (fun _ _ => rfl)) pa_nil))) (nomark _)))))))), ?_⟩
    cases D with
    | bad =>
      have q : ∀ H', Same H H' → Q (.bl false) H' := q
      rcases hd with ⟨t, ha⟩ | ⟨a, xs, rfl, h1, h2, h3⟩ | ⟨a, y, p, b, t, rfl, h1, h2, h3⟩
      · exact ⟨_, rfl, v, false, rfl, .atom ha, fun H1 m1 => ⟨_, rfl, q _ m1⟩⟩
      · refine ⟨_, rfl, .ref a, true, rfl, .sq h1, fun H1 m1 => ⟨_, rfl, _, rfl, _, _, rfl, len_sq (same_s m1 h1), rfl, _, rfl, ?_⟩⟩
        have e : (!decide (V.int ((xs.length : Nat) : Int) = V.int 2)) = true := by
          rw [decide_eq_false (fun z => h2 (by have := V.int.inj z; omega))]
          rfl
        rw [e]
        exact q _ m1
      · refine ⟨_, rfl, .ref a, true, rfl, .sq h1, fun H1 m1 => ⟨_, rfl, _, rfl, _, _, rfl, len_sq (same_s m1 h1), rfl, _, rfl, ?_⟩⟩
        refine ⟨_, rfl, ix_sq (same_s m1 h1) (v := y) rfl ⟨y, b, rfl, ty_same m1 h2, _, rfl, ?_⟩⟩
        cases hs : isS y with
        | false => exact q _ m1
        | true => exact ⟨_, rfl, ix_sq (same_s m1 h1) (v := p) rfl ⟨p, false, rfl, .atom h3, fun H2 m2 => ⟨_, rfl, q _ (m1.trans m2)⟩⟩⟩
    | pair kk z ps =>
      have hkD : k = kk := hkD
      subst hkD
      obtain ⟨a, qa, rfl, h1, hw, h3, h4, h10, h5⟩ := hd
      obtain ⟨t, h2⟩ := word_atom hw
      have hz : ps.length ≤ sizeLine := Nat.le_trans h10 (by decide)
      refine ⟨_, rfl, .ref a, true, rfl, .sq h1, fun H1 m1 => ⟨_, rfl, _, rfl, _, _, rfl, len_sq (same_s m1 h1), rfl, _, rfl, ?_⟩⟩
      refine ⟨_, rfl, ix_sq (same_s m1 h1) (v := z) rfl ⟨z, false, rfl, .atom h2, _, rfl, ?_⟩⟩
      cases hs : isS z with
      | false =>
        rw [held_word hs] at q
        exact q _ m1
      | true =>
        refine ⟨_, rfl, ix_sq (same_s m1 h1) (v := .ref qa) rfl ⟨.ref qa, true, rfl, .sq (same_s m1 h3.sq), fun H2 m2 => ⟨_, rfl, ?_⟩⟩⟩
        have m12 := m1.trans m2
        have hv2 := same_s m12 h1
        have hsc : ∀ y : Str, scal z (.str y) = true := fun y => by
          cases z with
          | str y' => rfl
          | _ => cases hs
        refine ⟨_, rfl, ix_sq hv2 (v := z) rfl ⟨hsc _, _, rfl, ite2 (fun hc => ?_) (fun hc => ?_)⟩⟩
        · have ez : z = .str "tells" := of_decide_eq_true hc
          replace q : ∀ H', Same H H' → Q (.bl (allN ps && (fits ms && decide (ps.map numOf = [shareT ms, shareB ms])))) H' := by
            have e : heldD ms (.pair k z ps) = (allN ps && (fits ms && decide (ps.map numOf = [shareT ms, shareB ms]))) := by
              show (allN ps && (if z = .str "tells" then _ else _)) = _
              rw [if_pos ez]
            rw [← e]
            exact q
          refine ⟨_, rfl, x, ms, rfl, hh.same m12, hm, fun H3 m3 => ⟨_, rfl, ?_⟩⟩
          have m13 := m12.trans m3
          cases hf : fits ms with
          | false =>
            rw [hf, Bool.false_and, Bool.and_false] at q
            exact iteF (q _ m13)
          | true =>
            rw [hf, Bool.true_and] at q
            refine iteT ⟨_, rfl, ix_sq (same_s m13 h1) (v := .ref qa) rfl ⟨qa, rfl, ⟨_, same_b m13 h3⟩, fun D hD => lc_mapS (xs := ps) (ys := (ps.map isN).map V.bl) (same_b m13 h3) hD (by rw [List.length_map, List.length_map]) hz (fun i y y' H4 R hx hy m4 hR => ?_) (fun H4 m4 eD => ?_)⟩⟩
            · rw [List.map_map] at hy
              have ey := get_map hx hy
              subst ey
              obtain ⟨ty, hty⟩ := part_atom (h4 y (List.mem_of_getElem? hx))
              exact ⟨rfl, _, rfl, y, ty, rfl, hty, hR _ (Same.refl _)⟩
            · refine ⟨D, ps.map isN, rfl, .of eD, _, rfl, ?_⟩
              rw [all_bl]
              have m14 := m13.trans m4
              cases ha : allN ps with
              | false =>
                rw [ha, Bool.false_and] at q
                exact iteF (q _ m14)
              | true =>
                rw [ha, Bool.true_and] at q
                refine iteT ⟨_, rfl, ix_sq (same_s m14 h1) (v := .ref qa) rfl (tuple_sq (same_b m14 h3).sq fun H5 l m5 hl5 => ?_)⟩
                have m15 := m14.trans m5
                refine ⟨_, rfl, x, ms, rfl, hh.same m15, hm, fun H6 p m6 f6 e6 => ?_⟩
                have en := allN_nv ha
                rw [en] at hl5
                refine ⟨_, _, .tup (same_t m6 hl5) (dp_nums K H6 _), .tup (.of e6) (dp_nums K H6 [shareT ms, shareB ms]), shaped_tup (dn_flat _), shaped_tup (dn_flat _), ?_⟩
                show Q (.bl (PyData.eqvAll (dn (ps.map numOf)) (dn [shareT ms, shareB ms]))) H6
                rw [eqv_nums]
                exact q _ (m15.trans m6)
        · have ez : ¬ z = .str "tells" := fun e => hc (decide_eq_true e)
          refine ⟨_, rfl, ix_sq hv2 (v := z) rfl ⟨hsc _, _, rfl, ite2 (fun hc2 => ?_) (fun hc2 => ?_)⟩⟩
          · have ez2 : ¬ z = .str "more" := fun e => by
              rw [decide_eq_true e] at hc2
              cases hc2
            have e : heldD ms (.pair k z ps) = false := by
              show (allN ps && (if z = .str "tells" then _ else if z = .str "more" then _ else _)) = _
              rw [if_neg ez, if_neg ez2]
              exact Bool.and_false _
            rw [e] at q
            exact q _ m12
          · have ez2 : z = .str "more" := by
              false_or_by_contra
              rename_i zz
              apply hc2
              rw [decide_eq_false zz]
              rfl
            replace q : ∀ H', Same H H' → Q (.bl (allN ps && moreD ms (ps.map numOf))) H' := by
              have e : heldD ms (.pair k z ps) = (allN ps && moreD ms (ps.map numOf)) := by
                show (allN ps && (if z = .str "tells" then _ else if z = .str "more" then _ else _)) = _
                rw [if_neg ez, if_pos ez2]
              rw [← e]
              exact q
            have hh0 := hh
            obtain ⟨dx, tt, hx1, hx2⟩ := hh
            refine ⟨_, rfl, ix_sq hv2 (v := .ref qa) rfl ⟨_, _, rfl, len_sq (same_b m12 h3).sq, _, rfl, x, _, dx, _, _, rfl, m12 _ _ hx1, T.clH, T.aMany, rfl, rfl, _, rfl, ite2 (fun hc3 => ?_) (fun hc3 => ?_)⟩⟩
            · have e : (allN ps && moreD ms (ps.map numOf)) = false := by
                unfold moreD
                have : ¬ ((ps.map numOf).length = ms.length) := fun e => by
                  rw [List.length_map] at e
                  rw [decide_eq_true (by rw [e])] at hc3
                  cases hc3
                rw [decide_eq_false this, Bool.false_and, Bool.and_false]
              rw [e] at q
              exact q _ m12
            · have hlen : ps.length = ms.length := by
                false_or_by_contra
                rename_i zz
                apply hc3
                rw [decide_eq_false (fun e => zz (by have := V.int.inj e; omega))]
                rfl
              refine ⟨_, rfl, ix_sq hv2 (v := .ref qa) rfl ⟨qa, rfl, ⟨_, same_b m12 h3⟩, fun D hD => lc_mapS (xs := ps) (ys := (ps.map isN).map V.bl) (same_b m12 h3) hD (by rw [List.length_map, List.length_map]) hz (fun i y y' H4 R hx hy m4 hR => ?_) (fun H4 m4 eD => ?_)⟩⟩
              · rw [List.map_map] at hy
                have ey := get_map hx hy
                subst ey
                obtain ⟨ty, hty⟩ := part_atom (h4 y (List.mem_of_getElem? hx))
                exact ⟨rfl, _, rfl, y, ty, rfl, hty, hR _ (Same.refl _)⟩
              · refine ⟨D, ps.map isN, rfl, .of eD, _, rfl, ?_⟩
                rw [all_bl]
                have m14 := m12.trans m4
                cases ha : allN ps with
                | false =>
                  rw [ha, Bool.false_and] at q
                  exact q _ m14
                | true =>
                  rw [ha, Bool.true_and] at q
                  have en := allN_nv ha
                  have hlc : (ps.map numOf).length = ms.length := by rw [List.length_map, hlen]
                  have h5' := h5 _ en hlc
                  generalize ps.map numOf = c at *
                  subst en
                  have h314 := same_b m14 h3
                  refine ⟨_, rfl, ix_sq (same_s m14 h1) (v := .ref qa) rfl ⟨qa, c.map (fun (n : Nat) => (n : Int)), rfl, by rw [← nv_map]; exact h314.sq, _, _, rfl, rfl, _, rfl, ?_⟩⟩
                  rw [sum_cast]
                  refine ite2 (fun hc4 => ?_) (fun hc4 => ?_)
                  · have hs4 : ¬ c.sum ≤ 3000 := by
                      have := of_decide_eq_true hc4
                      omega
                    have e : moreD ms c = false := by
                      unfold moreD
                      rw [decide_eq_false hs4, Bool.false_and, Bool.and_false]
                    rw [e] at q
                    exact q _ m14
                  · have hs4 : c.sum ≤ 3000 := by
                      false_or_by_contra
                      rename_i zz
                      exact hc4 (decide_eq_true (by omega))
                    have hs5 := h5' hs4
                    have e : moreD ms c = decide (fil ms c < ord c) := by
                      unfold moreD
                      rw [decide_eq_true hs4, decide_eq_true hlc, Bool.true_and, Bool.true_and]
                    rw [e] at q
                    refine ⟨_, rfl, ix_sq (same_s m14 h1) (v := .ref qa) rfl ⟨qa, c, rfl, h314.sq, by rw [hlc]; exact hm.2.1, hs5, fun H5 m5 => ?_⟩⟩
                    have m15 := m14.trans m5
                    refine ⟨_, rfl, x, _, dx, _, _, rfl, m15 _ _ hx1, T.clH, T.aMarks, rfl, _, rfl, ix_sq (same_s m15 h1) (v := .ref qa) rfl ⟨tt, qa, ms, c, rfl, .inr (.of (m15 _ _ hx2)), (same_b m15 h3).sq, hm, hlc, hs5, fun H6 m6 => ?_⟩⟩
                    refine ⟨_, _, rfl, rfl, ?_⟩
                    have e7 : decide (((fil ms c : Nat) : Int) < ((ord c : Nat) : Int)) = decide (fil ms c < ord c) := by
                      rw [decide_eq_decide]
                      omega
                    show Q (.bl (decide (((fil ms c : Nat) : Int) < ((ord c : Nat) : Int)))) H6
                    rw [e7]
                    exact q _ (m15.trans m6)
end
end W6
namespace W6
open PySem PySem.Spec PyProof.Rows L2 K6
/-! ### the box -/
def BoxAt (H : Hp) (b : Addr) : Prop := ∃ g r : Int, H b = some (.lst [.int g, .int r]) ∧ 0 ≤ g ∧ 0 ≤ r ∧ r < 2 ^ 31
/-- all but the box at b -/
def Keep (b : Addr) (H H' : Hp) : Prop := BoxAt H' b ∧ ∀ c o, c ≠ b → H c = some o → H' c = some o
theorem Keep.of {b : Addr} {H H' : Hp} (h : BoxAt H b) (e : Same H H') : Keep b H H' := by
  obtain ⟨g, r, h1, h2⟩ := h
  exact ⟨⟨g, r, e _ _ h1, h2⟩, fun c o _ k => e c o k⟩
theorem Keep.trans {b : Addr} {H H1 H2 : Hp} (h : Keep b H H1) (k : Keep b H1 H2) : Keep b H H2 := ⟨k.1, fun c o hc e => k.2 c o hc (h.2 c o hc e)⟩
theorem Keep.same {b : Addr} {H H1 H2 : Hp} (h : Keep b H H1) (e : Same H1 H2) : Keep b H H2 := h.trans (.of h.1 e)
theorem Keep.free {b : Addr} {H H' : Hp} (h : Keep b H H') {p : Addr} (e : H' p = none) : H p = none := by
  cases q : H p with
  | none => rfl
  | some o =>
    by_cases hb : p = b
    · subst hb
      obtain ⟨g, r, h1, _⟩ := h.1
      rw [h1] at e
      cases e
    · rw [h.2 p o hb q] at e
      cases e
theorem BoxAt.ne {H : Hp} {b p : Addr} (h : BoxAt H b) (e : H p = none) : p ≠ b := fun z => by
  obtain ⟨g, r, h1, _⟩ := h
  rw [z, h1] at e
  cases e
theorem Keep.sq {K : PySem.W.Frag} {b : Addr} {H H' : Hp} (h : Keep b H H') {a : Addr} {xs : List V} (hb : a ≠ b) (e : SqL K H a xs) : SqL K H' a xs := by
  rcases e with (e | ⟨o, e⟩) | e
  · exact .inl (.inl (h.2 _ _ hb e))
  · exact .inl (.inr ⟨o, h.2 _ _ hb e⟩)
  · exact .inr e
/-! ### what the law draws from -/
def Dom (ms : List Nat) : Prop := (2 ≤ ms.length ∧ ms.length ≤ 4 ∧ ∀ m ∈ ms, 1 ≤ m ∧ m ≤ 7) ∨ ms = [2, 2, 9] ∨ ms = [1, 60] ∨ ms = [2, 3, 6, 60]
theorem Dom.mks {ms : List Nat} (h : Dom ms) : Mks ms := by
  rcases h with ⟨h1, h2, h3⟩ | rfl | rfl | rfl
  · exact ⟨h1, h2, fun m hm => ⟨(h3 m hm).1, Nat.le_trans (h3 m hm).2 (by decide)⟩⟩
  · exact ⟨by decide, by decide, by decide⟩
  · exact ⟨by decide, by decide, by decide⟩
  · exact ⟨by decide, by decide, by decide⟩
def spBox (K : PySem.W.Frag) : Sp := fun vs H Q _ => ∃ (a : Addr) (ns : List Int) (k : Nat), vs = [.ref a, .int (k : Int)] ∧ SqL K H a (ns.map V.int) ∧ ns.length ≤ 63 ∧ k ≤ 1 ∧ ∀ p H', H p = none → Same H H' → BoxAt H' p → Q (.ref p) H'
def spTake : Sp := fun vs H Q _ => ∃ (b : Addr) (m : Nat), vs = [.ref b, .int (m : Int)] ∧ BoxAt H b ∧ 1 ≤ m ∧ m ≤ 10000 ∧ ∀ H' (d : Nat), Keep b H H' → d < m → Q (.int (d : Int)) H'
def spPick (K : PySem.W.Frag) : Sp := fun vs H Q _ => ∃ (b a : Addr) (xs : List V), vs = [.ref b, .ref a] ∧ BoxAt H b ∧ a ≠ b ∧ SqL K H a xs ∧ 1 ≤ xs.length ∧ xs.length ≤ 10000 ∧ ∀ H' (i : Nat) v, Keep b H H' → xs[i]? = some v → Q v H'
def spMarksL : Sp := fun vs H Q _ => ∃ (b : Addr), vs = [.ref b] ∧ BoxAt H b ∧ ∀ H' p ms, Keep b H H' → H p = none → H' p = some (.lst (nv ms)) → Dom ms → Q (.ref p) H'
/-- new lists of numbers at these places -/
inductive Lsts (H0 H : Hp) : List V → List (List Nat) → Prop where
  | nil : Lsts H0 H [] []
  | cons {p : Addr} {c : List Nat} {vs : List V} {cs : List (List Nat)} : H p = some (.lst (nv c)) → H0 p = none → Lsts H0 H vs cs → Lsts H0 H (.ref p :: vs) (c :: cs)
theorem Lsts.get {H0 H : Hp} {vs : List V} {cs : List (List Nat)} (h : Lsts H0 H vs cs) : ∀ {i : Nat} {v : V}, vs[i]? = some v → ∃ p c, v = .ref p ∧ c ∈ cs ∧ H p = some (.lst (nv c)) ∧ H0 p = none := by
  induction h with
  | nil => intro i v e; simp at e
  | @cons p c vs cs q n _ ih =>
    intro i v e
    cases i with
    | zero =>
      have : v = .ref p := by simpa using e.symm
      exact ⟨p, c, this, List.mem_cons_self, q, n⟩
    | succ i =>
      obtain ⟨p', c', h1, h2, h3⟩ := ih (by simpa using e)
      exact ⟨p', c', h1, List.mem_cons_of_mem _ h2, h3⟩
theorem Lsts.same {H0 H H' : Hp} {vs : List V} {cs : List (List Nat)} (e : Same H H') (h : Lsts H0 H vs cs) : Lsts H0 H' vs cs := by
  induction h with
  | nil => exact .nil
  | cons q n _ ih => exact .cons (e _ _ q) n ih
theorem Lsts.add {H0 H : Hp} {vs ws : List V} {cs ds : List (List Nat)} (h : Lsts H0 H vs cs) (k : Lsts H0 H ws ds) : Lsts H0 H (vs ++ ws) (cs ++ ds) := by
  induction h with
  | nil => exact k
  | cons q n _ ih => exact .cons q n ih
/-- one more -/
theorem Lsts.snoc {H0 H : Hp} {vs : List V} {cs : List (List Nat)} (h : Same H0 H ∧ Lsts H0 H vs cs) {p : Addr} (c : List Nat) (hp : H p = none) : Same H0 (upd H p (.lst (nv c))) ∧ Lsts H0 (upd H p (.lst (nv c))) (vs ++ [.ref p]) (cs ++ [c]) :=
  ⟨h.1.trans (same_upd hp), (h.2.same (same_upd hp)).add (.cons upd_same (h.1.free hp) .nil)⟩
theorem fm_nn (a : Int) : 0 ≤ Int.fmod a 2147483563 ∧ Int.fmod a 2147483563 < 2147483563 := by
  rw [Int.fmod_eq_emod_of_nonneg _ (by decide)]
  exact ⟨Int.emod_nonneg _ (by decide), Int.emod_lt_of_pos _ (by decide)⟩
theorem fm_bits (a : Int) : (Int.fmod a 2147483563).natAbs < 2 ^ 64 := by
  have := fm_nn a
  omega
theorem sc_law_box : FnScope ["_law_script", "_law_k", "_law_cell", "_law_great"] ["_law_script", "_law_k"] (defScope (topS 41)) := ⟨rfl, rfl, rfl, by decide +kernel, rfl, by decide +kernel, by decide +kernel⟩
theorem sc_law_take : FnScope ["_law_box_here", "_law_many", "_law_digit", "_law_raw"] ["_law_box_here", "_law_many"] (defScope (topS 42)) := ⟨rfl, rfl, rfl, by decide +kernel, rfl, by decide +kernel, by decide +kernel⟩
theorem sc_law_pick : FnScope ["_law_box_here", "_law_some"] ["_law_box_here", "_law_some"] (defScope (topS 43)) := ⟨rfl, rfl, rfl, by decide +kernel, rfl, by decide +kernel, by decide +kernel⟩
theorem sc_law_marks : FnScope ["_law_box_here", "_law_style", "_law_many", "_law_hand"] ["_law_box_here"] (defScope (topS 44)) := ⟨rfl, rfl, rfl, by decide +kernel, rfl, by decide +kernel, by decide +kernel⟩
theorem rep1 (j x : Nat) : (List.replicate j [V.int (x : Int)]).flatten = nv (List.replicate j x) := by
  unfold nv
  rw [List.map_replicate]
  induction j with
  | zero => rfl
  | succ j ih => rw [List.replicate_succ, List.flatten_cons, ih, List.replicate_succ]; rfl
section
variable {P : Program} {w : World} {K : PySem.W.Frag} {mg : Str → Option Value} {base : Heap}
theorem ok_box (T : Tx P K mg) : Ok P w K mg base CX0 1 "_law_box" ["_law_script", "_law_k"] (spBox K) := by
  refine T.d_law_box.ok sc_law_box (fun _ _ _ _ _ _ us hl => match us, hl with | [_, _], _ => rfl) (fun vs H Q E h => ?_) (fun cdv A outer s H vs Q E hr h => ?_)
  · obtain ⟨a, ns, k, rfl, _⟩ := h
    rfl
  · obtain ⟨a, ns, k, rfl, hl, hn, hk, q⟩ := h
    refine ⟨_, PSs.nox (pss_cons (ps_set (i := 2) sc_law_box.nd rfl (.inl rfl) (pe_op op_add (pe_op op_mulW pe_int (pv 1)) pe_int))
      (pss_cons (ps_if (pt_cmpR op_lt (pv 1) (pe_callB call_len (by rfl) T.n_len b_len (pa_cons (pv 0) pa_nil)) (nomark _)) (pss_one (ps_set (i := 2) sc_law_box.nd rfl (.inl rfl) (pe_callB call_abs (by rfl) T.n_abs b_abs (pa_cons (pe_callTy call_int1 (by rfl) T.n_int b_int (pa_cons (pe_ix ix_seq (pv 0) (pv 1) (fun _ _ => rfl)) pa_nil)) pa_nil)))) (pss_one (ps_if (pt_cmpR op_gt (pe_callB call_len (by rfl) T.n_len b_len (pa_cons (pv 0) pa_nil)) pe_int (nomark _)) (pss_one (ps_set (i := 2) sc_law_box.nd rfl (.inl rfl) (pe_op op_add (pv 2) (pe_op op_mulW (pe_op op_modN (pe_callTy call_int1 (by rfl) T.n_int b_int (pa_cons (pe_callB call_abs (by rfl) T.n_abs b_abs (pa_cons (pe_callTy call_int1 (by rfl) T.n_int b_int (pa_cons (pe_ix ix_seq (pv 0) (pe_op op_modN (pe_callTy call_int1 (by rfl) T.n_int b_int (pa_cons (pv 1) pa_nil)) (pe_callB call_len (by rfl) T.n_len b_len (pa_cons (pv 0) pa_nil))) (fun _ _ => rfl)) pa_nil)) pa_nil)) pa_nil)) pe_int) pe_int)))) pss_nil)))
      (pss_cons (ps_set (i := 3) sc_law_box.nd rfl (.inl rfl) (pe_ifExp (pt_cmpR op_ge (pv 2) (pe_op op_pow pe_int pe_int) (nomark _)) (pv 2) pe_int))
      (pss_one (ps_ret (pe_lst (pa_cons (pv 3) (pa_cons (pe_op op_add (pe_op op_modN (pe_callTy call_int1 (by rfl) T.n_int b_int (pa_cons (pe_op op_add (pe_op op_mulW (pe_op op_modN (pe_callTy call_int1 (by rfl) T.n_int b_int (pa_cons (pv 2) pa_nil)) pe_int) pe_int) (pe_op op_mulW pe_int (pv 1))) pa_nil)) pe_int) pe_int) pa_nil)))))))), ?_⟩
    have hlen : (ns.map V.int).length = ns.length := List.length_map ..
    have hget : ∀ i : Nat, i < ns.length → ∃ v : Int, (ns.map V.int)[i]? = some (.int v) := fun i hi => ⟨ns[i], by rw [List.getElem?_map, List.getElem?_eq_getElem hi]; rfl⟩
    refine ⟨_, rfl, _, _, rfl, rfl, wide_mul (a := 20) (b := 20) (by decide) (by omega) (by decide) (by decide) (by decide), _, _, rfl, rfl, ?_⟩
    refine ⟨_, rfl, _, rfl, _, _, rfl, .inl ⟨_, hl, rfl⟩, _, _, rfl, rfl, _, rfl, ite2 (fun hc => ?_) (fun hc => ?_)⟩
    · have hc := of_decide_eq_true hc
      rw [hlen] at hc
      obtain ⟨v, hv⟩ := hget k (by omega)
      refine ⟨_, rfl, _, rfl, ix_sq (.inl hl) (atI_nat hv) (.inl ⟨v, rfl, _, rfl, ?_⟩)⟩
      have h0 : (0 : Int) ≤ ((if v < 0 then -v else v)) := by first | omega | (split <;> omega)
      have tail : ∀ g : Int, 0 ≤ g → ∀ p, H p = none → ∀ z : Int, z = Int.fmod (Int.fmod ((if v < 0 then -v else v)) 2147483563 * 59101003 + 3803 * (k : Int)) 2147483563 + 1 → Q (.ref p) (upd H p (.lst [.int g, .int z])) := fun g hg p hp z hz => by
        have h3 := fm_nn (Int.fmod ((if v < 0 then -v else v)) 2147483563 * 59101003 + 3803 * (k : Int))
        exact q p _ hp (same_upd hp) ⟨g, z, upd_same, hg, by omega, by omega⟩
      have m1 : CMulW (Int.fmod ((if v < 0 then -v else v)) 2147483563) 59101003 := wide_mul (a := 64) (b := 64) (fm_bits _) (by decide) (by decide) (by decide) (by decide)
      have m2 : CMulW 3803 (k : Int) := wide_mul (a := 64) (b := 64) (by decide) (by omega) (by decide) (by decide) (by decide)
      refine ⟨_, rfl, _, _, rfl, rfl, ⟨by decide, by decide, by decide⟩, _, _, rfl, rfl, _, rfl, ite2 (fun _ => ?_) (fun _ => ?_)⟩
      · exact ⟨_, rfl, _, rfl, _, rfl, .inl ⟨_, rfl, _, _, rfl, rfl, (show (2147483563 : Int) ≠ 0 by decide), _, _, rfl, rfl, m1, _, rfl, _, _, rfl, rfl, m2, _, _, rfl, rfl, .inl ⟨_, rfl, _, _, rfl, rfl, (show (2147483563 : Int) ≠ 0 by decide), _, _, rfl, rfl, by show 2 ≤ sizeLine; decide, fun p hp => tail _ h0 p hp _ rfl⟩⟩⟩
      · exact ⟨_, rfl, _, rfl, .inl ⟨_, rfl, _, _, rfl, rfl, (show (2147483563 : Int) ≠ 0 by decide), _, _, rfl, rfl, m1, _, rfl, _, _, rfl, rfl, m2, _, _, rfl, rfl, .inl ⟨_, rfl, _, _, rfl, rfl, (show (2147483563 : Int) ≠ 0 by decide), _, _, rfl, rfl, by show 2 ≤ sizeLine; decide, fun p hp => tail _ (Int.le_refl 0) p hp _ rfl⟩⟩⟩
    · refine ⟨_, rfl, _, _, rfl, .inl ⟨_, hl, rfl⟩, _, _, rfl, rfl, _, rfl, ite2 (fun hc2 => ?_) (fun hc2 => ?_)⟩
      · have hc2 := of_decide_eq_true hc2
        rw [hlen] at hc2
        have hne : ((ns.map V.int).length : Int) ≠ 0 := by rw [hlen]; omega
        have hmod : (k : Int).fmod (((ns.map V.int).length : Nat) : Int) = ((k % ns.length : Nat) : Int) := by
          rw [hlen]
          exact nat_mod _ _
        obtain ⟨v, hv⟩ := hget (k % ns.length) (Nat.mod_lt _ (by omega))
        refine ⟨_, rfl, _, rfl, _, rfl, .inl ⟨_, rfl, _, rfl, _, _, rfl, .inl ⟨_, hl, rfl⟩, _, _, rfl, rfl, hne, ix_sq (.inl hl) (by rw [hmod]; exact atI_nat hv) (.inl ⟨v, rfl, _, rfl, .inl ⟨_, rfl, _, _, rfl, rfl, (show (2147483563 : Int) ≠ 0 by decide), _, _, rfl, rfl, ?_, _, _, rfl, rfl, ?_⟩⟩)⟩⟩
        · exact wide_mul (a := 64) (b := 64) (fm_bits _) (by decide) (by decide) (by decide) (by decide)
        · have h2 := fm_nn (if v < 0 then -v else v)
          have h0 : (0 : Int) ≤ (((9907 * k + 3803 : Int) + Int.fmod (if v < 0 then -v else v) 2147483563 * 78007)) := by first | omega | (split <;> omega)
          have tail : ∀ g : Int, 0 ≤ g → ∀ p, H p = none → ∀ z : Int, z = Int.fmod (Int.fmod (((9907 * k + 3803 : Int) + Int.fmod (if v < 0 then -v else v) 2147483563 * 78007)) 2147483563 * 59101003 + 3803 * (k : Int)) 2147483563 + 1 → Q (.ref p) (upd H p (.lst [.int g, .int z])) := fun g hg p hp z hz => by
            have h3 := fm_nn (Int.fmod (((9907 * k + 3803 : Int) + Int.fmod (if v < 0 then -v else v) 2147483563 * 78007)) 2147483563 * 59101003 + 3803 * (k : Int))
            exact q p _ hp (same_upd hp) ⟨g, z, upd_same, hg, by omega, by omega⟩
          have m1 : CMulW (Int.fmod (((9907 * k + 3803 : Int) + Int.fmod (if v < 0 then -v else v) 2147483563 * 78007)) 2147483563) 59101003 := wide_mul (a := 64) (b := 64) (fm_bits _) (by decide) (by decide) (by decide) (by decide)
          have m2 : CMulW 3803 (k : Int) := wide_mul (a := 64) (b := 64) (by decide) (by omega) (by decide) (by decide) (by decide)
          refine ⟨_, rfl, _, _, rfl, rfl, ⟨by decide, by decide, by decide⟩, _, _, rfl, rfl, _, rfl, ite2 (fun _ => ?_) (fun _ => ?_)⟩
          · exact ⟨_, rfl, _, rfl, _, rfl, .inl ⟨_, rfl, _, _, rfl, rfl, (show (2147483563 : Int) ≠ 0 by decide), _, _, rfl, rfl, m1, _, rfl, _, _, rfl, rfl, m2, _, _, rfl, rfl, .inl ⟨_, rfl, _, _, rfl, rfl, (show (2147483563 : Int) ≠ 0 by decide), _, _, rfl, rfl, by show 2 ≤ sizeLine; decide, fun p hp => tail _ h0 p hp _ rfl⟩⟩⟩
          · exact ⟨_, rfl, _, rfl, .inl ⟨_, rfl, _, _, rfl, rfl, (show (2147483563 : Int) ≠ 0 by decide), _, _, rfl, rfl, m1, _, rfl, _, _, rfl, rfl, m2, _, _, rfl, rfl, .inl ⟨_, rfl, _, _, rfl, rfl, (show (2147483563 : Int) ≠ 0 by decide), _, _, rfl, rfl, by show 2 ≤ sizeLine; decide, fun p hp => tail _ (Int.le_refl 0) p hp _ rfl⟩⟩⟩
      ·
        have h0 : (0 : Int) ≤ ((9907 * k + 3803 : Int)) := by first | omega | (split <;> omega)
        have tail : ∀ g : Int, 0 ≤ g → ∀ p, H p = none → ∀ z : Int, z = Int.fmod (Int.fmod ((9907 * k + 3803 : Int)) 2147483563 * 59101003 + 3803 * (k : Int)) 2147483563 + 1 → Q (.ref p) (upd H p (.lst [.int g, .int z])) := fun g hg p hp z hz => by
          have h3 := fm_nn (Int.fmod ((9907 * k + 3803 : Int)) 2147483563 * 59101003 + 3803 * (k : Int))
          exact q p _ hp (same_upd hp) ⟨g, z, upd_same, hg, by omega, by omega⟩
        have m1 : CMulW (Int.fmod ((9907 * k + 3803 : Int)) 2147483563) 59101003 := wide_mul (a := 64) (b := 64) (fm_bits _) (by decide) (by decide) (by decide) (by decide)
        have m2 : CMulW 3803 (k : Int) := wide_mul (a := 64) (b := 64) (by decide) (by omega) (by decide) (by decide) (by decide)
        refine ⟨_, rfl, _, _, rfl, rfl, ⟨by decide, by decide, by decide⟩, _, _, rfl, rfl, _, rfl, ite2 (fun _ => ?_) (fun _ => ?_)⟩
        · exact ⟨_, rfl, _, rfl, _, rfl, .inl ⟨_, rfl, _, _, rfl, rfl, (show (2147483563 : Int) ≠ 0 by decide), _, _, rfl, rfl, m1, _, rfl, _, _, rfl, rfl, m2, _, _, rfl, rfl, .inl ⟨_, rfl, _, _, rfl, rfl, (show (2147483563 : Int) ≠ 0 by decide), _, _, rfl, rfl, by show 2 ≤ sizeLine; decide, fun p hp => tail _ h0 p hp _ rfl⟩⟩⟩
        · exact ⟨_, rfl, _, rfl, .inl ⟨_, rfl, _, _, rfl, rfl, (show (2147483563 : Int) ≠ 0 by decide), _, _, rfl, rfl, m1, _, rfl, _, _, rfl, rfl, m2, _, _, rfl, rfl, .inl ⟨_, rfl, _, _, rfl, rfl, (show (2147483563 : Int) ≠ 0 by decide), _, _, rfl, rfl, by show 2 ≤ sizeLine; decide, fun p hp => tail _ (Int.le_refl 0) p hp _ rfl⟩⟩⟩
end
end W6
namespace W6
open PySem PySem.Spec PyProof.Rows L2 K6
theorem fm_pos {a m : Int} (h : 0 < m) : 0 ≤ Int.fmod a m ∧ Int.fmod a m < m := by
  rw [Int.fmod_eq_emod_of_nonneg _ (by omega)]
  exact ⟨Int.emod_nonneg _ (by omega), Int.emod_lt_of_pos _ h⟩
theorem fm_nat {a : Int} {m : Nat} (h : 1 ≤ m) : ∃ d : Nat, Int.fmod a (m : Int) = (d : Int) ∧ d < m := by
  have h1 := fm_pos (a := a) (m := (m : Int)) (by omega)
  exact ⟨(Int.fmod a (m : Int)).toNat, by omega, by omega⟩
theorem i64 {i : Int} (h : 0 ≤ i) (h2 : i < 2 ^ 62) {j : Int} (h3 : 0 ≤ j) (h4 : j < 2 ^ 62) : CMulW i j := wide_mul (a := 64) (b := 64) (by omega) (by omega) (by decide) (by decide) (by decide)
section
variable {P : Program} {w : World} {K : PySem.W.Frag} {mg : Str → Option Value} {base : Heap}
theorem ok_take (T : Tx P K mg) : Ok P w K mg base CX0 1 "_law_take" ["_law_box_here", "_law_many"] spTake := by
  refine T.d_law_take.ok sc_law_take (fun _ _ _ _ _ _ us hl => match us, hl with | [_, _], _ => rfl) (fun vs H Q E h => ?_) (fun cdv A outer s H vs Q E hr h => ?_)
  · obtain ⟨b, m, rfl, _⟩ := h
    rfl
  · obtain ⟨b, m, rfl, ⟨g, r, h1, hg, hr0, hr1⟩, hm, hm2, q⟩ := h
    refine ⟨_, PSs.nox (pss_cons (ps_if (pt_cmpR op_gt (pe_ix ix_seq (pv 0) pe_int (fun _ _ => rfl)) pe_int (nomark _)) (pss_cons (ps_set (i := 2) sc_law_take.nd rfl (.inl rfl) (pe_op op_modN (pe_callTy call_int1 (by rfl) T.n_int b_int (pa_cons (pe_ix ix_seq (pv 0) pe_int (fun _ _ => rfl)) pa_nil)) (pv 1)))
      (pss_cons (ps_asg (pe_op op_fdivP (pe_ix ix_seq (pv 0) pe_int (fun _ _ => rfl)) (pv 1)) (pg_sub (pv 0) pe_int set_list))
      (pss_one (ps_ret (pv 2))))) pss_nil)
      (pss_cons (ps_set (i := 3) sc_law_take.nd rfl (.inl rfl) (pe_op op_modN (pe_callTy call_int1 (by rfl) T.n_int b_int (pa_cons (pe_op op_add (pe_op op_mulW (pe_ix ix_seq (pv 0) pe_int (fun _ _ => rfl)) pe_int) pe_int) pa_nil)) pe_int))
      (pss_cons (ps_asg (pe_op op_add (pe_op op_modN (pe_callTy call_int1 (by rfl) T.n_int b_int (pa_cons (pe_op op_add (pe_op op_mulW (pv 3) pe_int) pe_int) pa_nil)) pe_int) pe_int) (pg_sub (pv 0) pe_int set_list))
      (pss_one (ps_ret (pe_op op_modN (pe_callTy call_int1 (by rfl) T.n_int b_int (pa_cons (pe_op op_fdivP (pe_op op_add (pe_op op_mulW (pv 3) pe_int) (pe_ix ix_seq (pv 0) pe_int (fun _ _ => rfl))) pe_int) pa_nil)) (pv 1))))))), ?_⟩
    have hs : Sq K H b [.int g, .int r] := .inl (.of h1)
    refine ⟨_, rfl, ix_sq hs (v := .int g) rfl ⟨_, _, rfl, rfl, _, rfl, ite2 (fun hc => ?_) (fun hc => ?_)⟩⟩
    · have hc := of_decide_eq_true hc
      obtain ⟨d, hd, hdm⟩ := fm_nat (a := g) hm
      refine ⟨_, rfl, ix_sq hs (v := .int g) rfl (.inl ⟨_, rfl, _, rfl, _, _, rfl, rfl, by omega, ?_⟩)⟩
      refine ⟨_, rfl, ix_sq hs (v := .int g) rfl ⟨_, rfl, _, _, rfl, rfl, small_div (by omega) (by omega), _, rfl, b, _, 0, 0, rfl, rfl, h1, rfl, _, rfl, ?_⟩⟩
      show Q (.int (Int.fmod g (m : Int))) _
      rw [hd]
      refine q _ d ⟨⟨g / (m : Int), r, upd_same, Int.ediv_nonneg hg (by omega), hr0, hr1⟩, fun c o hc' e => ?_⟩ hdm
      rw [upd_ne hc']
      exact e
    · have e1 := fm_pos (a := r * 39373 + 101) (m := 2147483647) (by decide)
      have e2 := fm_pos (a := Int.fmod (r * 39373 + 101) 2147483647 * 40692 + 17) (m := 2147483563) (by decide)
      refine ⟨_, rfl, ix_sq hs (v := .int r) rfl ⟨_, _, rfl, rfl, i64 (by omega) (by omega) (by decide) (by decide), _, _, rfl, rfl, .inl ⟨_, rfl, _, _, rfl, rfl, (show (2147483647 : Int) ≠ 0 by decide), ?_⟩⟩⟩
      refine ⟨_, rfl, _, _, rfl, rfl, i64 (by omega) (by omega) (by decide) (by decide), _, _, rfl, rfl, .inl ⟨_, rfl, _, _, rfl, rfl, (show (2147483563 : Int) ≠ 0 by decide), _, _, rfl, rfl, _, rfl, b, _, 1, 1, rfl, rfl, h1, rfl, ?_⟩⟩
      have hs2 : Sq K (upd H b (.lst [.int g, .int (Int.fmod (Int.fmod (r * 39373 + 101) 2147483647 * 40692 + 17) 2147483563 + 1)])) b [.int g, .int (Int.fmod (Int.fmod (r * 39373 + 101) 2147483647 * 40692 + 17) 2147483563 + 1)] := .inl (.of upd_same)
      obtain ⟨d, hd, hdm⟩ := fm_nat (a := (Int.fmod (r * 39373 + 101) 2147483647 * 2147483629 + (Int.fmod (Int.fmod (r * 39373 + 101) 2147483647 * 40692 + 17) 2147483563 + 1)) / 8233) hm
      refine ⟨_, rfl, _, _, rfl, rfl, i64 (by omega) (by omega) (by decide) (by decide), _, rfl, ix_sq hs2 (v := .int (Int.fmod (Int.fmod (r * 39373 + 101) 2147483647 * 40692 + 17) 2147483563 + 1)) rfl ⟨_, _, rfl, rfl, _, _, rfl, rfl, small_div (by decide) (by decide), .inl ⟨_, rfl, _, rfl, _, _, rfl, rfl, by omega, ?_⟩⟩⟩
      show Q (.int (Int.fmod ((Int.fmod (r * 39373 + 101) 2147483647 * 2147483629 + (Int.fmod (Int.fmod (r * 39373 + 101) 2147483647 * 40692 + 17) 2147483563 + 1)) / 8233) (m : Int))) _
      rw [hd]
      refine q _ d ⟨⟨g, _, upd_same, hg, by omega, by omega⟩, fun c o hc' e => ?_⟩ hdm
      rw [upd_ne hc']
      exact e
theorem ok_pick (T : Tx P K mg) : Ok P w K mg base CX0 2 "_law_pick" ["_law_box_here", "_law_some"] (spPick K) := by
  have O_law_take := ok_take (P := P) (w := w) (base := base) T
  refine T.d_law_pick.ok sc_law_pick (fun _ _ _ _ _ _ us hl => match us, hl with | [_, _], _ => rfl) (fun vs H Q E h => ?_) (fun cdv A outer s H vs Q E hr h => ?_)
  · obtain ⟨b, a, xs, rfl, _⟩ := h
    rfl
  · obtain ⟨b, a, xs, rfl, hb, hab, hl, h1, h2, q⟩ := h
    refine ⟨_, PSs.nox (pss_one (ps_ret (pe_ix ix_seq (pv 1) (pe_f O_law_take (hr.mono (by decide)) pass0 (pa_cons (pv 0) (pa_cons (pe_callB call_len (by rfl) T.n_len b_len (pa_cons (pv 1) pa_nil)) pa_nil))) (fun _ _ => rfl)))), ?_⟩
    refine ⟨_, rfl, _, rfl, _, rfl, _, _, rfl, .inl ⟨_, hl, rfl⟩, b, xs.length, rfl, hb, h1, h2, fun H1 d k hd => ?_⟩
    have hx : xs[d]? = some xs[d] := List.getElem?_eq_getElem hd
    exact ix_sq (.inl (k.sq hab hl)) (atI_nat hx) (q _ d _ k hx)
theorem ok_marks (T : Tx P K mg) : Ok P w K mg base CX0 3 "_law_marks" ["_law_box_here"] spMarksL := by
  have O_law_take := ok_take (P := P) (w := w) (base := base) T
  have O_law_pick := ok_pick (P := P) (w := w) (base := base) T
  refine T.d_law_marks.ok sc_law_marks (fun _ _ _ _ _ _ us hl => match us, hl with | [_], _ => rfl) (fun vs H Q E h => ?_) (fun cdv A outer s H vs Q E hr h => ?_)
  · obtain ⟨b, rfl, _⟩ := h
    rfl
  · obtain ⟨b, rfl, hb, q⟩ := h
    refine ⟨_, PSs.nox (pss_cons (ps_set (i := 1) sc_law_marks.nd rfl (.inr rfl) (pe_f O_law_take (hr.mono (by decide)) pass0 (pa_cons (pv 0) (pa_cons pe_int pa_nil))))
      (pss_cons (ps_if (pt_cmpR op_eq (pv 1) pe_int (nomark _)) (pss_one (ps_ret (pe_f O_law_pick (hr.mono (by decide)) pass0 (pa_cons (pv 0) (pa_cons (pe_lst (pa_cons (pe_lst (pa_cons pe_int (pa_cons pe_int pa_nil))) (pa_cons (pe_lst (pa_cons pe_int (pa_cons pe_int (pa_cons pe_int pa_nil)))) (pa_cons (pe_lst (pa_cons pe_int (pa_cons pe_int (pa_cons pe_int pa_nil)))) (pa_cons (pe_lst (pa_cons pe_int (pa_cons pe_int (pa_cons pe_int pa_nil)))) (pa_cons (pe_lst (pa_cons pe_int (pa_cons pe_int (pa_cons pe_int (pa_cons pe_int pa_nil))))) (pa_cons (pe_lst (pa_cons pe_int (pa_cons pe_int (pa_cons pe_int (pa_cons pe_int pa_nil))))) pa_nil))))))) pa_nil))))) pss_nil)
      (pss_cons (ps_set (i := 2) sc_law_marks.nd rfl (.inl rfl) (pe_op op_add pe_int (pe_f O_law_take (hr.mono (by decide)) pass0 (pa_cons (pv 0) (pa_cons pe_int pa_nil)))))
      (pss_cons (ps_if (pt_cmpR op_eq (pv 1) pe_int (nomark _)) (pss_one (ps_ret (pe_op op_rep (pe_lst (pa_cons (pe_op op_add pe_int (pe_f O_law_take (hr.mono (by decide)) pass0 (pa_cons (pv 0) (pa_cons pe_int pa_nil)))) pa_nil)) (pv 2)))) pss_nil)
      (pss_one (ps_ret (pe_lc (own := [("_law_hand", 3)]) (g := gName 3) (tt := tYes) rfl sc_law_marks.nd (pi_range1 (by rfl) T.n_range (pa_cons (pv 2) pa_nil)) (blkOk_by (N := ["_law_box_here", "_law_style", "_law_many", "_law_hand"]) (sc := defScope (topS 44)) (by decide +kernel)) (fun _ _ _ _ _ => (pg_name (i := 3) sc_law_marks.nd rfl (.inl rfl))) (fun _ _ _ _ _ => pts_nil) (fun _ _ _ _ _ => (pe_op op_add (pe_op op_add pe_int (pe_f O_law_take (hr.mono (by decide)) pass0 (pa_cons (pv 0) (pa_cons (pe_op op_add pe_int (pv 1)) pa_nil)))) (pe_callTy call_int1 (by rfl) T.n_int b_int (pa_cons (pe_cmpR op_gt (pv 1) pe_int (nomark _)) pa_nil))))))))))), ?_⟩
    refine ⟨_, rfl, b, 5, rfl, hb, by decide, by decide, fun H1 st k1 hst => ⟨_, rfl, rfl, _, rfl, ite2 (fun hc => ?_) (fun hc => ?_)⟩⟩
    · refine ⟨_, rfl, ?_⟩
      have L0 : Same H1 H1 ∧ Lsts H1 H1 [] [] := ⟨Same.refl _, .nil⟩
      refine ⟨by show 2 ≤ sizeLine; decide, fun p1 n1 => ?_⟩
      have L1 := Lsts.snoc L0 [2, 2] n1
      refine ⟨by show 3 ≤ sizeLine; decide, fun p2 n2 => ?_⟩
      have L2 := Lsts.snoc L1 [2, 3, 6] n2
      refine ⟨by show 3 ≤ sizeLine; decide, fun p3 n3 => ?_⟩
      have L3 := Lsts.snoc L2 [3, 3, 3] n3
      refine ⟨by show 3 ≤ sizeLine; decide, fun p4 n4 => ?_⟩
      have L4 := Lsts.snoc L3 [2, 4, 4] n4
      refine ⟨by show 4 ≤ sizeLine; decide, fun p5 n5 => ?_⟩
      have L5 := Lsts.snoc L4 [4, 4, 4, 4] n5
      refine ⟨by show 4 ≤ sizeLine; decide, fun p6 n6 => ?_⟩
      have L6 := Lsts.snoc L5 [2, 6, 6, 6] n6
      refine ⟨by show 6 ≤ sizeLine; decide, fun p hp => ?_⟩
      have k6 := k1.same L6.1
      have k7 := k6.same (same_upd (o := .lst [.ref p1, .ref p2, .ref p3, .ref p4, .ref p5, .ref p6]) hp)
      refine ⟨b, p, _, rfl, k7.1, k6.1.ne hp, .of upd_same, (show 1 ≤ 6 by decide), (show 6 ≤ 10000 by decide), fun H2 i v k8 hv => ?_⟩
      obtain ⟨pl, c, rfl, hc2, hpl, hn⟩ := L6.2.get hv
      have hne := k1.1.ne hn
      refine q _ pl c (k7.trans k8) (k1.free hn) (k8.2 _ _ hne (same_upd hp _ _ hpl)) (.inl ?_)
      have hall : ∀ c ∈ [[2, 2], [2, 3, 6], [3, 3, 3], [2, 4, 4], [4, 4, 4, 4], [2, 6, 6, 6]], 2 ≤ c.length ∧ c.length ≤ 4 ∧ ∀ m ∈ c, 1 ≤ m ∧ m ≤ 7 := by decide
      exact hall c hc2
    · refine ⟨_, rfl, b, 3, rfl, k1.1, by decide, by decide, fun H2 mn k2 hmn => ?_⟩
      have k12 := k1.trans k2
      refine ⟨_, _, rfl, rfl, _, rfl, rfl, _, rfl, ite2 (fun hc2 => ?_) (fun hc2 => ?_)⟩
      · refine ⟨_, rfl, b, 5, rfl, k2.1, by decide, by decide, fun H3 d k3 hd => ⟨_, _, rfl, rfl, by show 1 ≤ sizeLine; decide, fun p hp => ?_⟩⟩
        have k13 := k12.trans k3
        have k14 := k13.same (same_upd (o := .lst [.int (1 + (d : Int))]) hp)
        refine ⟨_, rfl, p, 2 + (mn : Int), _, rfl, rfl, upd_same, by omega, by omega, ?_, fun l hl => ?_⟩
        · show 1 * (2 + (mn : Int)).toNat ≤ sizeLine
          have : (4 : Nat) ≤ sizeLine := by decide
          omega
        · have e1 : (List.replicate (2 + (mn : Int)).toNat [V.int (1 + (d : Int))]).flatten = nv (List.replicate (2 + mn) (1 + d)) := by
            have e2 : (2 + (mn : Int)).toNat = 2 + mn := by omega
            have e3 : (1 + (d : Int)) = ((1 + d : Nat) : Int) := by omega
            rw [e2, e3]
            exact rep1 _ _
          refine q _ l (List.replicate (2 + mn) (1 + d)) (k14.same (same_upd hl)) (k14.free hl) (by rw [← e1]; exact upd_same) (.inl ⟨?_, ?_, fun m hm => ?_⟩)
          · rw [List.length_replicate]; omega
          · rw [List.length_replicate]; omega
          · have := (List.mem_replicate.mp hm).2
            omega
      · have hst2 : 2 ≤ st := by
          have a1 : st ≠ 0 := fun z => hc (decide_eq_true (by rw [z]; rfl))
          have a2 : st ≠ 1 := fun z => hc2 (decide_eq_true (by rw [z]; rfl))
          omega
        refine ⟨_, rfl, 2 + (mn : Int), rfl, by omega, by omega, fun D hD => ?_⟩
        have hDb := k2.1.ne hD
        refine lc_range (fun i H' => Keep b H2 H' ∧ ∃ ms, H' D = some (.lst (nv ms)) ∧ ms.length = i ∧ ∀ m ∈ ms, 1 ≤ m ∧ m ≤ 7) ⟨.of k2.1 (same_upd hD), [], upd_same, rfl, fun m hm => by cases hm⟩ (fun i H' hi p => ?_) (fun H' p => ?_)
        · obtain ⟨k3, ms, eD, hlen, hall⟩ := p
          refine ⟨rfl, ?_⟩
          refine ⟨_, rfl, _, rfl, _, _, rfl, rfl, b, 2 + st, rfl, k3.1, by omega, by omega, fun H4 d k4 hd => ⟨_, _, rfl, rfl, _, rfl, _, _, rfl, rfl, .inr ⟨_, rfl, _, _, rfl, rfl, nv ms, k4.2 _ _ hDb eD, ?_, ?_, ms ++ [1 + d + (if 2 < st then 1 else 0)], ?_, ?_, ?_⟩⟩⟩
          · rw [nv_length, hlen]
            have : (10 : Nat) ≤ sizeLine := by decide
            omega
          · refine ⟨?_, fun c o hc' e => ?_⟩
            · obtain ⟨g, r, e1, e2⟩ := (k3.trans k4).1
              exact ⟨g, r, by rw [upd_ne hDb.symm]; exact e1, e2⟩
            · have hcD : c ≠ D := fun z => by
                rw [z, hD] at e
                cases e
              rw [upd_ne hcD]
              exact (k3.trans k4).2 _ _ hc' e
          · rw [upd_same]
            unfold nv
            rw [List.map_append]
            have e5 : (1 + (d : Int)) + (if decide ((2 : Int) < (st : Int)) = true then 1 else 0) = ((1 + d + (if 2 < st then 1 else 0) : Nat) : Int) := by
              by_cases h5 : 2 < st
              · rw [decide_eq_true (by omega), if_pos rfl, if_pos h5]
                omega
              · rw [decide_eq_false (by omega), if_neg h5]
                show (1 + (d : Int)) + 0 = _
                omega
            show _ = some (HO.lst (_ ++ [V.int ((1 + d + (if 2 < st then 1 else 0) : Nat) : Int)]))
            rw [← e5]
          · rw [List.length_append, hlen, List.length_singleton]
          · intro m hm
            rcases List.mem_append.mp hm with hm | hm
            · exact hall m hm
            · have : m = 1 + d + (if 2 < st then 1 else 0) := by simpa using hm
              rw [this]
              split <;> omega
        · obtain ⟨k3, ms, eD, hlen, hall⟩ := p
          refine q _ D ms (k12.trans k3) (k12.free hD) eD (.inl ⟨?_, ?_, hall⟩)
          · omega
          · omega
end
end W6
namespace W6
open PySem PySem.Spec PyProof.Rows L2 K6
theorem foldl_mul : ∀ (l : List Nat) (b : Nat), l.foldl (fun x y => x * y) b = b * prodL l
  | [], b => (Nat.mul_one b).symm
  | m :: l, b => by
    show l.foldl (fun x y => x * y) (b * m) = b * (m * prodL l)
    rw [foldl_mul l (b * m), Nat.mul_assoc]
theorem prod_take {ms : List Nat} (h : Mks ms) : ∀ i, i ≤ ms.length → (ms.take i).foldl (fun x y => x * y) 1 ≤ 60 ^ i
  | 0, _ => Nat.le_refl _
  | i + 1, hi => by
    have h2 := prod_take h i (by omega)
    obtain ⟨m, e⟩ : ∃ m, ms[i]? = some m := ⟨_, List.getElem?_eq_getElem (by omega)⟩
    rw [foldl_next (fun x y => x * y) 1 e, Nat.pow_succ]
    exact Nat.mul_le_mul h2 (h.get e).2
theorem prod_small {ms : List Nat} (h : Mks ms) (i : Nat) (hi : i ≤ ms.length) : (ms.take i).foldl (fun x y => x * y) 1 ≤ 12960000 := Nat.le_trans (prod_take h i hi) (Nat.le_trans (Nat.pow_le_pow_right (by decide) (Nat.le_trans hi h.2.1)) (by decide))
theorem prod_all {ms : List Nat} (h : Mks ms) : 0 < prodL ms ∧ prodL ms ≤ 12960000 := by
  have h2 := prod_small h ms.length (Nat.le_refl _)
  rw [List.take_length, foldl_mul, Nat.one_mul] at h2
  exact ⟨prodL_pos h.pos, h2⟩
/-! ### the division of factorials -/
theorem log2_mul {a b : Nat} (ha : 0 < a) (hb : 0 < b) : (a * b).log2 ≤ a.log2 + b.log2 + 1 := by
  have h1 := Nat.lt_log2_self (n := a)
  have h2 := Nat.lt_log2_self (n := b)
  have h3 : a * b < 2 ^ (a.log2 + 1) * 2 ^ (b.log2 + 1) := Nat.mul_lt_mul'' h1 h2
  rw [← Nat.pow_add] at h3
  have h0 : a * b ≠ 0 := Nat.ne_of_gt (Nat.mul_pos ha hb)
  have := (Nat.log2_lt h0).mpr h3
  omega
theorem noPylong_quot {q b : Nat} (hq : 0 < q) (hb : 0 < b) (h : q < 2 ^ 4402) : Builtin.divisionGoesByPylong ((q * b : Nat) : Int) (b : Int) = false := by
  have h1 : q.log2 < 4402 := (Nat.log2_lt (Nat.ne_of_gt hq)).mpr h
  have h2 := log2_mul hq hb
  have n1 : (((q * b : Nat) : Int) == 0) = false := beq_false_of_ne (by have := Nat.mul_pos hq hb; omega)
  have n2 : ((b : Int) == 0) = false := beq_false_of_ne (by omega)
  unfold Builtin.divisionGoesByPylong
  simp only [n1, n2, Int.natAbs_natCast, Bool.false_eq_true, if_false]
  rw [Bool.and_eq_false_iff]
  refine .inr (decide_eq_false ?_)
  omega
theorem ord_div {c : List Nat} (h4 : c.length ≤ 4) (hs : c.sum ≤ 2200) : CDivP ((fact c.sum : Nat) : Int) ((bot c : Nat) : Int) := by
  refine ⟨by have := bot_pos c; omega, ?_⟩
  rw [← ord_mul c]
  refine noPylong_quot (ord_pos c) (bot_pos c) (Nat.lt_of_lt_of_le (ord_bits h4) (Nat.pow_le_pow_right (by decide) (by omega)))
theorem bot_next {c : List Nat} {i x : Nat} (h : c[i]? = some x) : bot (c.take (i + 1)) = bot (c.take i) * fact x := by
  rw [take_next h, bot_append]
  show bot (c.take i) * (fact x * 1) = _
  rw [Nat.mul_one]
theorem bot_le (c : List Nat) : bot c ≤ fact c.sum := Nat.le_of_dvd (fact_pos _) (bot_dvd c)
def spFits (K : PySem.W.Frag) : Sp := fun vs H Q _ => ∃ a ms, vs = [.ref a] ∧ SqL K H a (nv ms) ∧ Mks ms ∧ ∀ H', Same H H' → Q (.bl (fits ms)) H'
def spShareL (K : PySem.W.Frag) : Sp := fun vs H Q _ => ∃ a ms, vs = [.ref a] ∧ SqL K H a (nv ms) ∧ Mks ms ∧ ∀ H' p, Same H H' → H p = none → H' p = some (.tup (nv [shareT ms, shareB ms])) → Q (.ref p) H'
def spFilL (K : PySem.W.Frag) : Sp := fun vs H Q _ => ∃ a b ms c, vs = [.ref a, .ref b] ∧ SqL K H a (nv ms) ∧ Sq K H b (nv c) ∧ Mks ms ∧ c.length = ms.length ∧ c.sum ≤ 2200 ∧ ∀ H', Same H H' → Q (.int (fil ms c : Nat)) H'
theorem sc_law_fits : FnScope ["_law_marks_here", "_law_bottom", "_law_many"] ["_law_marks_here"] (defScope (topS 45)) := ⟨rfl, rfl, rfl, by decide +kernel, rfl, by decide +kernel, by decide +kernel⟩
theorem sc_law_share : FnScope ["_law_marks_here", "_law_bottom", "_law_many", "_law_top", "_law_one", "_law_other", "_law_turn"] ["_law_marks_here"] (defScope (topS 52)) := ⟨rfl, rfl, rfl, by decide +kernel, rfl, by decide +kernel, by decide +kernel⟩
theorem sc_law_orders : FnScope ["_law_counts_here", "_law_top", "_law_bottom", "_law_length", "_law_count", "_law_turn"] ["_law_counts_here"] (defScope (topS 48)) := ⟨rfl, rfl, rfl, by decide +kernel, rfl, by decide +kernel, by decide +kernel⟩
theorem sc_law_fillings : FnScope ["_law_marks_here", "_law_counts_here", "_law_found", "_law_hand", "_law_turn"] ["_law_marks_here", "_law_counts_here"] (defScope (topS 49)) := ⟨rfl, rfl, rfl, by decide +kernel, rfl, by decide +kernel, by decide +kernel⟩
section
variable {P : Program} {w : World} {K : PySem.W.Frag} {mg : Str → Option Value} {base : Heap}
theorem ok_fits (T : Tx P K mg) : Ok P w K mg base CX0 1 "_law_fits" ["_law_marks_here"] (spFits K) := by
  refine T.d_law_fits.ok sc_law_fits (fun _ _ _ _ _ _ us hl => match us, hl with | [_], _ => rfl) (fun vs H Q E h => ?_) (fun cdv A outer s H vs Q E hr h => ?_)
  · obtain ⟨a, ms, rfl, _⟩ := h
    rfl
  · obtain ⟨a, ms, rfl, hl, hm, q⟩ := h
    obtain ⟨k, hkk⟩ : ∃ k, k = true := ⟨_, rfl⟩
    have hk : SqB k K H a (nv ms) := by rw [hkk]; exact hl
    have hz := nv4 hm
    refine ⟨_, PSs.nox (pss_cons (ps_set (i := 1) sc_law_fits.nd rfl (.inr rfl) pe_int)
      (pss_cons (ps_for PassesOwn.never rfl (pi_sq k (pv 0)) (pg_name (i := 2) sc_law_fits.nd rfl (.inl rfl)) (pss_one (ps_set (i := 1) sc_law_fits.nd rfl (.inr rfl) (pe_op op_mulW (pv 1) (pv 2)))))
      (pss_one (ps_ret (pe_cmpR op_le (pe_callB (cr_sumS (by rfl)) (by rfl) T.n_sum b_sum (pa_cons (pe_lc (own := [("_law_many", 2)]) (g := gName 2) (tt := tYes) rfl sc_law_fits.nd (pi_sq k (pv 0)) (blkOk_by (N := ["_law_marks_here", "_law_bottom", "_law_many"]) (sc := defScope (topS 45)) (by decide +kernel)) (fun _ _ _ _ _ => (pg_name (i := 2) sc_law_fits.nd rfl (.inl rfl))) (fun _ _ _ _ _ => pts_nil) (fun _ _ _ _ _ => (pe_callTy call_int1 (by rfl) T.n_int b_int (pa_cons (pe_op op_fdivP (pv 1) (pv 2)) pa_nil)))) pa_nil)) (pv 1) (nomark _)))))), ?_⟩
    refine ⟨_, rfl, a, rfl, ⟨_, hk⟩, for_sq (xs := nv ms) (fun i σ H' => H' = H ∧ ∃ x, σ = [some (.ref a), some (.int ((ms.take i).foldl (fun x y => x * y) 1 : Nat)), x]) ⟨rfl, _, rfl⟩ (fun i σ H' _ p => p.1 ▸ hk) (fun i x σ H' hx p => ?_) (fun σ H' p => ?_)⟩
    · obtain ⟨n, e, rfl⟩ := nv_of hx
      have hn := hm.get e
      obtain ⟨rfl, x, rfl⟩ := p
      have hi : i < ms.length := (List.getElem?_eq_some_iff.mp e).1
      have l2 := prod_small hm i (by omega)
      refine ⟨_, rfl, _, rfl, _, n, rfl, rfl, nat_mulW (x := 30) (Nat.lt_of_le_of_lt l2 (by decide)) (small20 (by omega)) (by decide) (by decide) (by decide), rfl, some (.int n), ?_⟩
      rw [foldl_next (fun x y => x * y) 1 e]
      rfl
    · obtain ⟨rfl, x, rfl⟩ := p
      obtain ⟨l1, l2⟩ := prod_all hm
      rw [nv_length, List.take_length, foldl_mul, Nat.one_mul]
      refine ⟨_, rfl, a, rfl, ⟨_, hk⟩, fun D hD => lc_mapS (xs := nv ms) (ys := nv (parts (prodL ms) ms)) hk hD (by rw [nv_length, nv_length]; exact List.length_map ..) hz (fun i x y H1 R hx hy m1 hR => ?_) (fun H1 m1 eD => ?_)⟩
      ·
        obtain ⟨n, e, rfl⟩ := nv_of hx
        have hn := hm.get e
        obtain ⟨n2, e2, rfl⟩ := nv_of hy
        have e3 : n2 = prodL ms / n := by
          unfold parts at e2
          rw [List.getElem?_map, e] at e2
          exact (Option.some.inj e2).symm
        subst e3
        exact ⟨rfl, _, rfl, _, rfl, prodL ms, n, rfl, rfl, small_div (by omega) (by omega), .inl ⟨_, rfl, hR _ (Same.refl _)⟩⟩
      · refine ⟨D, (parts (prodL ms) ms).map (fun (n : Nat) => (n : Int)), rfl, .inl (.of (by rw [← nv_map]; exact eD)), ?_⟩
        rw [sum_cast]
        refine ⟨_, rfl, _, _, rfl, rfl, ?_⟩
        have e : decide ((((parts (prodL ms) ms).sum : Nat) : Int) ≤ ((prodL ms : Nat) : Int)) = fits ms := by
          show _ = decide ((parts (prodL ms) ms).sum ≤ prodL ms)
          rw [decide_eq_decide]
          omega
        show Q (.bl (decide ((((parts (prodL ms) ms).sum : Nat) : Int) ≤ ((prodL ms : Nat) : Int)))) H1
        rw [e]
        exact q _ m1
theorem ok_orders (T : Tx P K mg) : Ok P w K mg base CX0 1 "_law_orders" ["_law_counts_here"] (spOrd K) := by
  refine T.d_law_orders.ok sc_law_orders (fun _ _ _ _ _ _ us hl => match us, hl with | [_], _ => rfl) (fun vs H Q E h => ?_) (fun cdv A outer s H vs Q E hr h => ?_)
  · obtain ⟨a, ms, rfl, _⟩ := h
    rfl
  · obtain ⟨a, c, rfl, hl, h4, hs, q⟩ := h
    obtain ⟨k, hk⟩ := hl.kind
    refine ⟨_, PSs.nox (pss_cons (ps_asg (pe_tup (pa_cons pe_int (pa_cons pe_int (pa_cons pe_int pa_nil)))) (pg_tup rfl (pgs_cons (pg_name (i := 1) sc_law_orders.nd rfl (.inl rfl)) (pgs_cons (pg_name (i := 2) sc_law_orders.nd rfl (.inl rfl)) (pgs_cons (pg_name (i := 3) sc_law_orders.nd rfl (.inl rfl)) pgs_nil)))))
      (pss_cons (ps_for PassesOwn.never rfl (pi_sq k (pv 0)) (pg_name (i := 4) sc_law_orders.nd rfl (.inl rfl)) (pss_one (ps_for PassesOwn.never rfl (pi_range1 (by rfl) T.n_range (pa_cons (pv 4) pa_nil)) (pg_name (i := 5) sc_law_orders.nd rfl (.inl rfl)) (pss_cons (ps_set (i := 3) sc_law_orders.nd rfl (.inl rfl) (pe_op op_add (pv 3) pe_int))
      (pss_one (ps_par (i := 1) (j := 2) (by rfl) sc_law_orders.nd rfl rfl (by decide) rfl rfl (pa_cons (pe_op op_mulW (pv 1) (pv 3)) (pa_cons (pe_op op_mulW (pv 2) (pe_op op_add (pv 5) pe_int)) pa_nil)) (by rfl)))))))
      (pss_one (ps_ret (pe_callTy call_int1 (by rfl) T.n_int b_int (pa_cons (pe_op op_fdivP (pv 1) (pv 2)) pa_nil)))))), ?_⟩
    refine ⟨by show 3 ≤ sizeLine; decide, fun tp htp => ⟨tp, _, rfl, .of upd_same, rfl, _, _, rfl, _, _, rfl, _, _, rfl, rfl, ?_⟩⟩
    refine ⟨_, rfl, a, rfl, ⟨_, same_b (same_upd (o := .tup [.int 1, .int 1, .int 0]) htp) hk⟩, for_sq (xs := nv c) (fun i σ H' => Same H H' ∧ ∃ x y, σ = [some (.ref a), some (.int (fact (c.take i).sum : Nat)), some (.int (bot (c.take i) : Nat)), some (.int ((c.take i).sum : Nat)), x, y]) ⟨same_upd htp, none, none, rfl⟩ (fun i σ H' _ p => same_b p.1 hk) (fun i x σ H' hx p => ?_) (fun σ H' p => ?_)⟩
    · obtain ⟨n, e, rfl⟩ := nv_of hx
      obtain ⟨m1, x, y, rfl⟩ := p
      have hn := elem_sum e
      have hts := take_sum_next e
      have htl := take_sum_le c (i + 1)
      have hbn := bot_next e
      refine ⟨_, rfl, n, rfl, by omega, by omega, for_range (fun j σ H'' => Same H H'' ∧ ∃ y, σ = [some (.ref a), some (.int (fact ((c.take i).sum + j) : Nat)), some (.int (bot (c.take i) * fact j : Nat)), some (.int ((c.take i).sum + j : Nat)), some (.int n), y]) ⟨m1, y, ?_⟩ (fun j σ H'' hj p => ?_) (fun σ H'' p => ?_)⟩
      · show _ = [_, _, some (V.int ((bot (c.take i) * 1 : Nat) : Int)), _, _, _]
        rw [Nat.mul_one]
        rfl
      · obtain ⟨m2, y, rfl⟩ := p
        have hj' : j < n := by
          have : (n : Int).toNat = n := rfl
          omega
        have hfb := fact_bits ((c.take i).sum + j) (by omega)
        have hbb : bot (c.take i) * fact j ≤ fact ((c.take i).sum + j) := by
          have := bot_le (c.take i ++ [j])
          rw [bot_append, List.sum_append] at this
          have e1 : bot [j] = fact j := Nat.mul_one _
          have e2 : [j].sum = j := Nat.add_zero _
          rw [e1, e2] at this
          exact this
        have e9 : (((c.take i).sum + j : Nat) : Int) + 1 = (((c.take i).sum + j + 1 : Nat) : Int) := rfl
        have e8 : ((0 : Int) + j + 1) = ((j + 1 : Nat) : Int) := by omega
        refine ⟨_, rfl, _, _, rfl, rfl, ?_⟩
        refine ⟨_, rfl, _, rfl, (fact ((c.take i).sum + j) : Nat), ((c.take i).sum + j : Nat) + 1, rfl, rfl, ?_, _, rfl, _, rfl, _, _, rfl, rfl, (bot (c.take i) * fact j : Nat), (0 : Int) + j + 1, rfl, rfl, ?_, _, _, rfl, m2, some (.int ((0 : Int) + j)), ?_⟩
        · exact nat_mulW (b := (c.take i).sum + j + 1) (le_pow2 hfb) (small20 (by omega)) (by omega) (by decide) (by omega)
        · rw [e8]
          exact nat_mulW (le_pow2 (Nat.le_trans hbb hfb)) (small20 (by omega)) (by omega) (by decide) (by omega)
        · have e1 : ((fact ((c.take i).sum + j) : Nat) : Int) * (((c.take i).sum + j : Nat) + 1 : Int) = (fact ((c.take i).sum + (j + 1)) : Nat) := rfl
          have e2 : ((bot (c.take i) * fact j : Nat) : Int) * ((0 : Int) + j + 1) = (bot (c.take i) * fact (j + 1) : Nat) := by
            rw [e8]
            show ((bot (c.take i) * fact j * (j + 1) : Nat) : Int) = _
            rw [Nat.mul_assoc]
            rfl
          rw [← e1, ← e2]
          rfl
      · obtain ⟨m2, y, rfl⟩ := p
        refine ⟨m2, some (.int n), y, ?_⟩
        rw [hts, hbn]
        rfl
    · obtain ⟨m1, x, y, rfl⟩ := p
      rw [nv_length, List.take_length]
      exact ⟨_, rfl, _, rfl, _, _, rfl, rfl, ord_div h4 hs, .inl ⟨_, rfl, q _ m1⟩⟩
theorem ok_fillings (T : Tx P K mg) : Ok P w K mg base CX0 1 "_law_fillings" ["_law_marks_here", "_law_counts_here"] (spFilL K) := by
  refine T.d_law_fillings.ok sc_law_fillings (fun _ _ _ _ _ _ us hl => match us, hl with | [_, _], _ => rfl) (fun vs H Q E h => ?_) (fun cdv A outer s H vs Q E hr h => ?_)
  · obtain ⟨a, b, ms, c, rfl, _⟩ := h
    rfl
  · obtain ⟨a, b, ms, c, rfl, hl1, hl2, hm, hc, hs, q⟩ := h
    have hz := hm.2.1
    refine ⟨_, PSs.nox (pss_cons (ps_set (i := 2) sc_law_fillings.nd rfl (.inl rfl) pe_int)
      (pss_cons (ps_for PassesOwn.never rfl (pi_range1 (by rfl) T.n_range (pa_cons (pe_callB call_len (by rfl) T.n_len b_len (pa_cons (pv 0) pa_nil)) pa_nil)) (pg_name (i := 3) sc_law_fillings.nd rfl (.inl rfl)) (pss_one (ps_for PassesOwn.never rfl (pi_range1 (by rfl) T.n_range (pa_cons (pe_ix ix_seq (pv 1) (pv 3) (fun _ _ => rfl)) pa_nil)) (pg_name (i := 4) sc_law_fillings.nd rfl (.inl rfl)) (pss_one (ps_set (i := 2) sc_law_fillings.nd rfl (.inl rfl) (pe_op op_mulW (pv 2) (pe_ix ix_seq (pv 0) (pv 3) (fun _ _ => rfl))))))))
      (pss_one (ps_ret (pv 2))))), ?_⟩
    refine ⟨_, rfl, _, _, rfl, .inl ⟨_, hl1, rfl⟩, _, rfl, by omega, by rw [nv_length]; omega, for_range (fun i σ H' => H' = H ∧ ∃ x y, σ = [some (.ref a), some (.ref b), some (.int (fil (ms.take i) (c.take i) : Nat)), x, y]) ⟨rfl, none, none, rfl⟩ (fun i σ H' hi p => ?_) (fun σ H' p => ?_)⟩
    · obtain ⟨rfl, x, y, rfl⟩ := p
      have hi' : i < ms.length := by
        rw [nv_length] at hi
        omega
      have e1 : ms[i]? = some ms[i] := List.getElem?_eq_getElem hi'
      have e : c[i]? = some c[i] := List.getElem?_eq_getElem (by omega)
      generalize ms[i] = m at e1
      generalize c[i] = n at e
      have hm1 := hm.get e1
      have hn := elem_sum e
      have hts := take_sum_next e
      have htl := take_sum_le c (i + 1)
      have hle : (ms.take i).length = (c.take i).length := by rw [List.length_take, List.length_take, hc]
      have ez : ((0 : Int) + i) = ((i : Nat) : Int) := by omega
      refine ⟨_, rfl, _, rfl, ix_sq hl2 (by rw [ez]; exact atI_nat (nv_get e)) ⟨n, rfl, by omega, by omega, for_range (fun j σ H'' => H'' = H' ∧ ∃ z, σ = [some (.ref a), some (.ref b), some (.int (fil (ms.take i ++ [m]) (c.take i ++ [j]) : Nat)), some (.int ((0 : Int) + i)), z]) ⟨rfl, y, ?_⟩ (fun j σ H'' hj p => ?_) (fun σ H'' p => ?_)⟩⟩
      · rw [fil_snoc _ _ _ _ hle, Nat.pow_zero, Nat.mul_one]
        rfl
      · obtain ⟨rfl, z, rfl⟩ := p
        have hj' : j < n := by
          have : (n : Int).toNat = n := rfl
          omega
        have es : (c.take i ++ [j]).sum = (c.take i).sum + j := by
          rw [List.sum_append]
          simp
        have hb := fil_bits (ms := ms.take i ++ [m]) (c := c.take i ++ [j]) (fun y hy => by
          rcases List.mem_append.mp hy with z | z
          · have := hm.2.2 y (List.mem_of_mem_take z)
            omega
          · have : y = m := by simpa using z
            omega)
        rw [es] at hb
        refine ⟨_, rfl, _, rfl, _, rfl, ix_sq (.inl hl1) (by rw [ez]; exact atI_nat (nv_get e1)) ⟨_, _, rfl, rfl, nat_mulW (b := m) (le_pow2 hb) (small20 (by omega)) (by omega) (by decide) (by omega), rfl, some (.int ((0 : Int) + j)), ?_⟩⟩
        have e3 : fil (ms.take i ++ [m]) (c.take i ++ [j + 1]) = fil (ms.take i ++ [m]) (c.take i ++ [j]) * m := by
          rw [fil_snoc _ _ _ _ hle, fil_snoc _ _ _ _ hle, Nat.pow_succ, Nat.mul_assoc]
        rw [e3]
        rfl
      · obtain ⟨rfl, z, rfl⟩ := p
        refine ⟨rfl, some (.int ((0 : Int) + i)), z, ?_⟩
        rw [take_next e, take_next e1]
        rfl
    · obtain ⟨rfl, x, y, rfl⟩ := p
      have e5 : (((nv ms).length : Nat) : Int).toNat = ms.length := by rw [nv_length]; rfl
      rw [e5, List.take_length, ← hc, List.take_length]
      exact ⟨_, rfl, q _ (Same.refl _)⟩
theorem ok_shareL (T : Tx P K mg) : Ok P w K mg base CX0 1 "_law_share" ["_law_marks_here"] (spShareL K) := by
  refine T.d_law_share.ok sc_law_share (fun _ _ _ _ _ _ us hl => match us, hl with | [_], _ => rfl) (fun vs H Q E h => ?_) (fun cdv A outer s H vs Q E hr h => ?_)
  · obtain ⟨a, ms, rfl, _⟩ := h
    rfl
  · obtain ⟨a, ms, rfl, hl, hm, q⟩ := h
    obtain ⟨k, hkk⟩ : ∃ k, k = true := ⟨_, rfl⟩
    have hk : SqB k K H a (nv ms) := by rw [hkk]; exact hl
    have hz := nv4 hm
    refine ⟨_, PSs.nox (pss_cons (ps_set (i := 1) sc_law_share.nd rfl (.inr rfl) pe_int)
      (pss_cons (ps_for PassesOwn.never rfl (pi_sq k (pv 0)) (pg_name (i := 2) sc_law_share.nd rfl (.inl rfl)) (pss_one (ps_set (i := 1) sc_law_share.nd rfl (.inr rfl) (pe_op op_mulW (pv 1) (pv 2)))))
      (pss_cons (ps_set (i := 3) sc_law_share.nd rfl (.inl rfl) (pe_callB (cr_sumS (by rfl)) (by rfl) T.n_sum b_sum (pa_cons (pe_lc (own := [("_law_many", 2)]) (g := gName 2) (tt := tYes) rfl sc_law_share.nd (pi_sq k (pv 0)) (blkOk_by (N := ["_law_marks_here", "_law_bottom", "_law_many", "_law_top", "_law_one", "_law_other", "_law_turn"]) (sc := defScope (topS 52)) (by decide +kernel)) (fun _ _ _ _ _ => (pg_name (i := 2) sc_law_share.nd rfl (.inl rfl))) (fun _ _ _ _ _ => pts_nil) (fun _ _ _ _ _ => (pe_callTy call_int1 (by rfl) T.n_int b_int (pa_cons (pe_op op_fdivP (pv 1) (pv 2)) pa_nil)))) pa_nil)))
      (pss_cons (ps_par (i := 4) (j := 5) (by rfl) sc_law_share.nd rfl rfl (by decide) rfl rfl (pa_cons (pv 1) (pa_cons (pv 3) pa_nil)) (by rfl))
      (pss_cons (ps_for PassesOwn.never rfl (pi_range1 (by rfl) T.n_range (pa_cons pe_int pa_nil)) (pg_name (i := 6) sc_law_share.nd rfl (.inl rfl)) (pss_one (ps_if (pt_cmpR op_gt (pv 5) pe_int (nomark _)) (pss_one (ps_par (i := 4) (j := 5) (by rfl) sc_law_share.nd rfl rfl (by decide) rfl rfl (pa_cons (pv 5) (pa_cons (pe_op op_modN (pe_callTy call_int1 (by rfl) T.n_int b_int (pa_cons (pv 4) pa_nil)) (pv 5)) pa_nil)) (by rfl))) pss_nil)))
      (pss_one (ps_ret (pe_tup (pa_cons (pe_callTy call_int1 (by rfl) T.n_int b_int (pa_cons (pe_op op_fdivP (pv 3) (pv 4)) pa_nil)) (pa_cons (pe_callTy call_int1 (by rfl) T.n_int b_int (pa_cons (pe_op op_fdivP (pv 1) (pv 4)) pa_nil)) pa_nil)))))))))), ?_⟩
    refine ⟨_, rfl, a, rfl, ⟨_, hk⟩, for_sq (xs := nv ms) (fun i σ H' => H' = H ∧ ∃ x, σ = [some (.ref a), some (.int ((ms.take i).foldl (fun x y => x * y) 1 : Nat)), x, none, none, none, none]) ⟨rfl, _, rfl⟩ (fun i σ H' _ p => p.1 ▸ hk) (fun i x σ H' hx p => ?_) (fun σ H' p => ?_)⟩
    · obtain ⟨n, e, rfl⟩ := nv_of hx
      have hn := hm.get e
      obtain ⟨rfl, x, rfl⟩ := p
      have hi : i < ms.length := (List.getElem?_eq_some_iff.mp e).1
      have l2 := prod_small hm i (by omega)
      refine ⟨_, rfl, _, rfl, _, n, rfl, rfl, nat_mulW (x := 30) (Nat.lt_of_le_of_lt l2 (by decide)) (small20 (by omega)) (by decide) (by decide) (by decide), rfl, some (.int n), ?_⟩
      rw [foldl_next (fun x y => x * y) 1 e]
      rfl
    · obtain ⟨rfl, x, rfl⟩ := p
      obtain ⟨l1, l2⟩ := prod_all hm
      rw [nv_length, List.take_length, foldl_mul, Nat.one_mul]
      refine ⟨_, rfl, a, rfl, ⟨_, hk⟩, fun D hD => lc_mapS (xs := nv ms) (ys := nv (parts (prodL ms) ms)) hk hD (by rw [nv_length, nv_length]; exact List.length_map ..) hz (fun i x y H1 R hx hy m1 hR => ?_) (fun H1 m1 eD => ?_)⟩
      ·
        obtain ⟨n, e, rfl⟩ := nv_of hx
        have hn := hm.get e
        obtain ⟨n2, e2, rfl⟩ := nv_of hy
        have e3 : n2 = prodL ms / n := by
          unfold parts at e2
          rw [List.getElem?_map, e] at e2
          exact (Option.some.inj e2).symm
        subst e3
        exact ⟨rfl, _, rfl, _, rfl, prodL ms, n, rfl, rfl, small_div (by omega) (by omega), .inl ⟨_, rfl, hR _ (Same.refl _)⟩⟩
      · have hs := parts_le hm l2
        have hs0 := parts_pos l1 hm.ne fun _ h => prodL_dvd h
        obtain ⟨f1, f2, _⟩ := share_prod hm.pos hm.ne
        refine ⟨D, (parts (prodL ms) ms).map (fun (n : Nat) => (n : Int)), rfl, .inl (.of (by rw [← nv_map]; exact eD)), ?_⟩
        rw [sum_cast]
        generalize hS : (parts (prodL ms) ms).sum = S at *
        generalize hP : prodL ms = PP at *
        have hle := eu_le (PP, S) (2 ^ 40) ⟨Nat.le_trans l2 (by decide), Nat.le_trans hs (by decide)⟩
        refine ⟨_, rfl, _, rfl, _, _, rfl, 200, rfl, by decide, by decide, for_range (n := 200) (fun i σ H'' => Same H' H'' ∧ ∃ y, σ = [some (.ref a), some (.int (PP : Nat)), x, some (.int (S : Nat)), some (.int ((eu (PP, S) i).1 : Nat)), some (.int ((eu (PP, S) i).2 : Nat)), y]) ⟨m1, none, rfl⟩ (fun i σ H'' hi p => ?_) (fun σ H'' p => ?_)⟩
        · obtain ⟨m2, y, rfl⟩ := p
          refine ⟨_, rfl, _, _, rfl, rfl, _, rfl, ite2 (fun hc => ?_) (fun hc => ?_)⟩
          · have hc := of_decide_eq_true hc
            have hp : 0 < (eu (PP, S) i).2 := by omega
            refine ⟨_, rfl, _, rfl, .inl ⟨_, rfl, _, rfl, _, _, rfl, rfl, by omega, _, _, rfl, m2, some (.int ((0 : Int) + i)), ?_⟩⟩
            have e1 : eu (PP, S) (i + 1) = ((eu (PP, S) i).2, (eu (PP, S) i).1 % (eu (PP, S) i).2) := if_pos hp
            rw [e1]
            show [_, _, _, _, _, some (V.int (Int.fmod ((eu (PP, S) i).1 : Nat) ((eu (PP, S) i).2 : Nat))), _] = _
            rw [nat_mod]
          · have hp : ¬ 0 < (eu (PP, S) i).2 := fun z => hc (decide_eq_true (by omega))
            refine ⟨m2, some (.int ((0 : Int) + i)), ?_⟩
            have e1 : eu (PP, S) (i + 1) = eu (PP, S) i := if_neg hp
            rw [e1]
            rfl
        · obtain ⟨m2, y, rfl⟩ := p
          have eg : (eu (PP, S) 200).1 = Nat.gcd PP S := eu_end (p := (PP, S)) (Nat.lt_of_le_of_lt hs (by decide))
          have hg : 0 < Nat.gcd PP S := Nat.gcd_pos_of_pos_left _ l1
          have hgl : Nat.gcd PP S ≤ PP := Nat.gcd_le_left _ l1
          rw [eg]
          refine ⟨_, rfl, _, rfl, _, _, rfl, rfl, small_div (by omega) (by omega), .inl ⟨_, rfl, _, rfl, _, rfl, _, _, rfl, rfl, small_div (by omega) (by omega), .inl ⟨_, rfl, by show 2 ≤ sizeLine; decide, fun p hp => ?_⟩⟩⟩
          refine q _ p (m2.trans (same_upd hp)) (m2.free hp) ?_
          rw [upd_same, ← f1, ← f2]
          rfl
end
end W6
namespace W6
open PySem PySem.Spec PyProof.Rows L2 K6
theorem Tups.put {H : Hp} {D : Addr} {xs ys : List V} {vs : List V} {cs : List (List Nat)} (hD : H D = some (.lst xs)) (h : Tups H vs cs) : Tups (upd H D (.lst ys)) vs cs := by
  induction h with
  | nil => exact .nil
  | @cons p c vs cs q _ ih =>
    refine .cons ?_ ih
    rw [upd_ne (fun z => by rw [z, hD] at q; cases q)]
    exact q
theorem take_flat_le {α β : Type} (f : α → List β) (l : List α) (i : Nat) : ((l.take i).flatMap f).length ≤ (l.flatMap f).length := by
  have : l.flatMap f = (l.take i).flatMap f ++ (l.drop i).flatMap f := by rw [← List.flatMap_append, List.take_append_drop]
  rw [this, List.length_append]
  exact Nat.le_add_right _ _
theorem pow25 {L k : Nat} (hL : L ≤ 24) (hk : k ≤ 3) : (L + 1) ^ k ≤ 15625 := Nat.le_trans (Nat.pow_le_pow_left (by omega : L + 1 ≤ 25) k) (Nat.le_trans (Nat.pow_le_pow_right (by decide) hk) (by decide))
def spCounts : Sp := fun vs H Q _ => ∃ r L : Nat, vs = [.int (r : Int), .int (L : Int)] ∧ 2 ≤ r ∧ r ≤ 4 ∧ L ≤ 24 ∧ ∀ H' D vs, Same H H' → H' D = some (.lst vs) → Tups H' vs (cnts L r) → Q (.ref D) H'
theorem sc_law_counts : FnScope ["_law_many", "_law_length", "_law_found", "_law_hand", "_law_longer", "_law_counts_here", "_law_count"] ["_law_many", "_law_length"] (defScope (topS 47)) := ⟨rfl, rfl, rfl, by decide +kernel, rfl, by decide +kernel, by decide +kernel⟩
/-- a tuple and one more number -/
theorem cat_one {K : PySem.W.Frag} {H : Hp} {p : Addr} {c : List Nat} {x : Nat} {xi : Int} {Q : VK} (hx : xi = (x : Int)) (hp : H p = some (.tup (nv c))) (hc : c.length ≤ 10) {t : Addr} (ht : H t = none) (q : ∀ H' a, Same H H' → H' a = some (.tup (nv (c ++ [x]))) → Q (.ref a) H') :
    rCatA K (.ref p) (.ref t) (upd H t (.tup [.int xi])) Q := by
  subst hx
  have e : nv (c ++ [x]) = nv c ++ [.int (x : Int)] := by
    unfold nv
    rw [List.map_append]
    rfl
  refine ⟨p, t, nv c, [.int (x : Int)], rfl, rfl, .of (same_upd ht _ _ hp), .of upd_same, ?_, fun h0 => ?_, fun _ h => (by cases h), fun _ _ a ha => ?_⟩
  · rw [nv_length]
    have : (100 : Nat) ≤ sizeLine := by decide
    show c.length + 1 ≤ sizeLine
    omega
  · refine q _ t (same_upd ht) ?_
    rw [e, h0, upd_same]
    rfl
  · refine q _ a ((same_upd ht).trans (same_upd ha)) ?_
    rw [e, upd_same]
section
variable {P : Program} {w : World} {K : PySem.W.Frag} {mg : Str → Option Value} {base : Heap}
theorem ok_counts (T : Tx P K mg) : Ok P w K mg base CX0 1 "_law_counts" ["_law_many", "_law_length"] spCounts := by
  refine T.d_law_counts.ok sc_law_counts (fun _ _ _ _ _ _ us hl => match us, hl with | [_, _], _ => rfl) (fun vs H Q E h => ?_) (fun cdv A outer s H vs Q E hr h => ?_)
  · obtain ⟨r, L, rfl, _⟩ := h
    rfl
  · obtain ⟨r, L, rfl, hr1, hr2, hL, q⟩ := h
    obtain ⟨k, hkk⟩ : ∃ k, k = true := ⟨_, rfl⟩
    have big : (100000 : Nat) ≤ sizeLine := by decide
    refine ⟨_, PSs.nox (pss_cons (ps_set (i := 2) sc_law_counts.nd rfl (.inl rfl) (pe_lst (pa_cons (pe_tup pa_nil) pa_nil)))
      (pss_cons (ps_for PassesOwn.never rfl (pi_range1 (by rfl) T.n_range (pa_cons (pe_op op_sub (pv 0) pe_int) pa_nil)) (pg_name (i := 3) sc_law_counts.nd rfl (.inl rfl)) (pss_cons (ps_set (i := 4) sc_law_counts.nd rfl (.inl rfl) (pe_lst pa_nil))
      (pss_cons (ps_for PassesOwn.never rfl (pi_sq k (pv 2)) (pg_name (i := 5) sc_law_counts.nd rfl (.inr rfl)) (pss_one (ps_set (i := 4) sc_law_counts.nd rfl (.inl rfl) (pe_op op_cat (pv 4) (pe_lc (own := [("_law_count", 6)]) (g := gName 6) (tt := tYes) rfl sc_law_counts.nd (pi_range1 (by rfl) T.n_range (pa_cons (pe_op op_add (pe_op op_sub (pv 1) (pe_callB (cr_sumS (by rfl)) (by rfl) T.n_sum b_sum (pa_cons (pv 5) pa_nil))) pe_int) pa_nil)) (blkOk_by (N := ["_law_many", "_law_length", "_law_found", "_law_hand", "_law_longer", "_law_counts_here", "_law_count"]) (sc := defScope (topS 47)) (by decide +kernel)) (fun _ _ _ _ _ => (pg_name (i := 6) sc_law_counts.nd rfl (.inl rfl))) (fun _ _ _ _ _ => pts_nil) (fun _ _ _ _ _ => (pe_op (show OpR _ (binaryOp .Add) (rCatA K) from op_catA) (pv 5) (pe_tup (pa_cons (pv 6) pa_nil)))))))))
      (pss_one (ps_set (i := 2) sc_law_counts.nd rfl (.inl rfl) (pv 4))))))
      (pss_one (ps_ret (pe_lc (own := [("_law_counts_here", 5)]) (g := gName 5) (tt := tYes) rfl sc_law_counts.nd (pi_sq k (pv 2)) (blkOk_by (N := ["_law_many", "_law_length", "_law_found", "_law_hand", "_law_longer", "_law_counts_here", "_law_count"]) (sc := defScope (topS 47)) (by decide +kernel)) (fun _ _ _ _ _ => (pg_name (i := 5) sc_law_counts.nd rfl (.inl rfl))) (fun _ _ _ _ _ => pts_nil) (fun _ _ _ _ _ => (pe_op (show OpR _ (binaryOp .Add) (rCatA K) from op_catA) (pv 5) (pe_tup (pa_cons (pe_op op_sub (pv 1) (pe_callB (show CallR _ (.builtin "sum") (rSumS K) from cr_sumS (by rfl)) (by rfl) T.n_sum b_sum (pa_cons (pv 5) pa_nil))) pa_nil))))))))), ?_⟩
    subst hkk
    refine ⟨by show 0 ≤ sizeLine; decide, fun t0 n0 => ⟨by show 1 ≤ sizeLine; decide, fun f0 n1 => ?_⟩⟩
    have ht0 : upd H t0 (.tup []) t0 = some (.tup []) := upd_same
    have hf0 : upd (upd H t0 (.tup [])) f0 (.lst [.ref t0]) t0 = some (.tup []) := same_upd n1 _ _ ht0
    refine ⟨_, rfl, _, _, rfl, rfl, (r : Int) - 1, rfl, by omega, by omega, ?_⟩
    have hn : ((r : Int) - 1).toNat = r - 1 := by omega
    refine for_range (fun k σ H' => Same H H' ∧ ∃ p vs x y z u, σ = [some (.int r), some (.int L), some (.ref p), x, y, z, u] ∧ H' p = some (.lst vs) ∧ Tups H' vs (pre L k)) ⟨(same_upd n0).trans (same_upd n1), f0, [.ref t0], none, none, none, none, rfl, upd_same, .cons hf0 .nil⟩ (fun k σ H' hk p => ?_) (fun σ H' p => ?_)
    · rw [hn] at hk
      obtain ⟨m1, pf, vs, x, y, z, u, rfl, eF, tF⟩ := p
      have hlenF := tF.len
      refine ⟨by show 0 ≤ sizeLine; decide, fun l0 nl0 => ?_⟩
      have ml : Same H (upd H' l0 (.lst [])) := m1.trans (same_upd nl0)
      refine ⟨_, rfl, pf, rfl, ⟨vs, .of (same_upd nl0 _ _ eF)⟩, ?_⟩
      refine for_sq (k := true) (xs := vs) (fun i σ H'' => Same H H'' ∧ H'' pf = some (.lst vs) ∧ Tups H'' vs (pre L k) ∧ ∃ p' vs' z u, σ = [some (.int r), some (.int L), some (.ref pf), some (.int (0 + k)), some (.ref p'), z, u] ∧ H'' p' = some (.lst vs') ∧ Tups H'' vs' (((pre L k).take i).flatMap fun c => (List.range (L - c.sum + 1)).map fun x => c ++ [x]))
        ⟨ml, same_upd nl0 _ _ eF, tF.same (same_upd nl0), l0, [], z, u, rfl, upd_same, .nil⟩ (fun i σ H'' _ p => .of p.2.1) (fun i v σ H'' hv p => ?_) (fun σ H'' p => ?_)
      · obtain ⟨m2, eF2, tF2, pl, vl, z, u, rfl, eL, tL⟩ := p
        obtain ⟨pc, c, rfl, hc, ec⟩ := tF2.get hv
        have hcm := mem_pre.mp (List.mem_of_getElem? hc)
        have hcl : c.length ≤ 10 := by
          rw [hcm.1]
          omega
        refine ⟨_, rfl, _, rfl, _, rfl, pc, c.map (fun (n : Nat) => (n : Int)), rfl, .inr (.of (by rw [← nv_map]; exact ec)), ?_⟩
        rw [sum_cast]
        refine ⟨_, _, rfl, rfl, _, _, rfl, rfl, (L : Int) - (c.sum : Nat) + 1, rfl, by omega, by omega, fun D hD => ?_⟩
        have hrn : ((L : Int) - (c.sum : Nat) + 1).toNat = L - c.sum + 1 := by omega
        refine lc_range (fun j H3 => Same H'' H3 ∧ ∃ vs2, H3 D = some (.lst vs2) ∧ Tups H3 vs2 ((List.range j).map fun x => c ++ [x])) ⟨same_upd hD, [], upd_same, .nil⟩ (fun j H3 hj p => ?_) (fun H3 p => ?_)
        · obtain ⟨m3, vs2, eD, t2⟩ := p
          have hl2 := t2.len
          rw [List.length_map, List.length_range] at hl2
          refine ⟨rfl, ?_⟩
          refine ⟨_, rfl, _, rfl, by show 1 ≤ sizeLine; decide, fun t1 nt1 => ?_⟩
          refine cat_one (x := j) (by omega) (m3 _ _ ec) hcl nt1 fun H4 a4 m4 e4 => ⟨vs2, m4 _ _ eD, by rw [hrn] at hj; omega, ?_, vs2 ++ [.ref a4], upd_same, ?_⟩
          · intro b o e
            rw [upd_ne (ne_of_none e hD)]
            exact m4 _ _ (m3 _ _ e)
          · rw [List.range_succ, List.map_append]
            refine Tups.put (m4 _ _ eD) ((t2.same m4).append (.cons e4 .nil))
        · rw [hrn] at p
          obtain ⟨m3, vs2, eD, t2⟩ := p
          have hl1 := tL.len
          have hl2 := t2.len
          have hle : vl.length + vs2.length ≤ sizeLine := by
            have h5 := take_flat_le (fun c => (List.range (L - c.sum + 1)).map fun x => c ++ [x]) (pre L k) (i + 1)
            have h6 := pre_len L (k + 1)
            have h7 := pow25 (k := k + 1) hL (by omega)
            have h8 : (pre L k).flatMap (fun c => (List.range (L - c.sum + 1)).map fun x => c ++ [x]) = pre L (k + 1) := rfl
            rw [take_next hc, List.flatMap_append, List.length_append, h8] at h5
            have h9 : ([c].flatMap fun c => (List.range (L - c.sum + 1)).map fun x => c ++ [x]).length = ((List.range (L - c.sum + 1)).map fun x => c ++ [x]).length := by
              rw [List.flatMap_cons, List.flatMap_nil, List.append_nil]
            omega
          refine ⟨pl, D, vl, vs2, rfl, rfl, m3 _ _ eL, eD, hle, fun p4 n4 => ?_⟩
          have m4 := m3.trans (same_upd (o := .lst (vl ++ vs2)) n4)
          refine ⟨m2.trans m4, m4 _ _ eF2, tF2.same m4, p4, vl ++ vs2, some (.ref pc), u, rfl, upd_same, ?_⟩
          rw [take_next hc, List.flatMap_append]
          refine (tL.same m4).append ?_
          rw [List.flatMap_cons, List.flatMap_nil, List.append_nil]
          exact t2.same (same_upd n4)
      · rw [hlenF, List.take_length] at p
        obtain ⟨m2, eF2, tF2, pl, vl, z, u, rfl, eL, tL⟩ := p
        exact ⟨_, rfl, m2, pl, vl, _, _, _, _, rfl, eL, tL⟩
    · rw [hn] at p
      obtain ⟨m1, pf, vs, x, y, z, u, rfl, eF, tF⟩ := p
      have hlenF := tF.len
      refine ⟨_, rfl, pf, rfl, ⟨vs, .of eF⟩, fun D hD => ?_⟩
      refine lc_sq (k := true) (xs := vs) (fun i H3 => Same H' H3 ∧ ∃ vs2, H3 D = some (.lst vs2) ∧ Tups H3 vs2 (((pre L (r - 1)).take i).map fun c => c ++ [L - c.sum])) ⟨same_upd hD, [], upd_same, .nil⟩ (fun i H3 _ p => .of (p.1 _ _ eF)) (fun i v H3 hv p => ?_) (fun H3 p => ?_)
      · obtain ⟨m3, vs2, eD, t2⟩ := p
        obtain ⟨pc, c, rfl, hc, ec⟩ := (tF.same m3).get hv
        have hcm := mem_pre.mp (List.mem_of_getElem? hc)
        have hcl : c.length ≤ 10 := by
          rw [hcm.1]
          omega
        have hl2 := t2.len
        have hl3 : ((pre L (r - 1)).take i).length ≤ (pre L (r - 1)).length := by
          rw [List.length_take]
          exact Nat.min_le_right _ _
        have hl4 := pre_len L (r - 1)
        have hl5 := pow25 (k := r - 1) hL (by omega)
        rw [List.length_map] at hl2
        refine ⟨rfl, ?_⟩
        refine ⟨_, rfl, _, rfl, _, rfl, pc, c.map (fun (n : Nat) => (n : Int)), rfl, .inr (.of (by rw [← nv_map]; exact ec)), ?_⟩
        rw [sum_cast]
        refine ⟨_, _, rfl, rfl, by show 1 ≤ sizeLine; decide, fun t1 nt1 => ?_⟩
        refine cat_one (x := L - c.sum) (by omega) ec hcl nt1 fun H4 a4 m4 e4 => ⟨vs2, m4 _ _ eD, by omega, ?_, vs2 ++ [.ref a4], upd_same, ?_⟩
        · intro b o e
          rw [upd_ne (ne_of_none e hD)]
          exact m4 _ _ (m3 _ _ e)
        · rw [take_next hc, List.map_append]
          exact Tups.put (m4 _ _ eD) ((t2.same m4).append (.cons e4 .nil))
      · rw [hlenF, List.take_length] at p
        obtain ⟨m3, vs2, eD, t2⟩ := p
        exact q _ D vs2 (m1.trans m3) eD t2
end
end W6
namespace W6
open PySem PySem.Spec PyProof.Rows L2 K6
/-- those that fail -/
def failC (ms : List Nat) (c : List Nat) : Bool := decide (fil ms c < ord c)
def failZ (ms : List Nat) : List V → List (List Nat) → List (Option V)
  | v :: vs, c :: cs => (if failC ms c = true then some v else none) :: failZ ms vs cs
  | _, _ => []
theorem failZ_len (ms : List Nat) : ∀ {vs : List V} {cs : List (List Nat)}, vs.length = cs.length → (failZ ms vs cs).length = vs.length
  | [], [], _ => rfl
  | v :: vs, c :: cs, h => by
    show (failZ ms vs cs).length + 1 = vs.length + 1
    rw [failZ_len ms (by simpa using h)]
  | [], _ :: _, h => by cases h
  | _ :: _, [], h => by cases h
theorem failZ_get (ms : List Nat) : ∀ {vs : List V} {cs : List (List Nat)} {i : Nat} {v : V} {c : List Nat}, vs[i]? = some v → cs[i]? = some c → (failZ ms vs cs)[i]? = some (if failC ms c = true then some v else none)
  | x :: vs, d :: cs, 0, v, c, h1, h2 => by
    have e1 : x = v := by simpa using h1
    have e2 : d = c := by simpa using h2
    subst e1 e2
    rfl
  | x :: vs, d :: cs, i + 1, v, c, h1, h2 => failZ_get ms (vs := vs) (cs := cs) (i := i) (by simpa using h1) (by simpa using h2)
  | [], _, _, _, _, h1, _ => by simp at h1
  | _ :: _, [], _, _, _, _, h2 => by simp at h2
theorem failZ_tups (ms : List Nat) {H : Hp} {vs : List V} {cs : List (List Nat)} (h : Tups H vs cs) : Tups H ((failZ ms vs cs).filterMap id) (cs.filter (failC ms)) := by
  induction h with
  | nil => exact .nil
  | @cons p c vs cs q _ ih =>
    cases hf : failC ms c with
    | true =>
      have e : failZ ms (.ref p :: vs) (c :: cs) = some (.ref p) :: failZ ms vs cs := by
        show (if failC ms c = true then _ else _) :: _ = _
        rw [hf]
        rfl
      rw [e, List.filter_cons_of_pos (by rw [hf])]
      exact .cons q ih
    | false =>
      have e : failZ ms (.ref p :: vs) (c :: cs) = none :: failZ ms vs cs := by
        show (if failC ms c = true then _ else _) :: _ = _
        rw [hf]
        rfl
      rw [e, List.filter_cons_of_neg (by rw [hf]; decide)]
      exact ih
theorem cnts_crowd {ms : List Nat} (hm : Mks ms) (L : Nat) : ((cnts L ms.length).filter (failC ms)).isEmpty = !crowdAt ms L := by
  cases hc : crowdAt ms L with
  | true =>
    have h1 : dear ms L ∈ (cnts L ms.length).filter (failC ms) := List.mem_filter.mpr ⟨(mem_cnts (by have := hm.1; omega)).mpr ⟨dear_length ms L, dear_sum hm.ne L⟩, hc⟩
    cases hl : (cnts L ms.length).filter (failC ms) with
    | nil =>
      rw [hl] at h1
      cases h1
    | cons x l => rfl
  | false =>
    cases hl : (cnts L ms.length).filter (failC ms) with
    | nil => rfl
    | cons x l =>
      have h1 : x ∈ (cnts L ms.length).filter (failC ms) := by
        rw [hl]
        exact List.mem_cons_self
      obtain ⟨h2, h3⟩ := List.mem_filter.mp h1
      obtain ⟨h4, h5⟩ := (mem_cnts (by have := hm.1; omega)).mp h2
      have := crowd_of hm.ne hm.pos h4 (of_decide_eq_true h3)
      rw [h5, hc] at this
      cases this
def LeastV (ms : List Nat) (n : Nat) (l : V) : Prop := (∃ t : Nat, Told ms t ∧ t ≤ n ∧ l = .int (t : Int)) ∨ ((∀ k, 1 ≤ k → k ≤ n → crowdAt ms k = false) ∧ l = .non)
def spLeastL (K : PySem.W.Frag) : Sp := fun vs H Q _ => ∃ a ms, ∃ n : Nat, vs = [.ref a, .int (n : Int)] ∧ SqL K H a (nv ms) ∧ Mks ms ∧ n ≤ 24 ∧ ∀ l H', LeastV ms n l → Same H H' → Q l H'
theorem sc_law_least : FnScope ["_law_marks_here", "_law_far", "_law_length", "_law_counts_here"] ["_law_marks_here", "_law_far"] (defScope (topS 50)) := ⟨rfl, rfl, rfl, by decide +kernel, rfl, by decide +kernel, by decide +kernel⟩
section
variable {P : Program} {w : World} {K : PySem.W.Frag} {mg : Str → Option Value} {base : Heap}
theorem ok_least (T : Tx P K mg) : Ok P w K mg base CX0 2 "_law_least" ["_law_marks_here", "_law_far"] (spLeastL K) := by
  have O_law_counts := ok_counts (P := P) (w := w) (base := base) T
  have O_law_orders := ok_orders (P := P) (w := w) (base := base) T
  have O_law_fillings := ok_fillings (P := P) (w := w) (base := base) T
  refine T.d_law_least.ok sc_law_least (fun _ _ _ _ _ _ us hl => match us, hl with | [_, _], _ => rfl) (fun vs H Q E h => ?_) (fun cdv A outer s H vs Q E hr h => ?_)
  · obtain ⟨a, ms, n, rfl, _⟩ := h
    rfl
  · obtain ⟨a, ms, n, rfl, hl, hm, hn, q⟩ := h
    refine ⟨_, PSs.nox (pss_cons (ps_for PassesOwn.never rfl (pi_range2 (by rfl) T.n_range (pa_cons pe_int (pa_cons (pe_op op_add (pv 1) pe_int) pa_nil))) (pg_name (i := 2) sc_law_least.nd rfl (.inl rfl)) (pss_one (ps_if (pt_cmpR (op_neD hr.units) (pe_lc (own := [("_law_counts_here", 3)]) (g := gName 3) rfl sc_law_least.nd (pi_sq true (pe_f O_law_counts (hr.mono (by decide)) pass0 (pa_cons (pe_callB call_len (by rfl) T.n_len b_len (pa_cons (pv 0) pa_nil)) (pa_cons (pv 2) pa_nil)))) (blkOk_by (N := ["_law_marks_here", "_law_far", "_law_length", "_law_counts_here"]) (sc := defScope (topS 50)) (by decide +kernel)) (fun _ _ _ _ _ => (pg_name (i := 3) sc_law_least.nd rfl (.inl rfl))) (fun _ _ _ _ _ => (pts_one (pt_cmpR op_gt (pe_f O_law_orders (hr.mono (by decide)) pass0 (pa_cons (pv 3) pa_nil)) (pe_f O_law_fillings (hr.mono (by decide)) pass0 (pa_cons (pv 0) (pa_cons (pv 3) pa_nil))) (nomark _)))) (fun _ _ _ _ _ => (pv 3))) (pe_lst pa_nil) (nomark _)) (pss_one (ps_ret (pv 2))) pss_nil)))
      (pss_one (ps_ret pe_non))), ?_⟩
    have big : (100000 : Nat) ≤ sizeLine := by decide
    have hne : ((n : Int) + 1 - 1).toNat = n := by omega
    refine ⟨_, rfl, _, _, rfl, rfl, 1, (n : Int) + 1, rfl, ⟨by omega, by omega, by omega, by omega⟩, for_range (fun i σ H' => Same H H' ∧ (∀ k, 1 ≤ k → k ≤ i → crowdAt ms k = false) ∧ ∃ x y, σ = [some (.ref a), some (.int n), x, y]) ⟨Same.refl _, fun k a b => by omega, none, none, rfl⟩ (fun i σ H' hi p => ?_) (fun σ H' p => ?_)⟩
    · rw [hne] at hi
      obtain ⟨m1, hk, x, y, rfl⟩ := p
      have ei : ((1 : Int) + i) = ((i + 1 : Nat) : Int) := by omega
      refine ⟨_, rfl, _, _, rfl, .inl ⟨_, m1.seq hl, rfl⟩, _, rfl, ms.length, i + 1, by rw [ei, nv_length]; rfl, hm.1, hm.2.1, by omega, fun H2 pc vs m2 eC tC => ⟨pc, rfl, ⟨vs, .of eC⟩, fun D hD => ?_⟩⟩
      have m12 := m1.trans m2
      have hlen := tC.len
      have hcl : (cnts (i + 1) ms.length).length ≤ 15625 := by
        unfold cnts
        rw [List.length_map]
        have h1 := pre_len (i + 1) (ms.length - 1)
        have h2 := pow25 (L := i + 1) (k := ms.length - 1) (by omega) (by have := hm.2.1; omega)
        omega
      refine lc_filS (k := true) (xs := vs) (zs := failZ ms vs (cnts (i + 1) ms.length)) (.of eC) hD (failZ_len ms hlen) (by omega) (fun j v z H3 R N hv hz m3 hR hN => ?_) (fun H3 m3 eD => ?_)
      · have m13 := m12.trans m3
        obtain ⟨p, c, rfl, hc, ec⟩ := (tC.same m3).get hv
        rw [failZ_get ms hv hc] at hz
        have hz := Option.some.inj hz
        obtain ⟨h1, h2⟩ := (mem_cnts (by have := hm.1; omega)).mp (List.mem_of_getElem? hc)
        refine ⟨rfl, _, rfl, p, c, rfl, .inr (.of ec), by rw [h1]; exact hm.2.1, by omega, fun H4 m4 => ?_⟩
        refine ⟨_, rfl, _, rfl, a, p, ms, c, rfl, (m13.trans m4).seq hl, .inr (.of (m4 _ _ ec)), hm, h1, by omega, fun H5 m5 => ⟨_, _, rfl, rfl, _, rfl, ?_⟩⟩
        have e : decide (((fil ms c : Nat) : Int) < ((ord c : Nat) : Int)) = failC ms c := by
          unfold failC
          rw [decide_eq_decide]
          omega
        rw [e]
        cases hf : failC ms c with
        | true =>
          rw [hf] at hz
          exact ⟨_, rfl, hR _ _ hz.symm (m4.trans m5)⟩
        | false =>
          rw [hf] at hz
          exact hN _ hz.symm (m4.trans m5)
      · have m13 := m12.trans m3
        have t2 := failZ_tups ms (tC.same m3)
        refine ⟨by show 0 ≤ sizeLine; decide, fun e0 ne0 => ?_⟩
        have m4 : Same H3 (upd H3 e0 (.lst [])) := same_upd ne0
        refine ⟨_, .list [], .lst (.of (m4 _ _ eD)) ((t2.same m4).dp), .lst (.of upd_same) .nil, dns_shaped _, shaped_list (fun d h => by cases h), _, rfl, ?_⟩
        have e : (!PyData.eqv (.list (dns ((cnts (i + 1) ms.length).filter (failC ms)))) (.list [])) = crowdAt ms (i + 1) := by
          rw [eqv_empty]
          have : (dns ((cnts (i + 1) ms.length).filter (failC ms))).isEmpty = ((cnts (i + 1) ms.length).filter (failC ms)).isEmpty := List.isEmpty_map
          rw [this, cnts_crowd hm, Bool.not_not]
        rw [e]
        cases hcr : crowdAt ms (i + 1) with
        | true =>
          have told : Told ms (i + 1) := ⟨by omega, hcr, fun k a b => hk k a (by omega)⟩
          refine ⟨_, rfl, ?_⟩
          rw [ei]
          exact q _ _ (.inl ⟨i + 1, told, by omega, rfl⟩) (m13.trans m4)
        | false =>
          refine ⟨m13.trans m4, fun k a b => ?_, _, _, rfl⟩
          by_cases hki : k ≤ i
          · exact hk k a hki
          · have : k = i + 1 := by omega
            rw [this]
            exact hcr
    · rw [hne] at p
      obtain ⟨m1, hk, x, y, rfl⟩ := p
      exact q _ _ (.inr ⟨hk, rfl⟩) m1
end
end W6
namespace W6
open PySem PySem.Spec PyProof.Rows L2 K6
def partD : V → PyData
  | .bl b => .bool b
  | .int i => .int i
  | _ => .none
theorem parts_dp {K : PySem.W.Frag} {H : Hp} : ∀ {ps : List V}, (∀ p ∈ ps, partOk p = true) → DpAll K H ps (ps.map partD)
  | [], _ => .nil
  | p :: ps, h => by
    refine .cons ?_ (parts_dp fun x hx => h x (List.mem_cons_of_mem _ hx))
    have hp := h p List.mem_cons_self
    cases p with
    | non => exact .non
    | bl b => exact .bl b
    | int i => exact .int i
    | _ => cases hp
theorem parts_flat (ps : List V) : ∀ d ∈ ps.map partD, flatD d = true := fun d h => by
  obtain ⟨p, _, rfl⟩ := List.mem_map.mp h
  cases p <;> rfl
/-- parts that are no numbers -/
def badZ (ps : List V) : List (Option V) := ps.map fun p => if isN p = true then none else some p
theorem badZ_kept : ∀ ps : List V, (badZ ps).filterMap id = ps.filter fun p => !isN p
  | [] => rfl
  | p :: ps => by
    have ih := badZ_kept ps
    cases h : isN p with
    | true =>
      have e : badZ (p :: ps) = none :: badZ ps := by
        show (if isN p = true then _ else _) :: _ = _
        rw [h]
        rfl
      rw [e, List.filter_cons_of_neg (by rw [h]; decide)]
      exact ih
    | false =>
      have e : badZ (p :: ps) = some p :: badZ ps := by
        show (if isN p = true then _ else _) :: _ = _
        rw [h]
        rfl
      rw [e, List.filter_cons_of_pos (by rw [h]; decide), ← ih]
      rfl
theorem bad_empty : ∀ ps : List V, (ps.filter fun p => !isN p).isEmpty = allN ps
  | [] => rfl
  | p :: ps => by
    have ih := bad_empty ps
    show _ = (isN p && allN ps)
    cases h : isN p with
    | true =>
      rw [List.filter_cons_of_neg (by rw [h]; decide), ih, Bool.true_and]
    | false =>
      rw [List.filter_cons_of_pos (by rw [h]; decide)]
      rfl
theorem word_repr {z : V} (h : wordOk z = true) : ∃ t : Str, repV z = some t ∧ (∀ i, z = .int i → i.natAbs.log2 < 1920) ∧ (∀ y, z = .str y → (reprText y).length ≤ sizeLine) ∧
    decide (V.str t = V.str (reprText "tells")) = decide (z = .str "tells") ∧ decide (V.str t = V.str (reprText "more")) = decide (z = .str "more") := by
  rcases word_cases h with rfl | rfl | rfl | rfl | rfl
  · exact ⟨_, rfl, fun i e => (by cases e), fun y e => (by cases e; decide +kernel), by decide +kernel, by decide +kernel⟩
  · exact ⟨_, rfl, fun i e => (by cases e), fun y e => (by cases e; decide +kernel), by decide +kernel, by decide +kernel⟩
  · exact ⟨_, rfl, fun i e => (by cases e), fun y e => (by cases e; decide +kernel), by decide +kernel, by decide +kernel⟩
  · exact ⟨_, rfl, fun i e => (by cases e; decide), fun y e => (by cases e), by decide +kernel, by decide +kernel⟩
  · exact ⟨_, rfl, fun i e => (by cases e), fun y e => (by cases e), by decide +kernel, by decide +kernel⟩
def tyN : V → String
  | .bl _ => "bool"
  | .int _ => "int"
  | _ => "NoneType"
def isIB : V → Bool
  | .bl _ => true
  | .int _ => true
  | _ => false
theorem ty_of {K : PySem.W.Frag} {H : Hp} {x : V} (h : partOk x = true) : TyX K H x (.type (tyN x)) := by
  cases x with
  | non => exact .base .non
  | bl b => exact .base (.bl b)
  | int i => exact .base (.int i)
  | _ => cases h
theorem kit_int {K : PySem.W.Frag} {x : V} (h : partOk x = true) : PySem.W.kitOne K (.type (tyN x)) (.type "int") = some (isIB x) := by
  cases x with
  | non => exact kit_ty (show kitB "NoneType" "int" = some false by decide +kernel)
  | bl b => exact kit_ty (show kitB "bool" "int" = some true by decide +kernel)
  | int i => exact kit_ty (show kitB "int" "int" = some true by decide +kernel)
  | _ => cases h
def spHeld (K : PySem.W.Frag) : Sp := fun vs H Q _ => ∃ a ms v, ∃ D : Desc, vs = [.ref a, v] ∧ SqL K H a (nv ms) ∧ Mks ms ∧ DescAt K H ms v D ∧ ∀ H', Same H H' → Q (.bl (heldD ms D)) H'
theorem sc_law_held : FnScope ["_law_marks_here", "_law_value", "_law_part"] ["_law_marks_here", "_law_value"] (defScope (topS 53)) := ⟨rfl, rfl, rfl, by decide +kernel, rfl, by decide +kernel, by decide +kernel⟩
section
variable {P : Program} {w : World} {K : PySem.W.Frag} {mg : Str → Option Value} {base : Heap}
theorem ok_held (T : Tx P K mg) : Ok P w K mg base CX0 2 "_law_held" ["_law_marks_here", "_law_value"] (spHeld K) := by
  have O_law_orders := ok_orders (P := P) (w := w) (base := base) T
  have O_law_fillings := ok_fillings (P := P) (w := w) (base := base) T
  have O_law_fits := ok_fits (P := P) (w := w) (base := base) T
  have O_law_share := ok_shareL (P := P) (w := w) (base := base) T
  refine T.d_law_held.ok sc_law_held (fun _ _ _ _ _ _ us hl => match us, hl with | [_, _], _ => rfl) (fun vs H Q E h => ?_) (fun cdv A outer s H vs Q E hr h => ?_)
  · obtain ⟨a, ms, v, D, rfl, _⟩ := h
    rfl
  · obtain ⟨a, ms, v, D, rfl, hl, hm, hd, q⟩ := h
    obtain ⟨k, hkD⟩ : ∃ k, k = D.k := ⟨_, rfl⟩
    refine ⟨_, PSs.nox (pss_cons (ps_if (PW.pt (pw_or (pt_not (pt_val (pe_callB call_isiS (by rfl) T.n_isinstance b_isinstance (pa_cons (pv 1) (pa_cons (pe_tup (pa_cons (pe_bltn (v := .ty "list") (by rfl) T.n_list b_list rfl) (pa_cons (pe_bltn (v := .ty "tuple") (by rfl) T.n_tuple b_tuple rfl) pa_nil))) pa_nil))))) (pw_or (pt_cmpR op_ne (pe_callB call_len (by rfl) T.n_len b_len (pa_cons (pv 1) pa_nil)) pe_int (nomark _)) (pw_or1 (pt_not (pt_val (pe_callB call_isiS (by rfl) T.n_isinstance b_isinstance (pa_cons (pe_ix ix_seq (pv 1) pe_int (fun _ _ => rfl)) (pa_cons (pe_tup (pa_cons (pe_bltn (v := .ty "list") (by rfl) T.n_list b_list rfl) (pa_cons (pe_bltn (v := .ty "tuple") (by rfl) T.n_tuple b_tuple rfl) pa_nil))) pa_nil))))))))) (pss_one (ps_ret pe_bl)) pss_nil)
      (pss_cons (ps_if (pt_cmpR (op_neD hr.units) (pe_lc (own := [("_law_part", 2)]) (g := gName 2) rfl sc_law_held.nd (pi_sq k (pe_ix ix_seq (pv 1) pe_int (fun _ _ => rfl))) (blkOk_by (N := ["_law_marks_here", "_law_value", "_law_part"]) (sc := defScope (topS 53)) (by decide +kernel)) (fun _ _ _ _ _ => (pg_name (i := 2) sc_law_held.nd rfl (.inl rfl))) (fun _ _ _ _ _ => (pts_one (PW.pt (pw_or (pt_not (pt_val (pe_callB (show CallR _ (.builtin "isinstance") (rIsi K) from call_isi) (by rfl) T.n_isinstance b_isinstance (pa_cons (pv 2) (pa_cons (pe_bltn (v := .ty "int") (by rfl) T.n_int b_int rfl) pa_nil))))) (pw_or (pt_val (pe_callB (show CallR _ (.builtin "isinstance") (rIsi K) from call_isi) (by rfl) T.n_isinstance b_isinstance (pa_cons (pv 2) (pa_cons (pe_bltn (v := .ty "bool") (by rfl) T.n_bool b_bool rfl) pa_nil)))) (pw_or1 (pt_cmpR op_lt (pv 2) pe_int (nomark _)))))))) (fun _ _ _ _ _ => (pv 2))) (pe_lst pa_nil) (nomark _)) (pss_one (ps_ret pe_bl)) pss_nil)
      (pss_cons (ps_if (pt_cmpR op_eq (pe_callB call_reprA (by rfl) T.n_repr b_repr (pa_cons (pe_ix ix_seq (pv 1) pe_int (fun _ _ => rfl)) pa_nil)) (pe_callB call_reprA (by rfl) T.n_repr b_repr (pa_cons pe_str pa_nil)) (nomark _)) (pss_one (ps_ret (pe_and (pe_f O_law_fits (hr.mono (by decide)) pass0 (pa_cons (pv 0) pa_nil)) (pe_one (pe_cmpR (op_eqD hr.units) (pe_callTy call_tupS (by rfl) T.n_tuple b_tuple (pa_cons (pe_ix ix_seq (pv 1) pe_int (fun _ _ => rfl)) pa_nil)) (pe_f O_law_share (hr.mono (by decide)) pass0 (pa_cons (pv 0) pa_nil)) (nomark _)))))) pss_nil)
      (pss_cons (ps_if (PW.pt (pw_or (pt_cmpR op_ne (pe_callB call_reprA (by rfl) T.n_repr b_repr (pa_cons (pe_ix ix_seq (pv 1) pe_int (fun _ _ => rfl)) pa_nil)) (pe_callB call_reprA (by rfl) T.n_repr b_repr (pa_cons pe_str pa_nil)) (nomark _)) (pw_or (pt_cmpR op_ne (pe_callB call_len (by rfl) T.n_len b_len (pa_cons (pe_ix ix_seq (pv 1) pe_int (fun _ _ => rfl)) pa_nil)) (pe_callB call_len (by rfl) T.n_len b_len (pa_cons (pv 0) pa_nil)) (nomark _)) (pw_or1 (pt_cmpR op_gt (pe_callB (cr_sumS (by rfl)) (by rfl) T.n_sum b_sum (pa_cons (pe_ix ix_seq (pv 1) pe_int (fun _ _ => rfl)) pa_nil)) pe_int (nomark _)))))) (pss_one (ps_ret pe_bl)) pss_nil)
      (pss_one (ps_ret (pe_cmpR op_gt (pe_f O_law_orders (hr.mono (by decide)) pass0 (pa_cons (pe_ix ix_seq (pv 1) pe_int (fun _ _ => rfl)) pa_nil)) (pe_f O_law_fillings (hr.mono (by decide)) pass0 (pa_cons (pv 0) (pa_cons (pe_ix ix_seq (pv 1) pe_int (fun _ _ => rfl)) pa_nil))) (nomark _)))))))), ?_⟩
    cases D with
    | bad =>
      have q : ∀ H', Same H H' → Q (.bl false) H' := q
      rcases hd with ⟨t, ha⟩ | ⟨b, xs, rfl, h1, h2, h3⟩ | ⟨b, y, p, c, t, rfl, h1, h2, h3⟩
      · exact ⟨_, rfl, by show 2 ≤ sizeLine; decide, fun p hp => isi_seqS (.atom ha) hp fun H1 m1 => ⟨_, rfl, q _ m1⟩⟩
      · refine ⟨_, rfl, by show 2 ≤ sizeLine; decide, fun p hp => isi_seqS (.sq h1) hp fun H1 m1 => ⟨_, rfl, _, rfl, _, _, rfl, len_sq (same_s m1 h1), rfl, _, rfl, ?_⟩⟩
        have e : (!decide (V.int ((xs.length : Nat) : Int) = V.int 2)) = true := by
          rw [decide_eq_false (fun z => h2 (by have := V.int.inj z; omega))]
          rfl
        rw [e]
        exact q _ m1
      · refine ⟨_, rfl, by show 2 ≤ sizeLine; decide, fun p' hp' => isi_seqS (.sq h1) hp' fun H1 m1 => ⟨_, rfl, _, rfl, _, _, rfl, len_sq (same_s m1 h1), rfl, _, rfl, ?_⟩⟩
        refine ⟨_, rfl, ix_sq (same_s m1 h1) (v := p) rfl ⟨by show 2 ≤ sizeLine; decide, fun p2 hp2 => isi_seqS (.atom h3) hp2 fun H2 m2 => ⟨_, rfl, q _ (m1.trans m2)⟩⟩⟩
    | pair kk z ps =>
      have hkD : k = kk := hkD
      subst hkD
      obtain ⟨b, qa, rfl, h1, hw, h3, h4, h10, h5⟩ := hd
      obtain ⟨tz, r1, r2, r3, r4, r5⟩ := word_repr hw
      have hz : ps.length ≤ sizeLine := Nat.le_trans h10 (by decide)
      refine ⟨_, rfl, by show 2 ≤ sizeLine; decide, fun p1 hp1 => isi_seqS (.sq h1) hp1 fun H1 m1 => ⟨_, rfl, _, rfl, _, _, rfl, len_sq (same_s m1 h1), rfl, _, rfl, ?_⟩⟩
      refine ⟨_, rfl, ix_sq (same_s m1 h1) (v := .ref qa) rfl ⟨by show 2 ≤ sizeLine; decide, fun p2 hp2 => isi_seqS (.sq (same_s m1 h3.sq)) hp2 fun H2 m2 => ⟨_, rfl, ?_⟩⟩⟩
      have m12 := m1.trans m2
      refine ⟨_, rfl, ix_sq (same_s m12 h1) (v := .ref qa) rfl ⟨qa, rfl, ⟨_, same_b m12 h3⟩, fun D hD => lc_filS (xs := ps) (zs := badZ ps) (same_b m12 h3) hD (List.length_map ..) hz (fun i x zz H3 R N hx hzz m3 hR hN => ?_) (fun H3 m3 eD => ?_)⟩⟩
      · have ez : zz = if isN x = true then none else some x := get_map (f := fun p => if isN p = true then none else some p) hx hzz
        have hpx := h4 x (List.mem_of_getElem? hx)
        refine ⟨rfl, _, rfl, _, _, .type (tyN x), _, isIB x, rfl, .ty _, ty_of hpx, kit_int hpx, _, rfl, ?_⟩
        cases x with
        | non => exact ⟨_, rfl, hR _ _ ez (Same.refl _)⟩
        | bl c => exact ⟨_, rfl, _, _, .type "bool", _, true, rfl, .ty _, .base (.bl c), kit_ty (by decide +kernel), _, rfl, _, rfl, hR _ _ ez (Same.refl _)⟩
        | int n =>
          refine ⟨_, rfl, _, _, .type "int", _, false, rfl, .ty _, .base (.int n), kit_ty (by decide +kernel), _, rfl, ?_⟩
          refine ⟨_, rfl, n, 0, rfl, rfl, _, rfl, ?_⟩
          by_cases h0 : n < 0
          · have e1 : isN (.int n) = false := decide_eq_false (by omega)
            rw [e1] at ez
            rw [decide_eq_true h0]
            exact ⟨_, rfl, hR _ _ ez (Same.refl _)⟩
          · have e1 : isN (.int n) = true := decide_eq_true (by omega)
            rw [e1] at ez
            rw [decide_eq_false h0]
            exact hN _ ez (Same.refl _)
        | _ => cases hpx
      · have m13 := m12.trans m3
        refine ⟨by show 0 ≤ sizeLine; decide, fun e0 ne0 => ?_⟩
        have m4 : Same H3 (upd H3 e0 (.lst [])) := same_upd ne0
        rw [badZ_kept] at eD
        have hfp : ∀ p ∈ ps.filter (fun p => !isN p), partOk p = true := fun p hp => h4 p (List.mem_filter.mp hp).1
        refine ⟨_, .list [], .lst (.of (m4 _ _ eD)) (parts_dp hfp), .lst (.of upd_same) .nil, shaped_list (parts_flat _), shaped_list (fun d h => by cases h), _, rfl, ?_⟩
        have e : (!PyData.eqv (.list ((ps.filter fun p => !isN p).map partD)) (.list [])) = !allN ps := by
          rw [eqv_empty, List.isEmpty_map, bad_empty]
        rw [e]
        have m14 := m13.trans m4
        cases ha : allN ps with
        | false =>
          have e2 : heldD ms (.pair k z ps) = false := by
            show (allN ps && _) = false
            rw [ha]
            rfl
          rw [e2] at q
          exact q _ m14
        | true =>
          have en := allN_nv ha
          refine ⟨_, rfl, ix_sq (same_s m14 h1) (v := z) rfl ⟨z, tz, rfl, r1, r2, r3, _, _, rfl, rfl, fun i e => (by cases e), fun y e => (by cases e; decide +kernel), rfl, _, rfl, ?_⟩⟩
          rw [r4]
          refine ite2 (fun hc => ?_) (fun hc => ?_)
          · have ez : z = .str "tells" := of_decide_eq_true hc
            replace q : ∀ H', Same H H' → Q (.bl (fits ms && decide (ps.map numOf = [shareT ms, shareB ms]))) H' := by
              have e : heldD ms (.pair k z ps) = (fits ms && decide (ps.map numOf = [shareT ms, shareB ms])) := by
                show (allN ps && (if z = .str "tells" then _ else _)) = _
                rw [if_pos ez, ha, Bool.true_and]
              rw [← e]
              exact q
            refine ⟨_, rfl, a, ms, rfl, m14.seq hl, hm, fun H5 m5 => ⟨_, rfl, ?_⟩⟩
            have m15 := m14.trans m5
            cases hf : fits ms with
            | false =>
              rw [hf, Bool.false_and] at q
              exact iteF (q _ m15)
            | true =>
              rw [hf, Bool.true_and] at q
              refine iteT ⟨_, rfl, ix_sq (same_s m15 h1) (v := .ref qa) rfl (tuple_sq (same_b m15 h3).sq fun H6 l m6 hl6 => ?_)⟩
              have m16 := m15.trans m6
              refine ⟨_, rfl, a, ms, rfl, m16.seq hl, hm, fun H7 p m7 f7 e7 => ?_⟩
              rw [en] at hl6
              refine ⟨_, _, .tup (same_t m7 hl6) (dp_nums K H7 _), .tup (.of e7) (dp_nums K H7 [shareT ms, shareB ms]), shaped_tup (dn_flat _), shaped_tup (dn_flat _), ?_⟩
              show Q (.bl (PyData.eqvAll (dn (ps.map numOf)) (dn [shareT ms, shareB ms]))) H7
              rw [eqv_nums]
              exact q _ (m16.trans m7)
          · have ez : ¬ z = .str "tells" := fun e => hc (decide_eq_true e)
            refine ⟨_, rfl, ix_sq (same_s m14 h1) (v := z) rfl ⟨z, tz, rfl, r1, r2, r3, _, _, rfl, rfl, fun i e => (by cases e), fun y e => (by cases e; decide +kernel), rfl, _, rfl, ?_⟩⟩
            rw [r5]
            refine ite2 (fun hc2 => ?_) (fun hc2 => ?_)
            · have ez2 : ¬ z = .str "more" := fun e => by
                rw [decide_eq_true e] at hc2
                cases hc2
              have e : heldD ms (.pair k z ps) = false := by
                show (allN ps && (if z = .str "tells" then _ else if z = .str "more" then _ else _)) = _
                rw [if_neg ez, if_neg ez2]
                exact Bool.and_false _
              rw [e] at q
              exact q _ m14
            · have ez2 : z = .str "more" := by
                false_or_by_contra
                rename_i zz
                apply hc2
                rw [decide_eq_false zz]
                rfl
              replace q : ∀ H', Same H H' → Q (.bl (moreD ms (ps.map numOf))) H' := by
                have e : heldD ms (.pair k z ps) = moreD ms (ps.map numOf) := by
                  show (allN ps && (if z = .str "tells" then _ else if z = .str "more" then _ else _)) = _
                  rw [if_neg ez, if_pos ez2, ha, Bool.true_and]
                rw [← e]
                exact q
              refine ⟨_, rfl, ix_sq (same_s m14 h1) (v := .ref qa) rfl ⟨_, _, rfl, len_sq (same_b m14 h3).sq, _, rfl, _, _, rfl, .inl ⟨_, m14.seq hl, rfl⟩, rfl, _, rfl, ite2 (fun hc3 => ?_) (fun hc3 => ?_)⟩⟩
              · have e : moreD ms (ps.map numOf) = false := by
                  unfold moreD
                  have : ¬ ((ps.map numOf).length = ms.length) := fun e => by
                    rw [List.length_map] at e
                    rw [decide_eq_true (by rw [e, nv_length])] at hc3
                    cases hc3
                  rw [decide_eq_false this, Bool.false_and]
                rw [e] at q
                exact q _ m14
              · have hlen : ps.length = ms.length := by
                  false_or_by_contra
                  rename_i zz
                  apply hc3
                  rw [decide_eq_false (fun e => zz (by have := V.int.inj e; rw [nv_length] at this; omega))]
                  rfl
                have hlc : (ps.map numOf).length = ms.length := by rw [List.length_map, hlen]
                have h5' := h5 _ en hlc
                generalize ps.map numOf = c at *
                subst en
                have h314 := same_b m14 h3
                refine ⟨_, rfl, ix_sq (same_s m14 h1) (v := .ref qa) rfl ⟨qa, c.map (fun (n : Nat) => (n : Int)), rfl, by rw [← nv_map]; exact h314.sq, _, _, rfl, rfl, _, rfl, ?_⟩⟩
                rw [sum_cast]
                refine ite2 (fun hc4 => ?_) (fun hc4 => ?_)
                · have hs4 : ¬ c.sum ≤ 3000 := by
                    have := of_decide_eq_true hc4
                    omega
                  have e : moreD ms c = false := by
                    unfold moreD
                    rw [decide_eq_false hs4, Bool.false_and, Bool.and_false]
                  rw [e] at q
                  exact q _ m14
                · have hs4 : c.sum ≤ 3000 := by
                    false_or_by_contra
                    rename_i zz
                    exact hc4 (decide_eq_true (by omega))
                  have hs5 := h5' hs4
                  have e : moreD ms c = decide (fil ms c < ord c) := by
                    unfold moreD
                    rw [decide_eq_true hs4, decide_eq_true hlc, Bool.true_and, Bool.true_and]
                  rw [e] at q
                  refine ⟨_, rfl, ix_sq (same_s m14 h1) (v := .ref qa) rfl ⟨qa, c, rfl, h314.sq, by rw [hlc]; exact hm.2.1, hs5, fun H5 m5 => ?_⟩⟩
                  have m15 := m14.trans m5
                  refine ⟨_, rfl, _, rfl, ix_sq (same_s m15 h1) (v := .ref qa) rfl ⟨a, qa, ms, c, rfl, m15.seq hl, (same_b m15 h3).sq, hm, hlc, hs5, fun H6 m6 => ?_⟩⟩
                  refine ⟨_, _, rfl, rfl, ?_⟩
                  have e7 : decide (((fil ms c : Nat) : Int) < ((ord c : Nat) : Int)) = decide (fil ms c < ord c) := by
                    rw [decide_eq_decide]
                    omega
                  show Q (.bl (decide (((fil ms c : Nat) : Int) < ((ord c : Nat) : Int)))) H6
                  rw [e7]
                  exact q _ (m15.trans m6)
end
end W6
namespace W6
open PySem PySem.Spec PyProof.Rows L2 K6
theorem rg_nv (r : Nat) : rgV 0 (r : Int) = nv (List.range r) := by
  unfold rgV nv
  have : ((r : Int) - 0).toNat = r := by omega
  rw [this]
  refine List.map_congr_left fun i _ => ?_
  rw [Int.zero_add]
theorem cut1 {xs : List V} (h : 1 ≤ xs.length) : cutV xs (some 1) none = xs.drop 1 := by
  unfold cutV
  have e1 : HT.sIx xs.length 0 (some 1) = 1 := by
    unfold HT.sIx
    simp
    omega
  have e2 : HT.sIx xs.length xs.length none = xs.length := rfl
  rw [e1, e2]
  exact List.take_of_length_le (by rw [List.length_drop]; exact Nat.le_refl _)
theorem nv_drop (l : List Nat) (n : Nat) : (nv l).drop n = nv (l.drop n) := by
  unfold nv
  rw [List.map_drop]
theorem nv_set (l : List Nat) (i x : Nat) : (nv l).set i (V.int (x : Int)) = nv (l.set i x) := by
  unfold nv
  rw [List.map_set]
theorem set_mid {α : Type} (y x : α) (B : List α) : ∀ A : List α, (A ++ y :: B).set A.length x = A ++ x :: B
  | [] => rfl
  | a :: A => by
    show a :: (A ++ y :: B).set A.length x = _
    rw [set_mid y x B A]
    rfl
theorem gd_get {l : List Nat} {i : Nat} (h : i < l.length) : l[i]? = some (gd l i) := by
  unfold gd
  rw [List.getD_eq_getElem?_getD, List.getElem?_eq_getElem h]
  rfl
theorem ixn {n i : Nat} (h : i < n) : ixN n (i : Int) = some i := by
  unfold ixN
  rw [if_pos (by omega), if_pos (by omega)]
  simp
theorem startT_len (ms : List Nat) (n : Nat) : (K6.startT ms n).length = ms.length - 1 := by
  unfold K6.startT
  rw [List.length_map, List.length_drop]
def pl2 (p : Nat × Nat) : List Nat := [p.1, p.2]
def spCrowdL (K : PySem.W.Frag) : Sp := fun vs H Q _ => ∃ a ms, ∃ n : Nat, vs = [.ref a, .int (n : Int)] ∧ SqL K H a (nv ms) ∧ Mks ms ∧ n ≤ 1100 ∧ ∀ H', Same H H' → Q (.bl (crowded ms n)) H'
theorem sc_law_is_crowded : FnScope ["_law_marks_here", "_law_length", "_law_counts_here", "_law_many", "_law_hand", "_law_turn", "_law_moves", "_law_one", "_law_other"] ["_law_marks_here", "_law_length"] (defScope (topS 51)) := ⟨rfl, rfl, rfl, by decide +kernel, rfl, by decide +kernel, by decide +kernel⟩
section
variable {P : Program} {w : World} {K : PySem.W.Frag} {mg : Str → Option Value} {base : Heap}
theorem ok_crowded (T : Tx P K mg) : Ok P w K mg base CX0 2 "_law_is_crowded" ["_law_marks_here", "_law_length"] (spCrowdL K) := by
  have O_law_orders := ok_orders (P := P) (w := w) (base := base) T
  have O_law_fillings := ok_fillings (P := P) (w := w) (base := base) T
  refine T.d_law_is_crowded.ok sc_law_is_crowded (fun _ _ _ _ _ _ us hl => match us, hl with | [_, _], _ => rfl) (fun vs H Q E h => ?_) (fun cdv A outer s H vs Q E hr h => ?_)
  · obtain ⟨a, ms, n, rfl, _⟩ := h
    rfl
  · obtain ⟨a, ms, n, rfl, hl, hm, hn, q⟩ := h
    refine ⟨_, PSs.nox (pss_cons (ps_asg (pe_tup (pa_cons (pe_op op_cat (pe_lst (pa_cons (pv 1) pa_nil)) (pe_op op_rep (pe_lst (pa_cons pe_int pa_nil)) (pe_op op_sub (pe_callB call_len (by rfl) T.n_len b_len (pa_cons (pv 0) pa_nil)) pe_int))) (pa_cons (pe_listRg rfl (by rfl) T.n_list (prg_1 rfl T.n_range (pe_callB call_len (by rfl) T.n_len b_len (pa_cons (pv 0) pa_nil)))) pa_nil))) (pg_tup rfl (pgs_cons (pg_name (i := 2) sc_law_is_crowded.nd rfl (.inr rfl)) (pgs_cons (pg_name (i := 3) sc_law_is_crowded.nd rfl (.inl rfl)) pgs_nil))))
      (pss_cons (ps_for PassesOwn.never rfl (pi_sq true (pe_slice sl_list (pv 3) (po_some pe_int) po_none)) (pg_name (i := 4) sc_law_is_crowded.nd rfl (.inl rfl)) (pss_one (ps_asg (pe_op op_fdivP (pe_callTy call_int1 (by rfl) T.n_int b_int (pa_cons (pe_op op_mulW (pv 1) (pe_ix ix_seq (pv 0) pe_int (fun _ _ => rfl))) pa_nil)) (pe_op op_mulW (pe_op op_mulW (pe_callB call_len (by rfl) T.n_len b_len (pa_cons (pv 0) pa_nil)) (pe_ix ix_seq (pv 0) (pv 4) (fun _ _ => rfl))) (pe_ix ix_seq (pv 0) pe_int (fun _ _ => rfl)))) (pg_sub (pv 2) (pv 4) set_list))))
      (pss_cons (ps_asg (pe_op op_sub (pv 1) (pe_callB (cr_sumS (by rfl)) (by rfl) T.n_sum b_sum (pa_cons (pe_slice sl_list (pv 2) (po_some pe_int) po_none) pa_nil))) (pg_sub (pv 2) pe_int set_list))
      (pss_cons (ps_for PassesOwn.never rfl (pi_range1 (by rfl) T.n_range (pa_cons (pe_op op_mulW pe_int (pv 1)) pa_nil)) (pg_name (i := 5) sc_law_is_crowded.nd rfl (.inl rfl)) (pss_cons (ps_set (i := 6) sc_law_is_crowded.nd rfl (.inl rfl) (pe_lst pa_nil))
      (pss_cons (ps_for PassesOwn.never rfl (pi_sq true (pv 3)) (pg_name (i := 7) sc_law_is_crowded.nd rfl (.inr rfl)) (pss_one (ps_set (i := 6) sc_law_is_crowded.nd rfl (.inl rfl) (pe_op op_cat (pv 6) (pe_lc (own := [("_law_other", 8)]) (g := gName 8) rfl sc_law_is_crowded.nd (pi_sq true (pv 3)) (blkOk_by (N := ["_law_marks_here", "_law_length", "_law_counts_here", "_law_many", "_law_hand", "_law_turn", "_law_moves", "_law_one", "_law_other"]) (sc := defScope (topS 51)) (by decide +kernel)) (fun _ _ _ _ _ => (pg_name (i := 8) sc_law_is_crowded.nd rfl (.inl rfl))) (fun _ _ _ _ _ => (pts_one (PW.pt (pw_and (pt_cmpR op_gt (pe_ix (show IxR _ (rIx K) from ix_seq) (pv 2) (pv 7) (fun _ _ => rfl)) pe_int (nomark _)) (pw_and1 (pt_cmpR op_gt (pe_op op_mulW (pe_ix (show IxR _ (rIx K) from ix_seq) (pv 2) (pv 7) (fun _ _ => rfl)) (pe_ix (show IxR _ (rIx K) from ix_seq) (pv 0) (pv 7) (fun _ _ => rfl))) (pe_op op_mulW (pe_op op_add (pe_ix (show IxR _ (rIx K) from ix_seq) (pv 2) (pv 8) (fun _ _ => rfl)) pe_int) (pe_ix (show IxR _ (rIx K) from ix_seq) (pv 0) (pv 8) (fun _ _ => rfl))) (nomark _))))))) (fun _ _ _ _ _ => (pe_tup (pa_cons (pv 7) (pa_cons (pv 8) pa_nil)))))))))
      (pss_cons (ps_if (pt_cmpR (op_eqD hr.units) (pv 6) (pe_lst pa_nil) (nomark _)) (pss_one ps_break) pss_nil)
      (pss_one (ps_asg (pe_tup (pa_cons (pe_op op_sub (pe_ix ix_seq (pv 2) (pe_ix ix_seq (pe_ix ix_seq (pv 6) pe_int (fun _ _ => rfl)) pe_int (fun _ _ => rfl)) (fun _ _ => rfl)) pe_int) (pa_cons (pe_op op_add (pe_ix ix_seq (pv 2) (pe_ix ix_seq (pe_ix ix_seq (pv 6) pe_int (fun _ _ => rfl)) pe_int (fun _ _ => rfl)) (fun _ _ => rfl)) pe_int) pa_nil))) (pg_tup rfl (pgs_cons (pg_sub (pv 2) (pe_ix ix_seq (pe_ix ix_seq (pv 6) pe_int (fun _ _ => rfl)) pe_int (fun _ _ => rfl)) set_list) (pgs_cons (pg_sub (pv 2) (pe_ix ix_seq (pe_ix ix_seq (pv 6) pe_int (fun _ _ => rfl)) pe_int (fun _ _ => rfl)) set_list) pgs_nil)))))))))
      (pss_one (ps_ret (pe_cmpR op_gt (pe_f O_law_orders (hr.mono (by decide)) pass0 (pa_cons (pv 2) pa_nil)) (pe_f O_law_fillings (hr.mono (by decide)) pass0 (pa_cons (pv 0) (pa_cons (pv 2) pa_nil))) (nomark _)))))))), ?_⟩
    have big : (100000 : Nat) ≤ sizeLine := by decide
    have hr2 := hm.1
    have hr4 := hm.2.1
    have hTl := startT_len ms n
    have hTs := startT_sum hm.pos hm.ne n
    have hm0 : ms[0]? = some (gd ms 0) := gd_get (by omega)
    have hm0' := hm.get hm0
    refine ⟨_, rfl, by show 1 ≤ sizeLine; decide, fun p1 n1 => ⟨by show 1 ≤ sizeLine; decide, fun p2 n2 => ?_⟩⟩
    have s2 : Same H (upd (upd H p1 (.lst [.int n])) p2 (.lst [.int 0])) := (same_upd n1).trans (same_upd n2)
    refine ⟨_, rfl, _, _, rfl, .inl ⟨_, s2.seq hl, rfl⟩, _, _, rfl, rfl, p2, ((nv ms).length : Nat) - 1, _, rfl, rfl, upd_same, by rw [nv_length]; omega, by rw [nv_length]; omega, ?_, fun p3 n3 => ?_⟩
    · show 1 * ((((nv ms).length : Nat) : Int) - 1).toNat ≤ sizeLine
      rw [nv_length]
      omega
    have e3 : (List.replicate ((((nv ms).length : Nat) : Int) - 1).toNat [V.int 0]).flatten = nv (List.replicate (ms.length - 1) 0) := by
      rw [nv_length]
      have : (((ms.length : Nat) : Int) - 1).toNat = ms.length - 1 := by omega
      rw [this]
      exact rep0 _
    rw [e3]
    have s3 := s2.trans (same_upd (o := .lst (nv (List.replicate (ms.length - 1) 0))) n3)
    refine ⟨p1, p3, [.int n], nv (List.replicate (ms.length - 1) 0), rfl, rfl, same_upd n3 _ _ (same_upd n2 _ _ upd_same), upd_same, by rw [nv_length, List.length_replicate]; show 1 + (ms.length - 1) ≤ sizeLine; omega, fun pc npc => ?_⟩
    have s4 := s3.trans (same_upd (o := .lst ([.int n] ++ nv (List.replicate (ms.length - 1) 0))) npc)
    have hpc : H pc = none := s3.free npc
    refine ⟨_, rfl, _, _, rfl, .inl ⟨_, s4.seq hl, rfl⟩, _, rfl, ⟨by omega, by omega, by omega, by rw [nv_length]; omega, by rw [nv_length]; omega⟩, fun pm npm => ⟨by show 2 ≤ sizeLine; decide, fun tp ntp => ?_⟩⟩
    rw [nv_length, rg_nv] at *
    have s5 := (s4.trans (same_upd (o := .lst (nv (List.range ms.length))) npm)).trans (same_upd (o := .tup [.ref pc, .ref pm]) ntp)
    have eC0 := same_upd (o := .tup [.ref pc, .ref pm]) ntp _ _ (same_upd (o := .lst (nv (List.range ms.length))) npm _ _ upd_same)
    have eM0 := same_upd (o := .tup [.ref pc, .ref pm]) ntp _ _ (upd_same (a := pm) (o := .lst (nv (List.range ms.length))))
    have hmp : pm ≠ pc := (ne_of_none upd_same npm).symm
    refine ⟨tp, _, rfl, .of upd_same, rfl, _, _, rfl, _, _, rfl, rfl, ?_⟩
    generalize upd (upd (upd (upd (upd (upd H p1 (.lst [.int n])) p2 (.lst [.int 0])) p3 (.lst (nv (List.replicate (ms.length - 1) 0)))) pc (.lst ([.int n] ++ nv (List.replicate (ms.length - 1) 0)))) pm (.lst (nv (List.range ms.length)))) tp (.tup [.ref pc, .ref pm]) = H0 at *
    clear s2 s3 s4 n1 n2 n3 npc npm ntp e3
    replace eC0 : H0 pc = some (.lst (nv (n :: List.replicate (ms.length - 1) 0))) := eC0
    have hcp : ∀ {b : Addr} {o : HO}, H b = some o → b ≠ pc := fun e z => by
      rw [z, hpc] at e
      cases e
    have hput : ∀ {H1 : Hp} {o : HO}, Same H H1 → Same H (upd H1 pc o) := fun m b o e => by
      rw [upd_ne (hcp e)]
      exact m _ _ e
    -- the start
    have erl : (nv (List.range ms.length)).length = ms.length := by rw [nv_length, List.length_range]
    have ecut := cut1 (xs := nv (List.range ms.length)) (by omega)
    refine ⟨_, rfl, 1, rfl, pm, _, rfl, .of eM0, fun ps nps => ?_⟩
    have hps : ps ≠ pc := (ne_of_none eC0 nps).symm
    have hsm : ps ≠ pm := (ne_of_none eM0 nps).symm
    refine ⟨ps, rfl, ⟨_, .of upd_same⟩, for_sq (k := true) (xs := (nv (List.range ms.length)).drop 1) (fun i σ H' => Same H H' ∧ H' pm = some (.lst (nv (List.range ms.length))) ∧ H' ps = some (.lst ((nv (List.range ms.length)).drop 1)) ∧ H' pc = some (.lst (nv (n :: ((K6.startT ms n).take i ++ List.replicate (ms.length - 1 - i) 0)))) ∧ ∃ x, σ = [some (.ref a), some (.int n), some (.ref pc), some (.ref pm), x, none, none, none, none])
      ⟨s5.trans (same_upd nps), same_upd nps _ _ eM0, by rw [upd_same, ecut], same_upd nps _ _ eC0, none, rfl⟩ (fun i σ H' _ p => .of p.2.2.1) (fun i x σ H' hx p => ?_) (fun σ H' p => ?_)⟩
    · obtain ⟨m1, eM, eS, eC, x0, rfl⟩ := p
      rw [nv_drop] at hx
      obtain ⟨v, e, rfl⟩ := nv_of hx
      rw [List.getElem?_drop] at e
      have hi : 1 + i < ms.length := by
        have := (List.getElem?_eq_some_iff.mp e).1
        rw [List.length_range] at this
        exact this
      rw [List.getElem?_range hi] at e
      have e := (Option.some.inj e).symm
      subst e
      have hA := (Or.inl (m1.seq hl) : Sq K H' a (nv ms))
      have hmi := gd_get (l := ms) hi
      have hmi' := hm.get hmi
      have hTi : (K6.startT ms n)[i]? = some (n * gd ms 0 / (ms.length * gd ms (1 + i) * gd ms 0)) := by
        unfold K6.startT
        rw [List.getElem?_map, List.getElem?_drop, hmi]
        rfl
      have b1 : (ms.length : Int) * (gd ms (1 + i) : Nat) ≤ 4 * 60 := Int.mul_le_mul (by omega) (by omega) (by omega) (by omega)
      have b2 : (1 : Int) * 1 ≤ (ms.length : Int) * (gd ms (1 + i) : Nat) := Int.mul_le_mul (by omega) (by omega) (by omega) (by omega)
      have b3 : (ms.length : Int) * (gd ms (1 + i) : Nat) * (gd ms 0 : Nat) ≤ 240 * 60 := Int.mul_le_mul (by omega) (by omega) (by omega) (by omega)
      have b4 : (1 : Int) * 1 ≤ (ms.length : Int) * (gd ms (1 + i) : Nat) * (gd ms 0 : Nat) := Int.mul_le_mul (by omega) (by omega) (by omega) (by omega)
      refine ⟨_, rfl, _, rfl, ix_sq hA (atI_nat (j := 0) (nv_get hm0)) ⟨_, _, rfl, rfl, i64 (by omega) (by omega) (by omega) (by omega), .inl ⟨_, rfl, _, rfl, _, _, rfl, .inl ⟨_, m1.seq hl, rfl⟩, _, rfl, _, rfl, ix_sq hA (atI_nat (nv_get hmi)) ⟨_, _, rfl, rfl, ?_, _, rfl, ix_sq hA (atI_nat (j := 0) (nv_get hm0)) ⟨_, _, rfl, rfl, ?_, _, _, rfl, rfl, ?_, _, rfl, _, rfl, pc, _, ((1 + i : Nat) : Int), 1 + i, rfl, rfl, eC, ixn ?_, ?_⟩⟩⟩⟩⟩
      · rw [nv_length]
        exact i64 (by omega) (by omega) (by omega) (by omega)
      · rw [nv_length]
        exact i64 (by omega) (by omega) (by omega) (by omega)
      · rw [nv_length]
        exact small_div (by omega) (by omega)
      · rw [nv_length, List.length_cons, List.length_append, List.length_take, List.length_replicate]
        omega
      · refine ⟨hput m1, by rw [upd_ne hmp]; exact eM, by rw [upd_ne hps]; exact eS, ?_, some (.int ((1 + i : Nat) : Int)), rfl⟩
        rw [upd_same, nv_length]
        have e1 : ((n : Int) * (gd ms 0 : Nat)) / ((ms.length : Int) * (gd ms (1 + i) : Nat) * (gd ms 0 : Nat)) = ((n * gd ms 0 / (ms.length * gd ms (1 + i) * gd ms 0) : Nat) : Int) := rfl
        show some (HO.lst ((nv _).set (1 + i) (V.int (((n : Int) * (gd ms 0 : Nat)) / ((ms.length : Int) * (gd ms (1 + i) : Nat) * (gd ms 0 : Nat)))))) = _
        rw [e1, nv_set]
        have e2 : ms.length - 1 - i = (ms.length - 1 - (i + 1)) + 1 := by omega
        have e3 : (n :: ((K6.startT ms n).take i ++ List.replicate (ms.length - 1 - i) 0)).set (1 + i) (n * gd ms 0 / (ms.length * gd ms (1 + i) * gd ms 0)) = n :: ((K6.startT ms n).take (i + 1) ++ List.replicate (ms.length - 1 - (i + 1)) 0) := by
          rw [Nat.add_comm 1 i, List.set_cons_succ, e2, List.replicate_succ, take_next hTi, List.append_assoc]
          have e4 : ((K6.startT ms n).take i).length = i := by
            rw [List.length_take, hTl]
            omega
          have e5 := set_mid (0 : Nat) (n * gd ms 0 / (ms.length * gd ms (1 + i) * gd ms 0)) (List.replicate (ms.length - 1 - (i + 1)) 0) ((K6.startT ms n).take i)
          rw [e4, Nat.add_comm 1 i] at e5
          rw [e5, Nat.add_comm 1 i]
          rfl
        rw [e3]
    · rw [List.length_drop, erl] at p
      obtain ⟨m1, eM, eS, eC, x0, rfl⟩ := p
      have e1 : (K6.startT ms n).take (ms.length - 1) ++ List.replicate (ms.length - 1 - (ms.length - 1)) 0 = K6.startT ms n := by
        rw [Nat.sub_self, ← hTl, List.take_length]
        exact List.append_nil _
      rw [e1] at eC
      have hcl1 : (nv (n :: K6.startT ms n)).length = ms.length := by
        rw [nv_length, List.length_cons, hTl]
        omega
      have ecut2 := cut1 (xs := nv (n :: K6.startT ms n)) (by omega)
      refine ⟨_, rfl, _, rfl, 1, rfl, pc, _, rfl, .of eC, fun p5 n5 => ⟨p5, (K6.startT ms n).map (fun (n : Nat) => (n : Int)), rfl, .inl (.of (by rw [upd_same, ecut2, nv_drop, ← nv_map]; rfl)), ?_⟩⟩
      rw [sum_cast]
      have hp5 : p5 ≠ pc := (ne_of_none eC n5).symm
      refine ⟨_, _, rfl, rfl, _, rfl, pc, _, 0, 0, rfl, rfl, same_upd n5 _ _ eC, ixn (i := 0) (by omega), ?_⟩
      have e6 : ((n : Int) - ((K6.startT ms n).sum : Nat)) = ((n - (K6.startT ms n).sum : Nat) : Int) := by omega
      have s6 : Same H (upd (upd H' p5 (.lst (cutV (nv (n :: K6.startT ms n)) (some 1) none))) pc (.lst ((nv (n :: K6.startT ms n)).set 0 (V.int ((n : Int) - ((K6.startT ms n).sum : Nat)))))) := hput (m1.trans (same_upd n5))
      have eC6 : (upd (upd H' p5 (.lst (cutV (nv (n :: K6.startT ms n)) (some 1) none))) pc (.lst ((nv (n :: K6.startT ms n)).set 0 (V.int ((n : Int) - ((K6.startT ms n).sum : Nat)))))) pc = some (.lst (nv (start ms n))) := by
        rw [upd_same, e6]
        rfl
      have eM6 : (upd (upd H' p5 (.lst (cutV (nv (n :: K6.startT ms n)) (some 1) none))) pc (.lst ((nv (n :: K6.startT ms n)).set 0 (V.int ((n : Int) - ((K6.startT ms n).sum : Nat)))))) pm = some (.lst (nv (List.range ms.length))) := by
        rw [upd_ne hmp]
        exact same_upd n5 _ _ eM
      generalize upd (upd H' p5 (.lst (cutV (nv (n :: K6.startT ms n)) (some 1) none))) pc (.lst ((nv (n :: K6.startT ms n)).set 0 (V.int ((n : Int) - ((K6.startT ms n).sum : Nat))))) = H6 at *
      clear n5 eS eC eM m1 hp5
      have hsl := start_length hm.ne n
      have hss := start_sum hm.pos hm.ne n
      refine ⟨_, rfl, _, _, rfl, rfl, i64 (by decide) (by decide) (by omega) (by omega), 4 * (n : Int), rfl, by omega, by omega, ?_⟩
      have h4n : (4 * (n : Int)).toNat = 4 * n := by omega
      refine for_range (fun i σ H' => Same H H' ∧ H' pm = some (.lst (nv (List.range ms.length))) ∧ ∃ c, H' pc = some (.lst (nv c)) ∧ c.length = ms.length ∧ c.sum = n ∧ run ms (4 * n - i) c = run ms (4 * n) (start ms n) ∧ ∃ x4 x5 x6 x7 x8, σ = [some (.ref a), some (.int n), some (.ref pc), some (.ref pm), x4, x5, x6, x7, x8])
        ⟨s6, eM6, start ms n, eC6, hsl, hss, rfl, x0, none, none, none, none, rfl⟩ (fun i σ H' hi p => ?_) (fun σ H' p => ?_)
      · rw [h4n] at hi
        obtain ⟨m5, eM, c, eC, hcl, hcs, hrun, x4, x5, x6, x7, x8, rfl⟩ := p
        refine ⟨by show 0 ≤ sizeLine; decide, fun pv0 npv0 => ?_⟩
        have m6 := m5.trans (same_upd (o := .lst []) npv0)
        have eM7 := same_upd (o := .lst []) npv0 _ _ eM
        have eC7 := same_upd (o := .lst []) npv0 _ _ eC
        have epv := upd_same (H := H') (a := pv0) (o := .lst [])
        generalize upd H' pv0 (.lst []) = H7 at *
        refine ⟨_, rfl, pm, rfl, ⟨_, .of eM7⟩, for_sq (k := true) (xs := nv (List.range ms.length)) (fun j σ H8 => Same H7 H8 ∧ ∃ pw vs y7 y8, H8 pw = some (.lst vs) ∧ Tups H8 vs ((((List.range ms.length).take j).flatMap fun a => ((List.range ms.length).filter (K6.cond ms c a)).map fun b => (a, b)).map pl2) ∧ σ = [some (.ref a), some (.int n), some (.ref pc), some (.ref pm), x4, some (.int (0 + i)), some (.ref pw), y7, y8])
          ⟨Same.refl _, pv0, [], x7, x8, epv, .nil, rfl⟩ (fun j σ H8 _ p => .of (p.1 _ _ eM7)) (fun j x σ H8 hx p => ?_) (fun σ H8 p => ?_)⟩
        · obtain ⟨m8, pw, vs, y7, y8, ew, tw, rfl⟩ := p
          obtain ⟨v, e, rfl⟩ := nv_of hx
          have hj : j < ms.length := by
            have := (List.getElem?_eq_some_iff.mp e).1
            rw [List.length_range] at this
            exact this
          have e9 := e
          rw [List.getElem?_range hj] at e
          have e := Option.some.inj e
          subst e
          have hca := gd_get (l := c) (i := j) (by omega)
          have hma := gd_get (l := ms) hj
          have hma' := hm.get hma
          have hcas := elem_sum hca
          refine ⟨_, rfl, _, rfl, pm, rfl, ⟨_, .of (m8 _ _ eM7)⟩, fun D hD => ?_⟩
          refine lc_sq (k := true) (xs := nv (List.range ms.length)) (fun l H9 => Same H8 H9 ∧ ∃ ws, H9 D = some (.lst ws) ∧ ws.length ≤ l ∧ Tups H9 ws ((((List.range ms.length).take l).filter (K6.cond ms c j)).map fun b => [j, b])) ⟨same_upd hD, [], upd_same, Nat.le_refl _, .nil⟩ (fun l H9 _ p => .of (p.1 _ _ (m8 _ _ eM7))) (fun l x H9 hx2 p => ?_) (fun H9 p => ?_)
          · obtain ⟨m9, ws, eD, hwl, tD⟩ := p
            obtain ⟨v, e, rfl⟩ := nv_of hx2
            have hll : l < ms.length := by
              have := (List.getElem?_eq_some_iff.mp e).1
              rw [List.length_range] at this
              exact this
            have e10 := e
            rw [List.getElem?_range hll] at e
            have e := Option.some.inj e
            subst e
            have hcb := gd_get (l := c) (i := l) (by omega)
            have hmb := gd_get (l := ms) hll
            have hmb' := hm.get hmb
            have hcbs := elem_sum hcb
            have m79 := m8.trans m9
            have hC9 := (Or.inl (.of (m79 _ _ eC7)) : Sq K H9 pc (nv c))
            have hA9 := (Or.inl ((m6.trans m79).seq hl) : Sq K H9 a (nv ms))
            have hfl : ((List.range ms.length).take (l + 1)).filter (K6.cond ms c j) = ((List.range ms.length).take l).filter (K6.cond ms c j) ++ (if K6.cond ms c j l = true then [l] else []) := by
              rw [take_next e10, List.filter_append, List.filter_cons, List.filter_nil]
            have hcond : K6.cond ms c j l = (decide ((0 : Int) < ((gd c j : Nat) : Int)) && decide ((((gd c l : Nat) : Int) + 1) * ((gd ms l : Nat) : Int) < ((gd c j : Nat) : Int) * ((gd ms j : Nat) : Int))) := by
              unfold K6.cond
              congr 1
              · rw [decide_eq_decide]
                omega
              · rw [decide_eq_decide]
                have : (((gd c l : Nat) : Int) + 1) * ((gd ms l : Nat) : Int) = (((gd c l + 1) * gd ms l : Nat) : Int) := rfl
                rw [this]
                have : ((gd c j : Nat) : Int) * ((gd ms j : Nat) : Int) = ((gd c j * gd ms j : Nat) : Int) := rfl
                rw [this]
                omega
            refine ⟨rfl, _, rfl, _, rfl, ix_sq hC9 (atI_nat (nv_get hca)) ⟨_, _, rfl, rfl, _, rfl, ?_⟩⟩
            cases hd1 : decide ((0 : Int) < ((gd c j : Nat) : Int)) with
            | false =>
              rw [hd1, Bool.false_and] at hcond
              refine ⟨m9, ws, eD, by omega, ?_⟩
              rw [hfl, hcond]
              show Tups H9 ws ((_ ++ []).map _)
              rw [List.append_nil]
              exact tD
            | true =>
              rw [hd1, Bool.true_and] at hcond
              refine ⟨_, rfl, _, rfl, ix_sq hC9 (atI_nat (nv_get hca)) ⟨_, rfl, _, rfl, ix_sq hA9 (atI_nat (nv_get hma)) ⟨_, _, rfl, rfl, i64 (by omega) (by omega) (by omega) (by omega), _, rfl, _, rfl, ix_sq hC9 (atI_nat (nv_get hcb)) ⟨_, _, rfl, rfl, _, rfl, _, rfl, ix_sq hA9 (atI_nat (nv_get hmb)) ⟨_, _, rfl, rfl, i64 (by omega) (by omega) (by omega) (by omega), _, _, rfl, rfl, _, rfl, ?_⟩⟩⟩⟩⟩
              rw [← hcond]
              cases hd2 : K6.cond ms c j l with
              | false =>
                refine ⟨m9, ws, eD, by omega, ?_⟩
                rw [hfl, hd2]
                show Tups H9 ws ((_ ++ []).map _)
                rw [List.append_nil]
                exact tD
              | true =>
                refine ⟨_, rfl, _, rfl, by show 2 ≤ sizeLine; decide, fun t nt => ⟨ws, same_upd nt _ _ eD, by omega, ?_, ws ++ [.ref t], upd_same, ?_, ?_⟩⟩
                · intro b o e
                  rw [upd_ne (ne_of_none e hD)]
                  exact same_upd nt _ _ (m9 _ _ e)
                · rw [List.length_append]
                  exact Nat.succ_le_succ hwl
                · rw [hfl, hd2]
                  show Tups _ _ ((_ ++ [l]).map _)
                  rw [List.map_append]
                  exact Tups.put (same_upd nt _ _ eD) ((tD.same (same_upd nt)).append (.cons upd_same .nil))
          · rw [erl] at p
            have etk : (List.range ms.length).take ms.length = List.range ms.length := List.take_of_length_le (by rw [List.length_range]; exact Nat.le_refl _)
            rw [etk] at p
            obtain ⟨m9, ws, eD, hwl, tD⟩ := p
            have hvl : vs.length ≤ 16 := by
              rw [tw.len, List.length_map]
              have h1 := flat_len (f := fun a => ((List.range ms.length).filter (K6.cond ms c a)).map fun b => (a, b)) (n := 4) ((List.range ms.length).take j) (fun x _ => by
                rw [List.length_map]
                have := List.length_filter_le (K6.cond ms c x) (List.range ms.length)
                rw [List.length_range] at this
                omega)
              have h2 : ((List.range ms.length).take j).length ≤ 4 := by
                rw [List.length_take, List.length_range]
                omega
              omega
            refine ⟨pw, D, vs, ws, rfl, rfl, m9 _ _ ew, eD, by omega, fun p10 n10 => ?_⟩
            refine ⟨m8.trans (m9.trans (same_upd n10)), p10, vs ++ ws, some (.int j), y8, upd_same, ?_, rfl⟩
            rw [take_next e9, List.flatMap_append, List.map_append]
            refine (tw.same (m9.trans (same_upd n10))).append ?_
            rw [List.flatMap_cons, List.flatMap_nil, List.append_nil, List.map_map]
            exact tD.same (same_upd n10)
        · rw [erl] at p
          have etk : (List.range ms.length).take ms.length = List.range ms.length := List.take_of_length_le (by rw [List.length_range]; exact Nat.le_refl _)
          rw [etk] at p
          obtain ⟨m8, pw, vs, y7, y8, ew, tw, rfl⟩ := p
          have tw : Tups H8 vs ((moves ms c).map pl2) := tw
          have m5 := m6.trans m8
          have eC := m8 _ _ eC7
          have eM := m8 _ _ eM7
          have hi2 : 4 * n - i = (4 * n - (i + 1)) + 1 := by omega
          rw [hi2] at hrun
          refine ⟨_, rfl, by show 0 ≤ sizeLine; decide, fun e0 ne0 => ?_⟩
          have mE : Same H8 (upd H8 e0 (.lst [])) := same_upd ne0
          refine ⟨_, .list [], .lst (.of (mE _ _ ew)) ((tw.same mE).dp), .lst (.of upd_same) .nil, dns_shaped _, shaped_list (fun d h => by cases h), _, rfl, ?_⟩
          have eiv : PyData.eqv (.list (dns ((moves ms c).map pl2))) (.list []) = (moves ms c).isEmpty := by
            rw [eqv_empty]
            unfold dns
            rw [List.isEmpty_map, List.isEmpty_map]
          rw [eiv]
          replace m5 := m5.trans mE
          replace eC := mE _ _ eC
          replace eM := mE _ _ eM
          replace ew := mE _ _ ew
          replace tw := tw.same mE
          generalize upd H8 e0 (.lst []) = H9 at *
          cases hmv : moves ms c with
          | nil =>
            have hres : c = run ms (4 * n) (start ms n) := by
              rw [← hrun]
              unfold K6.run
              rw [hmv]
            refine ⟨_, rfl, pc, c, rfl, .inl (.of eC), by rw [hcl]; exact hm.2.1, by omega, fun H9 m9 => ⟨_, rfl, _, rfl, a, pc, ms, c, rfl, (m5.trans m9).seq hl, .inl (.of (m9 _ _ eC)), hm, hcl, by omega, fun H10 m10 => ⟨_, _, rfl, rfl, ?_⟩⟩⟩
            have e7 : decide (((fil ms c : Nat) : Int) < ((ord c : Nat) : Int)) = crowded ms n := by
              unfold crowded
              rw [← hres, decide_eq_decide]
              omega
            show Q (.bl (decide (((fil ms c : Nat) : Int) < ((ord c : Nat) : Int)))) H10
            rw [e7]
            exact q _ (m5.trans (m9.trans m10))
          | cons pr rest =>
            obtain ⟨a0, b0⟩ := pr
            rw [hmv] at tw
            obtain ⟨ha0, hb0, hcd⟩ := mem_moves.mp (show (a0, b0) ∈ moves ms c by rw [hmv]; exact List.mem_cons_self)
            have hab := cond_ne hcd
            have hpos : 0 < gd c a0 := by
              unfold K6.cond at hcd
              exact of_decide_eq_true (Bool.and_eq_true_iff.mp hcd).1
            cases tw with
            | @cons t0 _ vs2 _ et0 tw2 =>
              have et0 : H9 t0 = some (.tup (nv [a0, b0])) := et0
              have hpw : pw ≠ pc := fun z => by
                rw [z, eC] at ew
                have := Option.some.inj ew
                match c, hcl with
                | x :: l, _ => cases this
                | [], hcl => have : (0 : Nat) = ms.length := hcl; omega
              have ht0 : t0 ≠ pc := fun z => by
                rw [z, eC] at et0
                cases et0
              have hW := (Or.inl (.of ew) : Sq K H9 pw (.ref t0 :: vs2))
              have hT0 := (Or.inr (.of et0) : Sq K H9 t0 (nv [a0, b0]))
              have hC := (Or.inl (.of eC) : Sq K H9 pc (nv c))
              have gca := nv_get (gd_get (l := c) (i := a0) (by omega))
              have gcb := nv_get (gd_get (l := c) (i := b0) (by omega))
              refine ⟨_, rfl, _, rfl, ix_sq hW (v := .ref t0) (atI_nat (j := 0) rfl) (ix_sq hT0 (v := .int (a0 : Nat)) rfl (ix_sq hC (atI_nat gca) ⟨_, _, rfl, rfl, _, rfl, _, rfl, ix_sq hW (v := .ref t0) (atI_nat (j := 0) rfl) (ix_sq hT0 (v := .int (b0 : Nat)) rfl (ix_sq hC (atI_nat gcb) ⟨_, _, rfl, rfl, by show 2 ≤ sizeLine; decide, fun tq ntq => ?_⟩))⟩))⟩
              have mq : Same H9 (upd H9 tq (.tup [.int ((gd c a0 : Nat) - 1 : Int), .int ((gd c b0 : Nat) + 1 : Int)])) := same_upd ntq
              have hputq : ∀ {H1 : Hp} {o : HO}, Same H H1 → Same H (upd H1 pc o) := hput
              refine ⟨tq, _, rfl, .of upd_same, rfl, _, _, rfl, _, rfl, _, rfl, ix_sq (same_s mq hW) (v := .ref t0) (atI_nat (j := 0) rfl) (ix_sq (same_s mq hT0) (v := .int (a0 : Nat)) rfl ⟨pc, _, (a0 : Int), a0, rfl, rfl, mq _ _ eC, ixn (by rw [nv_length]; omega), ?_⟩)⟩
              refine ⟨_, _, rfl, _, rfl, _, rfl, ix_sq (xs := .ref t0 :: vs2) (v := .ref t0) (.inl (.of (by rw [upd_ne hpw]; exact mq _ _ ew))) (atI_nat (j := 0) rfl) (ix_sq (xs := nv [a0, b0]) (v := .int (b0 : Nat)) (.inr (.of (by rw [upd_ne ht0]; exact mq _ _ et0))) rfl ⟨pc, _, (b0 : Int), b0, rfl, rfl, upd_same, ixn (by rw [List.length_set, nv_length]; omega), rfl, ?_⟩)⟩
              refine ⟨hput (hput (m5.trans mq)), by rw [upd_ne hmp, upd_ne hmp]; exact mq _ _ eM, mv c a0 b0, ?_, by rw [mv_length]; exact hcl, by rw [mv_sum (by omega) (by omega) hab hpos]; exact hcs, ?_, x4, _, _, _, _, rfl⟩
              · rw [upd_same]
                have e1 : (((gd c a0 : Nat) : Int) - 1) = ((gd c a0 - 1 : Nat) : Int) := by omega
                show some (HO.lst (((nv c).set a0 (V.int (((gd c a0 : Nat) : Int) - 1))).set b0 (V.int ((gd c b0 + 1 : Nat) : Int)))) = _
                rw [e1, nv_set, nv_set]
                rfl
              · rw [← hrun]
                show _ = run ms ((4 * n - (i + 1)) + 1) c
                have : run ms ((4 * n - (i + 1)) + 1) c = (match moves ms c with | [] => c | (a, b) :: _ => run ms (4 * n - (i + 1)) (mv c a b)) := rfl
                rw [this, hmv]
      · rw [h4n] at p
        obtain ⟨m5, eM, c, eC, hcl, hcs, hrun, x4, x5, x6, x7, x8, rfl⟩ := p
        have hres : c = run ms (4 * n) (start ms n) := by
          rw [Nat.sub_self] at hrun
          exact hrun
        refine ⟨_, rfl, pc, c, rfl, .inl (.of eC), by rw [hcl]; exact hm.2.1, by omega, fun H9 m9 => ⟨_, rfl, _, rfl, a, pc, ms, c, rfl, (m5.trans m9).seq hl, .inl (.of (m9 _ _ eC)), hm, hcl, by omega, fun H10 m10 => ⟨_, _, rfl, rfl, ?_⟩⟩⟩
        have e7 : decide (((fil ms c : Nat) : Int) < ((ord c : Nat) : Int)) = crowded ms n := by
          unfold crowded
          rw [← hres, decide_eq_decide]
          omega
        show Q (.bl (decide (((fil ms c : Nat) : Int) < ((ord c : Nat) : Int)))) H10
        rw [e7]
        exact q _ (m5.trans (m9.trans m10))
end
end W6
namespace W6
open PySem PySem.Spec PyProof.Rows L2 K6
/-- parts of a paper: good enough, in a list; or no list at all -/
def sumOk (ms : List Nat) (ps : List V) : Prop := (∀ p ∈ ps, partOk p = true) ∧ ps.length ≤ 10 ∧ (∀ c, ps = nv c → c.length = ms.length → c.sum ≤ 3000 → c.sum ≤ 2200)
def PartsAt (H : Hp) (b : Addr) (ms : List Nat) (v : V) : Prop := (∃ q ps, v = .ref q ∧ q ≠ b ∧ H q = some (.lst ps) ∧ sumOk ms ps) ∨ (∃ t, atomT v = some t)
theorem PartsAt.keep {b : Addr} {H H' : Hp} {ms : List Nat} {v : V} (k : Keep b H H') (h : PartsAt H b ms v) : PartsAt H' b ms v := by
  rcases h with ⟨q, ps, h1, h2, h3, h4⟩ | h
  · exact .inl ⟨q, ps, h1, h2, k.2 _ _ h2 h3, h4⟩
  · exact .inr h
theorem PartsAt.same {b : Addr} {H H' : Hp} {ms : List Nat} {v : V} (k : Same H H') (h : PartsAt H b ms v) : PartsAt H' b ms v := by
  rcases h with ⟨q, ps, h1, h2, h3, h4⟩ | h
  · exact .inl ⟨q, ps, h1, h2, k _ _ h3, h4⟩
  · exact .inr h
theorem Keep.put {b l : Addr} {H H1 : Hp} {o : HO} (k : Keep b H H1) (hl : H l = none) (hb : l ≠ b) : Keep b H (upd H1 l o) := by
  refine ⟨?_, fun c u hc e => ?_⟩
  · obtain ⟨g, r, e1, e2⟩ := k.1
    exact ⟨g, r, by rw [upd_ne hb.symm]; exact e1, e2⟩
  · rw [upd_ne (ne_of_none e hl)]
    exact k.2 c u hc e
theorem nv_parts (c : List Nat) : ∀ p ∈ nv c, partOk p = true := fun p hp => by
  obtain ⟨n, _, rfl⟩ := List.mem_map.mp hp
  rfl
theorem nv_inj : ∀ {a b : List Nat}, nv a = nv b → a = b
  | [], [], _ => rfl
  | [], _ :: _, h => by cases h
  | _ :: _, [], h => by cases h
  | x :: a, y :: b, h => by
    have h : V.int (x : Int) :: nv a = V.int (y : Int) :: nv b := h
    have h1 := (List.cons.inj h).1
    have h2 := (List.cons.inj h).2
    have h3 := V.int.inj h1
    rw [nv_inj h2, show x = y by omega]
theorem sumOk_nv {ms c : List Nat} (h : c.sum ≤ 2200) (hl : c.length ≤ 10) : sumOk ms (nv c) := ⟨nv_parts c, by rw [nv_length]; exact hl, fun d e _ _ => by rw [← nv_inj e]; exact h⟩
theorem nv_mem_int {c : List Nat} {v : V} (h : v ∈ nv c) : ∃ n : Nat, v = .int (n : Int) := by
  obtain ⟨n, _, rfl⟩ := List.mem_map.mp h
  exact ⟨n, rfl⟩
theorem sum_set_le {c : List Nat} {i x : Nat} (hi : i < c.length) : (c.set i x).sum ≤ c.sum + x ∧ x ≤ (c.set i x).sum := by
  have h := K6.sum_set (x := x) hi
  refine ⟨by omega, elem_sum (List.getElem?_set_self hi)⟩
theorem sumOk_set {ms c : List Nat} {i : Nat} {v : V} (hi : i < c.length) (hl : c.length ≤ 4) (hs : c.sum ≤ 1100) (hp : partOk v = true) (hv : ∀ x : Nat, v = .int (x : Int) → x ≤ gd c i + 10 ∨ x = 3001) : sumOk ms ((nv c).set i v) := by
  have hmem : v ∈ (nv c).set i v := List.mem_of_getElem? (List.getElem?_set_self (by rw [nv_length]; exact hi))
  refine ⟨fun p h => ?_, by rw [List.length_set, nv_length]; omega, fun d e _ h3 => ?_⟩
  · rcases List.mem_or_eq_of_mem_set h with h | h
    · exact nv_parts c p h
    · rw [h]
      exact hp
  · rw [e] at hmem
    obtain ⟨x, hx⟩ := nv_mem_int hmem
    rw [hx, nv_set] at e
    have e := nv_inj e
    obtain ⟨_, h5⟩ := sum_set_le (x := x) hi
    have h4 := K6.sum_set (x := x) hi
    rw [e] at h4 h5
    rcases hv x hx with h6 | h6
    · omega
    · omega
theorem desc_of {K : PySem.W.Frag} {H : Hp} {b : Addr} {ms : List Nat} {w v : V} {a : Addr} (hw : wordOk w = true) (hp : PartsAt H b ms v) (ha : Sq K H a [w, v]) : ∃ D : Desc, DescAt K H ms (.ref a) D := by
  rcases hp with ⟨q, ps, rfl, h2, h3, h4, h5, h6⟩ | ⟨t, ht⟩
  · exact ⟨.pair true w ps, a, q, rfl, ha, hw, .of h3, h4, h5, h6⟩
  · obtain ⟨tw, h⟩ := word_atom hw
    exact ⟨.bad, .inr (.inr ⟨a, w, v, false, t, rfl, ha, .atom h, ht⟩)⟩
def spBent (K : PySem.W.Frag) : Sp := fun vs H Q _ => ∃ b p ms z c, vs = [.ref b, .ref p, .int ((ms.length : Nat) : Int)] ∧ BoxAt H b ∧ Mks ms ∧ PaperAt H p z c ∧ (z = "tells" ∨ z = "more") ∧ 2 ≤ c.length ∧ c.length ≤ 4 ∧ c.sum ≤ 1100 ∧
  (∀ x ∈ [p], x ≠ b) ∧ (∀ q, H p = some (.tup [.str z, .ref q]) → q ≠ b) ∧ ∀ H' v (D : Desc), Keep b H H' → DescAt K H' ms v D → Q v H'
theorem sc_law_bent : FnScope ["_law_box_here", "_law_paper", "_law_many", "_law_word", "_law_parts", "_law_kind", "_law_at", "_law_hand", "_law_part"] ["_law_box_here", "_law_paper", "_law_many"] (defScope (topS 54)) := ⟨rfl, rfl, rfl, by decide +kernel, rfl, by decide +kernel, by decide +kernel⟩
section
variable {P : Program} {w : World} {K : PySem.W.Frag} {mg : Str → Option Value} {base : Heap}
theorem ok_bent (T : Tx P K mg) : Ok P w K mg base CX0 3 "_law_bent" ["_law_box_here", "_law_paper", "_law_many"] (spBent K) := by
  have O_law_take := ok_take (P := P) (w := w) (base := base) T
  have O_law_pick := ok_pick (P := P) (w := w) (base := base) T
  refine T.d_law_bent.ok sc_law_bent (fun _ _ _ _ _ _ us hl => match us, hl with | [_, _, _], _ => rfl) (fun vs H Q E h => ?_) (fun cdv A outer s H vs Q E hr h => ?_)
  · obtain ⟨b, p, ms, z, c, rfl, _⟩ := h
    rfl
  · obtain ⟨b, p, ms, z, c, rfl, hb, hm, hpap, hz, hc2, hc4, hcs, hpb, hqb, q⟩ := h
    refine ⟨_, PSs.nox (pss_cons (ps_par3 (i := 3) (j := 4) (l := 5) (by rfl) sc_law_bent.nd rfl rfl rfl (by decide) (by decide) (by decide) rfl rfl rfl (pa_cons (pe_ix ix_seq (pv 1) pe_int (fun _ _ => rfl)) (pa_cons (pe_callTy call_lstS (by rfl) T.n_list b_list (pa_cons (pe_ix ix_seq (pv 1) pe_int (fun _ _ => rfl)) pa_nil)) (pa_cons (pe_f O_law_take (hr.mono (by decide)) pass0 (pa_cons (pv 0) (pa_cons pe_int pa_nil))) pa_nil))) (by rfl))
      (pss_cons (ps_set (i := 6) sc_law_bent.nd rfl (.inl rfl) (pe_f O_law_take (hr.mono (by decide)) pass0 (pa_cons (pv 0) (pa_cons (pe_callB call_len (by rfl) T.n_len b_len (pa_cons (pv 4) pa_nil)) pa_nil))))
      (pss_cons (ps_if (pt_cmpR op_eq (pv 5) pe_int (nomark _)) (pss_one (ps_asg (pe_f O_law_pick (hr.mono (by decide)) pass0 (pa_cons (pv 0) (pa_cons (pe_lst (pa_cons (pe_f O_law_take (hr.mono (by decide)) pass0 (pa_cons (pv 0) (pa_cons pe_int pa_nil))) (pa_cons (pe_op op_add (pe_ix ix_seq (pv 4) (pv 6) (fun _ _ => rfl)) pe_int) (pa_cons (pe_callB (call_max2 (by rfl)) (by rfl) T.n_max b_max (pa_cons pe_int (pa_cons (pe_op op_sub (pe_ix ix_seq (pv 4) (pv 6) (fun _ _ => rfl)) pe_int) pa_nil))) (pa_cons pe_non (pa_cons pe_bl (pa_cons (pe_op op_sub pe_int pe_int) (pa_cons pe_int pa_nil)))))))) pa_nil))) (pg_sub (pv 4) (pv 6) set_list))) (pss_one (ps_if (pt_cmpR op_eq (pv 5) pe_int (nomark _)) (pss_one (ps_set (i := 4) sc_law_bent.nd rfl (.inl rfl) (pe_f O_law_pick (hr.mono (by decide)) pass0 (pa_cons (pv 0) (pa_cons (pe_lst (pa_cons (pe_op op_cat (pv 4) (pe_lst (pa_cons pe_int pa_nil))) (pa_cons (pe_slice sl_list (pv 4) (po_some pe_int) po_none) (pa_cons (pe_revS (pv 4) (pe_op op_sub pe_int pe_int)) (pa_cons (pe_lst pa_nil) (pa_cons pe_non (pa_cons pe_str pa_nil))))))) pa_nil))))) (pss_one (ps_if (pt_cmpR op_eq (pv 5) pe_int (nomark _)) (pss_one (ps_set (i := 3) sc_law_bent.nd rfl (.inl rfl) (pe_f O_law_pick (hr.mono (by decide)) pass0 (pa_cons (pv 0) (pa_cons (pe_lst (pa_cons pe_str (pa_cons pe_str (pa_cons pe_str (pa_cons pe_int (pa_cons pe_non pa_nil)))))) pa_nil))))) (pss_one (ps_if (pt_cmpR op_eq (pv 5) pe_int (nomark _)) (pss_one (ps_ret (pe_f O_law_pick (hr.mono (by decide)) pass0 (pa_cons (pv 0) (pa_cons (pe_lst (pa_cons pe_non (pa_cons (pe_tup pa_nil) (pa_cons pe_str (pa_cons (pe_tup (pa_cons pe_str pa_nil)) (pa_cons (pe_tup (pa_cons pe_str pa_nil)) (pa_cons (pe_tup (pa_cons (pv 3) (pa_cons (pv 4) (pa_cons pe_int pa_nil)))) (pa_cons (pe_tup (pa_cons (pv 4) (pa_cons (pv 3) pa_nil))) pa_nil)))))))) pa_nil))))) (pss_one (ps_if (pt_cmpR op_eq (pv 5) pe_int (nomark _)) (pss_one (ps_par (i := 3) (j := 4) (by rfl) sc_law_bent.nd rfl rfl (by decide) rfl rfl (pa_cons pe_str (pa_cons (pe_lc (own := [("_law_hand", 7)]) (g := gName 7) (tt := tYes) rfl sc_law_bent.nd (pi_range1 (by rfl) T.n_range (pa_cons (pv 2) pa_nil)) (blkOk_by (N := ["_law_box_here", "_law_paper", "_law_many", "_law_word", "_law_parts", "_law_kind", "_law_at", "_law_hand", "_law_part"]) (sc := defScope (topS 54)) (by decide +kernel)) (fun _ _ _ _ _ => (pg_name (i := 7) sc_law_bent.nd rfl (.inl rfl))) (fun _ _ _ _ _ => pts_nil) (fun _ _ _ _ _ => (pe_f O_law_take (hr.mono (by decide)) pass0 (pa_cons (pv 0) (pa_cons pe_int pa_nil))))) pa_nil)) (by rfl))) (pss_one (ps_if (pt_cmpR op_eq (pv 5) pe_int (nomark _)) (pss_one (ps_setLc (i := 4) (own := [("_law_part", 8)]) (g := gName 8) (tt := tYes) rfl sc_law_bent.nd rfl rfl (sw_true rfl rfl rfl (by decide +kernel)) (pi_sq true (pv 4)) (blkOk_by (N := ["_law_box_here", "_law_paper", "_law_many", "_law_word", "_law_parts", "_law_kind", "_law_at", "_law_hand", "_law_part"]) (sc := defScope (topS 54)) (by decide +kernel)) (fun _ _ _ _ _ => (pg_name (i := 8) sc_law_bent.nd rfl (.inl rfl))) (fun _ _ _ _ _ => pts_nil) (fun _ _ _ _ _ => (pe_op op_mulW pe_int (pv 8))))) pss_nil)))))))))))
      (pss_one (ps_ret (pe_f O_law_pick (hr.mono (by decide)) pass0 (pa_cons (pv 0) (pa_cons (pe_lst (pa_cons (pe_tup (pa_cons (pv 3) (pa_cons (pv 4) pa_nil))) (pa_cons (pe_lst (pa_cons (pv 3) (pa_cons (pv 4) pa_nil))) pa_nil))) pa_nil)))))))), ?_⟩
    obtain ⟨pq, hp1, hp2⟩ := hpap
    have hpb := hpb p List.mem_cons_self
    have hqb := hqb pq hp1
    have hmn := hm.1
    have hmx := hm.2.1
    have big : (100000 : Nat) ≤ sizeLine := by decide
    have wz : wordOk (.str z) = true := by
      rcases hz with rfl | rfl
      · decide +kernel
      · decide +kernel
    refine ⟨_, rfl, ix_sq (.inr (.of hp1)) (v := .str z) rfl ⟨_, rfl, ix_sq (.inr (.of hp1)) (v := .ref pq) rfl (list_sq (.inr (.of hp2)) fun l0 nl0 => ?_)⟩⟩
    have k0 : Keep b H (upd H l0 (.lst (nv c))) := .of hb (same_upd nl0)
    have hl0b := hb.ne nl0
    refine ⟨_, rfl, b, 7, rfl, k0.1, by decide, by decide, fun H1 kd k1 hkd => ⟨_, _, _, rfl, ?_⟩⟩
    have e1 := k1.2 _ _ hl0b (upd_same (a := l0) (o := .lst (nv c)))
    have k01 := k0.trans k1
    refine ⟨_, rfl, _, rfl, _, _, rfl, .inl ⟨_, .of e1, rfl⟩, b, c.length, by rw [nv_length]; rfl, k1.1, by omega, by omega, fun H2 at_ k2 hat => ?_⟩
    have e2 := k2.2 _ _ hl0b e1
    have k02 := k01.trans k2
    have hca := gd_get (l := c) hat
    have hcas := elem_sum hca
    refine ⟨_, rfl, rfl, _, rfl, ite2 (fun hk => ?_) (fun hk => ?_)⟩
    · -- one part replaced
      refine ⟨_, rfl, _, rfl, b, 9, rfl, k2.1, by decide, by decide, fun H3 d k3 hd => ?_⟩
      have e3 := k3.2 _ _ hl0b e2
      have hS := (Or.inl (.of e3) : Sq K H3 l0 (nv c))
      refine ⟨_, rfl, _, rfl, ix_sq hS (atI_nat (nv_get hca)) ⟨_, _, rfl, rfl, _, rfl, _, rfl, ix_sq hS (atI_nat (nv_get hca)) ⟨_, _, rfl, rfl, _, _, rfl, _, _, rfl, rfl, by show 7 ≤ sizeLine; decide, fun pl npl => ?_⟩⟩⟩
      have k03 := k02.trans k3
      have k04 := k03.same (same_upd (o := .lst [.int (d : Int), .int ((gd c at_ : Nat) + 1 : Int), .int (if ((gd c at_ : Nat) - 1 : Int) > 0 then ((gd c at_ : Nat) - 1 : Int) else 0), .non, .bl true, .int (0 - 1), .int 3001]) npl)
      refine ⟨b, pl, _, rfl, k04.1, k3.1.ne npl, .of upd_same, (show 1 ≤ 7 by decide), (show 7 ≤ 10000 by decide), fun H4 i v k4 hv => ?_⟩
      have e4 := k4.2 _ _ hl0b (same_upd npl _ _ e3)
      have kF0 := k04.trans k4
      have hpv : partOk v = true ∧ ∀ x : Nat, v = .int (x : Int) → x ≤ gd c at_ + 10 ∨ x = 3001 := by
        have hv := List.mem_of_getElem? hv
        simp only [List.mem_cons, List.mem_nil_iff, or_false] at hv
        rcases hv with rfl | rfl | rfl | rfl | rfl | rfl | rfl
        · exact ⟨rfl, fun x e => by have := V.int.inj e; omega⟩
        · exact ⟨rfl, fun x e => by have := V.int.inj e; omega⟩
        · exact ⟨rfl, fun x e => by
            have := V.int.inj e
            split at this <;> omega⟩
        · exact ⟨rfl, fun x e => by cases e⟩
        · exact ⟨rfl, fun x e => by cases e⟩
        · exact ⟨rfl, fun x e => by have := V.int.inj e; omega⟩
        · exact ⟨rfl, fun x e => by have := V.int.inj e; omega⟩
      refine ⟨_, rfl, _, rfl, l0, _, at_, at_, rfl, rfl, e4, ixn (by rw [nv_length]; exact hat), ?_⟩
      have kF := kF0.put (o := .lst ((nv c).set at_ v)) nl0 hl0b
      have pF : PartsAt (upd H4 l0 (.lst ((nv c).set at_ v))) b ms (.ref l0) := .inl ⟨l0, _, rfl, hl0b, upd_same, sumOk_set hat hc4 hcs hpv.1 hpv.2⟩
      have wF := wz
      generalize upd H4 l0 (.lst ((nv c).set at_ v)) = HF at *
      refine ⟨_, rfl, _, rfl, _, rfl, by show 2 ≤ sizeLine; decide, fun t1 nt1 => ⟨_, rfl, _, rfl, by show 2 ≤ sizeLine; decide, fun t2 nt2 => ⟨by show 2 ≤ sizeLine; decide, fun tl ntl => ?_⟩⟩⟩
      have z1 := kF.same (same_upd (o := .tup [.str z, .ref l0]) nt1)
      have z2 := z1.same (same_upd (o := .lst [.str z, .ref l0]) nt2)
      have z3 := z2.same (same_upd (o := .lst [.ref t1, .ref t2]) ntl)
      have f1 := same_upd (o := .lst [.ref t1, .ref t2]) ntl _ _ (same_upd (o := .lst [.str z, .ref l0]) nt2 _ _ (upd_same (a := t1) (o := .tup [.str z, .ref l0])))
      have f2 := same_upd (o := .lst [.ref t1, .ref t2]) ntl _ _ (upd_same (a := t2) (o := .lst [.str z, .ref l0]))
      have g1 := kF.1.ne nt1
      have g2 := z1.1.ne nt2
      refine ⟨b, tl, _, rfl, z3.1, z2.1.ne ntl, .of upd_same, (show 1 ≤ 2 by decide), (show 2 ≤ 10000 by decide), fun H' ir vr k hvr => ?_⟩
      have hPF := pF.keep (((Keep.of kF.1 (same_upd (o := .tup [.str z, .ref l0]) nt1)).same (same_upd (o := .lst [.str z, .ref l0]) nt2)).same (same_upd (o := .lst [.ref t1, .ref t2]) ntl) |>.trans k)
      have hvr := List.mem_of_getElem? hvr
      simp only [List.mem_cons, List.mem_nil_iff, or_false] at hvr
      rcases hvr with rfl | rfl
      · obtain ⟨D, hD⟩ := desc_of (K := K) (a := t1) wF hPF (.inr (.of (k.2 _ _ g1 f1)))
        exact q H' _ D (z3.trans k) hD
      · obtain ⟨D, hD⟩ := desc_of (K := K) (a := t2) wF hPF (.inl (.of (k.2 _ _ g2 f2)))
        exact q H' _ D (z3.trans k) hD
    · refine ⟨_, rfl, rfl, _, rfl, ite2 (fun hk => ?_) (fun hk => ?_)⟩
      · -- other parts
        refine ⟨_, rfl, _, rfl, by show 1 ≤ sizeLine; decide, fun p1 n1 => ⟨l0, p1, nv c, [.int 0], rfl, rfl, same_upd n1 _ _ e2, upd_same, by rw [nv_length]; show c.length + 1 ≤ sizeLine; omega, fun p2 n2 => ?_⟩⟩
        have s1 := same_upd (o := .lst [.int 0]) n1
        have s2 := s1.trans (same_upd (o := .lst (nv c ++ [.int 0])) n2)
        have P2 : PartsAt (upd (upd H2 p1 (.lst [.int 0])) p2 (.lst (nv c ++ [.int 0]))) b ms (.ref p2) := .inl ⟨p2, _, rfl, (k2.same s1).1.ne n2, upd_same, by
          have : nv c ++ [.int 0] = nv (c ++ [0]) := by unfold nv; rw [List.map_append]; rfl
          rw [this]
          exact sumOk_nv (by rw [List.sum_append]; show c.sum + 0 ≤ 2200; omega) (by rw [List.length_append]; show c.length + 1 ≤ 10; omega)⟩
        refine ⟨_, rfl, 1, rfl, l0, _, rfl, .of (s2 _ _ e2), fun p3 n3 => ?_⟩
        have ecut := cut1 (xs := nv c) (by rw [nv_length]; omega)
        rw [ecut, nv_drop]
        have s3 := s2.trans (same_upd (o := .lst (nv (c.drop 1))) n3)
        have P3 : PartsAt (upd (upd (upd H2 p1 (.lst [.int 0])) p2 (.lst (nv c ++ [.int 0]))) p3 (.lst (nv (c.drop 1)))) b ms (.ref p3) := .inl ⟨p3, _, rfl, (k2.same s2).1.ne n3, upd_same, sumOk_nv (by
          have h1 : c.sum = (c.take 1).sum + (c.drop 1).sum := by rw [← List.sum_append, List.take_append_drop]
          omega) (by rw [List.length_drop]; omega)⟩
        refine ⟨_, rfl, _, _, rfl, rfl, _, rfl, l0, _, rfl, rfl, .of (s3 _ _ e2), fun p4 n4 => ?_⟩
        have erev : (nv c).reverse = nv c.reverse := by unfold nv; rw [List.map_reverse]
        rw [erev]
        have s4 := s3.trans (same_upd (o := .lst (nv c.reverse)) n4)
        have P4 : PartsAt (upd (upd (upd (upd H2 p1 (.lst [.int 0])) p2 (.lst (nv c ++ [.int 0]))) p3 (.lst (nv (c.drop 1)))) p4 (.lst (nv c.reverse))) b ms (.ref p4) := .inl ⟨p4, _, rfl, (k2.same s3).1.ne n4, upd_same, sumOk_nv (by rw [List.sum_reverse]; omega) (by rw [List.length_reverse]; omega)⟩
        refine ⟨by show 0 ≤ sizeLine; decide, fun p5 n5 => ?_⟩
        have s5 := s4.trans (same_upd (o := .lst []) n5)
        have P5 : PartsAt (upd (upd (upd (upd (upd H2 p1 (.lst [.int 0])) p2 (.lst (nv c ++ [.int 0]))) p3 (.lst (nv (c.drop 1)))) p4 (.lst (nv c.reverse))) p5 (.lst [])) b ms (.ref p5) := .inl ⟨p5, _, rfl, (k2.same s4).1.ne n5, upd_same, sumOk_nv (c := []) (by decide) (by decide)⟩
        replace P4 := P4.same (same_upd (o := .lst []) n5)
        replace P3 := (P3.same (same_upd (o := .lst (nv c.reverse)) n4)).same (same_upd (o := .lst []) n5)
        replace P2 := ((P2.same (same_upd (o := .lst (nv (c.drop 1))) n3)).same (same_upd (o := .lst (nv c.reverse)) n4)).same (same_upd (o := .lst []) n5)
        generalize upd (upd (upd (upd (upd H2 p1 (.lst [.int 0])) p2 (.lst (nv c ++ [.int 0]))) p3 (.lst (nv (c.drop 1)))) p4 (.lst (nv c.reverse))) p5 (.lst []) = H5 at *
        refine ⟨by show 6 ≤ sizeLine; decide, fun pl npl => ?_⟩
        have k25 := k02.same s5
        have k04 := k25.same (same_upd (o := .lst [.ref p2, .ref p3, .ref p4, .ref p5, .non, .str "11"]) npl)
        refine ⟨b, pl, _, rfl, k04.1, k25.1.ne npl, .of upd_same, (show 1 ≤ 6 by decide), (show 6 ≤ 10000 by decide), fun HF i v k4 hv => ?_⟩
        have kF := k04.trans k4
        have k45 := (Keep.of k25.1 (same_upd (o := .lst [.ref p2, .ref p3, .ref p4, .ref p5, .non, .str "11"]) npl)).trans k4
        have pF : PartsAt HF b ms v := by
          have hv := List.mem_of_getElem? hv
          simp only [List.mem_cons, List.mem_nil_iff, or_false] at hv
          rcases hv with rfl | rfl | rfl | rfl | rfl | rfl
          · exact P2.keep k45
          · exact P3.keep k45
          · exact P4.keep k45
          · exact P5.keep k45
          · exact .inr ⟨_, rfl⟩
          · exact .inr ⟨_, rfl⟩
        have wF := wz
        clear hv
        refine ⟨_, rfl, _, rfl, _, rfl, by show 2 ≤ sizeLine; decide, fun t1 nt1 => ⟨_, rfl, _, rfl, by show 2 ≤ sizeLine; decide, fun t2 nt2 => ⟨by show 2 ≤ sizeLine; decide, fun tl ntl => ?_⟩⟩⟩
        have z1 := kF.same (same_upd (o := .tup [.str z, v]) nt1)
        have z2 := z1.same (same_upd (o := .lst [.str z, v]) nt2)
        have z3 := z2.same (same_upd (o := .lst [.ref t1, .ref t2]) ntl)
        have f1 := same_upd (o := .lst [.ref t1, .ref t2]) ntl _ _ (same_upd (o := .lst [.str z, v]) nt2 _ _ (upd_same (a := t1) (o := .tup [.str z, v])))
        have f2 := same_upd (o := .lst [.ref t1, .ref t2]) ntl _ _ (upd_same (a := t2) (o := .lst [.str z, v]))
        have g1 := kF.1.ne nt1
        have g2 := z1.1.ne nt2
        refine ⟨b, tl, _, rfl, z3.1, z2.1.ne ntl, .of upd_same, (show 1 ≤ 2 by decide), (show 2 ≤ 10000 by decide), fun H' ir vr k hvr => ?_⟩
        have hPF := pF.keep (((Keep.of kF.1 (same_upd (o := .tup [.str z, v]) nt1)).same (same_upd (o := .lst [.str z, v]) nt2)).same (same_upd (o := .lst [.ref t1, .ref t2]) ntl) |>.trans k)
        have hvr := List.mem_of_getElem? hvr
        simp only [List.mem_cons, List.mem_nil_iff, or_false] at hvr
        rcases hvr with rfl | rfl
        · obtain ⟨D, hD⟩ := desc_of (K := K) (a := t1) wF hPF (.inr (.of (k.2 _ _ g1 f1)))
          exact q H' _ D (z3.trans k) hD
        · obtain ⟨D, hD⟩ := desc_of (K := K) (a := t2) wF hPF (.inl (.of (k.2 _ _ g2 f2)))
          exact q H' _ D (z3.trans k) hD
      · refine ⟨_, rfl, rfl, _, rfl, ite2 (fun hk => ?_) (fun hk => ?_)⟩
        · -- another word
          refine ⟨_, rfl, by show 5 ≤ sizeLine; decide, fun pl npl => ?_⟩
          have k04 := k02.same (same_upd (o := .lst [.str "tells", .str "more", .str "less", .int 0, .non]) npl)
          refine ⟨b, pl, _, rfl, k04.1, k02.1.ne npl, .of upd_same, (show 1 ≤ 5 by decide), (show 5 ≤ 10000 by decide), fun HF i v k4 hv => ?_⟩
          have kF := k04.trans k4
          have pF : PartsAt HF b ms (.ref l0) := .inl ⟨l0, _, rfl, hl0b, k4.2 _ _ hl0b (same_upd npl _ _ e2), sumOk_nv (by omega) (by omega)⟩
          have wF : wordOk v = true := by
            have hv := List.mem_of_getElem? hv
            simp only [List.mem_cons, List.mem_nil_iff, or_false] at hv
            rcases hv with rfl | rfl | rfl | rfl | rfl <;> decide +kernel
          clear hv
          refine ⟨_, rfl, _, rfl, _, rfl, by show 2 ≤ sizeLine; decide, fun t1 nt1 => ⟨_, rfl, _, rfl, by show 2 ≤ sizeLine; decide, fun t2 nt2 => ⟨by show 2 ≤ sizeLine; decide, fun tl ntl => ?_⟩⟩⟩
          have z1 := kF.same (same_upd (o := .tup [v, .ref l0]) nt1)
          have z2 := z1.same (same_upd (o := .lst [v, .ref l0]) nt2)
          have z3 := z2.same (same_upd (o := .lst [.ref t1, .ref t2]) ntl)
          have f1 := same_upd (o := .lst [.ref t1, .ref t2]) ntl _ _ (same_upd (o := .lst [v, .ref l0]) nt2 _ _ (upd_same (a := t1) (o := .tup [v, .ref l0])))
          have f2 := same_upd (o := .lst [.ref t1, .ref t2]) ntl _ _ (upd_same (a := t2) (o := .lst [v, .ref l0]))
          have g1 := kF.1.ne nt1
          have g2 := z1.1.ne nt2
          refine ⟨b, tl, _, rfl, z3.1, z2.1.ne ntl, .of upd_same, (show 1 ≤ 2 by decide), (show 2 ≤ 10000 by decide), fun H' ir vr k hvr => ?_⟩
          have hPF := pF.keep (((Keep.of kF.1 (same_upd (o := .tup [v, .ref l0]) nt1)).same (same_upd (o := .lst [v, .ref l0]) nt2)).same (same_upd (o := .lst [.ref t1, .ref t2]) ntl) |>.trans k)
          have hvr := List.mem_of_getElem? hvr
          simp only [List.mem_cons, List.mem_nil_iff, or_false] at hvr
          rcases hvr with rfl | rfl
          · obtain ⟨D, hD⟩ := desc_of (K := K) (a := t1) wF hPF (.inr (.of (k.2 _ _ g1 f1)))
            exact q H' _ D (z3.trans k) hD
          · obtain ⟨D, hD⟩ := desc_of (K := K) (a := t2) wF hPF (.inl (.of (k.2 _ _ g2 f2)))
            exact q H' _ D (z3.trans k) hD
        · refine ⟨_, rfl, rfl, _, rfl, ite2 (fun hk => ?_) (fun hk => ?_)⟩
          · -- no paper at all
            refine ⟨_, rfl, by show 0 ≤ sizeLine; decide, fun p1 n1 => ⟨by show 1 ≤ sizeLine; decide, fun p2 n2 => ⟨by show 1 ≤ sizeLine; decide, fun p3 n3 => ⟨_, rfl, _, rfl, by show 3 ≤ sizeLine; decide, fun p4 n4 => ⟨_, rfl, _, rfl, by show 2 ≤ sizeLine; decide, fun p5 n5 => ⟨by show 7 ≤ sizeLine; decide, fun pl npl => ?_⟩⟩⟩⟩⟩⟩
            have s1 := same_upd (o := .tup []) n1
            have s2 := same_upd (o := .tup [.str "more"]) n2
            have s3 := same_upd (o := .tup [.str "tells"]) n3
            have s4 := same_upd (o := .tup [.str z, .ref l0, .int 0]) n4
            have s5 := same_upd (o := .tup [.ref l0, .str z]) n5
            have g1 := s5 _ _ (s4 _ _ (s3 _ _ (s2 _ _ (upd_same (a := p1) (o := .tup [])))))
            have g2 := s5 _ _ (s4 _ _ (s3 _ _ (upd_same (a := p2) (o := .tup [.str "more"]))))
            have g3 := s5 _ _ (s4 _ _ (upd_same (a := p3) (o := .tup [.str "tells"])))
            have g4 := s5 _ _ (upd_same (a := p4) (o := .tup [.str z, .ref l0, .int 0]))
            have g5 := upd_same (H := upd (upd (upd (upd H2 p1 (.tup [])) p2 (.tup [.str "more"])) p3 (.tup [.str "tells"])) p4 (.tup [.str z, .ref l0, .int 0])) (a := p5) (o := .tup [.ref l0, .str z])
            have k1' := k02.same s1
            have k2' := k1'.same s2
            have k3' := k2'.same s3
            have k4' := k3'.same s4
            have k5' := k4'.same s5
            have k6 := k5'.same (same_upd (o := .lst [.non, .ref p1, .str "more", .ref p2, .ref p3, .ref p4, .ref p5]) npl)
            have b1 := k02.1.ne n1
            have b2 := k1'.1.ne n2
            have b3 := k2'.1.ne n3
            have b4 := k3'.1.ne n4
            have b5 := k4'.1.ne n5
            have g0 := s5 _ _ (s4 _ _ (s3 _ _ (s2 _ _ (s1 _ _ e2))))
            refine ⟨b, pl, _, rfl, k6.1, k5'.1.ne npl, .of upd_same, (show 1 ≤ 7 by decide), (show 7 ≤ 10000 by decide), fun HF i v k7 hv => ?_⟩
            have kk := (Keep.of k5'.1 (same_upd (o := .lst [.non, .ref p1, .str "more", .ref p2, .ref p3, .ref p4, .ref p5]) npl)).trans k7
            have hv := List.mem_of_getElem? hv
            simp only [List.mem_cons, List.mem_nil_iff, or_false] at hv
            refine q HF v .bad (k6.trans k7) ?_
            rcases hv with rfl | rfl | rfl | rfl | rfl | rfl | rfl
            · exact .inl ⟨_, rfl⟩
            · exact .inr (.inl ⟨p1, _, rfl, .inr (.of (kk.2 _ _ b1 g1)), (show ¬ (0 = 2) by decide), (show 0 ≤ 10 by decide)⟩)
            · exact .inl ⟨_, rfl⟩
            · exact .inr (.inl ⟨p2, _, rfl, .inr (.of (kk.2 _ _ b2 g2)), (show ¬ (1 = 2) by decide), (show 1 ≤ 10 by decide)⟩)
            · exact .inr (.inl ⟨p3, _, rfl, .inr (.of (kk.2 _ _ b3 g3)), (show ¬ (1 = 2) by decide), (show 1 ≤ 10 by decide)⟩)
            · exact .inr (.inl ⟨p4, _, rfl, .inr (.of (kk.2 _ _ b4 g4)), (show ¬ (3 = 2) by decide), (show 3 ≤ 10 by decide)⟩)
            · exact .inr (.inr ⟨p5, .ref l0, .str z, true, _, rfl, .inr (.of (kk.2 _ _ b5 g5)), .sq (.inl (.of (kk.2 _ _ hl0b g0))), rfl⟩)
          · refine ⟨_, rfl, rfl, _, rfl, ite2 (fun hk => ?_) (fun hk => ?_)⟩
            · -- drawn counts
              refine ⟨_, rfl, (ms.length : Int), rfl, by omega, by omega, fun D hD => ?_⟩
              have hDb := k02.1.ne hD
              refine lc_range (fun i H' => Keep b H2 H' ∧ ∃ l, H' D = some (.lst (nv l)) ∧ l.length = i ∧ ∀ m ∈ l, m ≤ 11) ⟨.of k2.1 (same_upd hD), [], upd_same, rfl, fun m hm => by cases hm⟩ (fun i H' hi p => ?_) (fun HF p => ?_)
              · obtain ⟨k3, l, eD, hlen, hall⟩ := p
                refine ⟨rfl, ?_⟩
                refine ⟨_, rfl, b, 12, rfl, k3.1, by decide, by decide, fun H4 d k4 hd => ⟨nv l, k4.2 _ _ hDb eD, ?_, (k3.trans k4).put hD hDb, l ++ [d], ?_, ?_, ?_⟩⟩
                · rw [nv_length, hlen]
                  have : (10 : Nat) ≤ sizeLine := by decide
                  omega
                · rw [upd_same]
                  unfold nv
                  rw [List.map_append]
                  rfl
                · rw [List.length_append, hlen, List.length_singleton]
                · intro m hm
                  rcases List.mem_append.mp hm with hm | hm
                  · exact hall m hm
                  · have : m = d := by simpa using hm
                    omega
              · obtain ⟨k3, l, eD, hlen, hall⟩ := p
                have hlen4 : l.length ≤ 4 := by omega
                have hs := sum_le hall
                have kF := k02.trans k3
                have pF : PartsAt HF b ms (.ref D) := .inl ⟨D, _, rfl, hDb, eD, sumOk_nv (by omega) (by omega)⟩
                have wF : wordOk (.str "more") = true := by decide +kernel
                refine ⟨_, _, rfl, ?_⟩
                refine ⟨_, rfl, _, rfl, _, rfl, by show 2 ≤ sizeLine; decide, fun t1 nt1 => ⟨_, rfl, _, rfl, by show 2 ≤ sizeLine; decide, fun t2 nt2 => ⟨by show 2 ≤ sizeLine; decide, fun tl ntl => ?_⟩⟩⟩
                have z1 := kF.same (same_upd (o := .tup [.str "more", .ref D]) nt1)
                have z2 := z1.same (same_upd (o := .lst [.str "more", .ref D]) nt2)
                have z3 := z2.same (same_upd (o := .lst [.ref t1, .ref t2]) ntl)
                have f1 := same_upd (o := .lst [.ref t1, .ref t2]) ntl _ _ (same_upd (o := .lst [.str "more", .ref D]) nt2 _ _ (upd_same (a := t1) (o := .tup [.str "more", .ref D])))
                have f2 := same_upd (o := .lst [.ref t1, .ref t2]) ntl _ _ (upd_same (a := t2) (o := .lst [.str "more", .ref D]))
                have g1 := kF.1.ne nt1
                have g2 := z1.1.ne nt2
                refine ⟨b, tl, _, rfl, z3.1, z2.1.ne ntl, .of upd_same, (show 1 ≤ 2 by decide), (show 2 ≤ 10000 by decide), fun H' ir vr k hvr => ?_⟩
                have hPF := pF.keep (((Keep.of kF.1 (same_upd (o := .tup [.str "more", .ref D]) nt1)).same (same_upd (o := .lst [.str "more", .ref D]) nt2)).same (same_upd (o := .lst [.ref t1, .ref t2]) ntl) |>.trans k)
                have hvr := List.mem_of_getElem? hvr
                simp only [List.mem_cons, List.mem_nil_iff, or_false] at hvr
                rcases hvr with rfl | rfl
                · obtain ⟨D, hD⟩ := desc_of (K := K) (a := t1) wF hPF (.inr (.of (k.2 _ _ g1 f1)))
                  exact q H' _ D (z3.trans k) hD
                · obtain ⟨D, hD⟩ := desc_of (K := K) (a := t2) wF hPF (.inl (.of (k.2 _ _ g2 f2)))
                  exact q H' _ D (z3.trans k) hD
            · refine ⟨_, rfl, rfl, _, rfl, ite2 (fun hk => ?_) (fun hk => ?_)⟩
              · -- doubled
                refine ⟨_, rfl, l0, rfl, ⟨_, .of e2⟩, fun D hD => lc_mapS (k := true) (xs := nv c) (ys := nv (c.map fun n => 2 * n)) (.of e2) hD (by rw [nv_length, nv_length, List.length_map]) (by rw [nv_length]; omega) (fun i x y H' R hx hy m3 hR => ?_) (fun HF m3 eD => ?_)⟩
                · obtain ⟨n, e, rfl⟩ := nv_of hx
                  obtain ⟨n2, e5, rfl⟩ := nv_of hy
                  have := get_map e e5
                  subst this
                  have hn := elem_sum e
                  exact ⟨rfl, _, rfl, _, _, rfl, rfl, i64 (by decide) (by decide) (by omega) (by omega), hR _ (Same.refl _)⟩
                · have kF := k02.same m3
                  have hDb := k02.1.ne hD
                  have hdb : ∀ l : List Nat, (l.map fun n => 2 * n).sum = 2 * l.sum := fun l => by
                    induction l with
                    | nil => rfl
                    | cons x l ih => rw [List.map_cons, List.sum_cons, ih, List.sum_cons]; omega
                  have pF : PartsAt HF b ms (.ref D) := .inl ⟨D, _, rfl, hDb, eD, sumOk_nv (by rw [hdb]; omega) (by rw [List.length_map]; omega)⟩
                  have wF := wz
                  refine ⟨_, rfl, _, rfl, _, rfl, by show 2 ≤ sizeLine; decide, fun t1 nt1 => ⟨_, rfl, _, rfl, by show 2 ≤ sizeLine; decide, fun t2 nt2 => ⟨by show 2 ≤ sizeLine; decide, fun tl ntl => ?_⟩⟩⟩
                  have z1 := kF.same (same_upd (o := .tup [.str z, .ref D]) nt1)
                  have z2 := z1.same (same_upd (o := .lst [.str z, .ref D]) nt2)
                  have z3 := z2.same (same_upd (o := .lst [.ref t1, .ref t2]) ntl)
                  have f1 := same_upd (o := .lst [.ref t1, .ref t2]) ntl _ _ (same_upd (o := .lst [.str z, .ref D]) nt2 _ _ (upd_same (a := t1) (o := .tup [.str z, .ref D])))
                  have f2 := same_upd (o := .lst [.ref t1, .ref t2]) ntl _ _ (upd_same (a := t2) (o := .lst [.str z, .ref D]))
                  have g1 := kF.1.ne nt1
                  have g2 := z1.1.ne nt2
                  refine ⟨b, tl, _, rfl, z3.1, z2.1.ne ntl, .of upd_same, (show 1 ≤ 2 by decide), (show 2 ≤ 10000 by decide), fun H' ir vr k hvr => ?_⟩
                  have hPF := pF.keep (((Keep.of kF.1 (same_upd (o := .tup [.str z, .ref D]) nt1)).same (same_upd (o := .lst [.str z, .ref D]) nt2)).same (same_upd (o := .lst [.ref t1, .ref t2]) ntl) |>.trans k)
                  have hvr := List.mem_of_getElem? hvr
                  simp only [List.mem_cons, List.mem_nil_iff, or_false] at hvr
                  rcases hvr with rfl | rfl
                  · obtain ⟨D, hD⟩ := desc_of (K := K) (a := t1) wF hPF (.inr (.of (k.2 _ _ g1 f1)))
                    exact q H' _ D (z3.trans k) hD
                  · obtain ⟨D, hD⟩ := desc_of (K := K) (a := t2) wF hPF (.inl (.of (k.2 _ _ g2 f2)))
                    exact q H' _ D (z3.trans k) hD
              · have kF := k02
                have pF : PartsAt H2 b ms (.ref l0) := .inl ⟨l0, _, rfl, hl0b, e2, sumOk_nv (by omega) (by omega)⟩
                have wF := wz
                refine ⟨_, rfl, _, rfl, _, rfl, by show 2 ≤ sizeLine; decide, fun t1 nt1 => ⟨_, rfl, _, rfl, by show 2 ≤ sizeLine; decide, fun t2 nt2 => ⟨by show 2 ≤ sizeLine; decide, fun tl ntl => ?_⟩⟩⟩
                have z1 := kF.same (same_upd (o := .tup [.str z, .ref l0]) nt1)
                have z2 := z1.same (same_upd (o := .lst [.str z, .ref l0]) nt2)
                have z3 := z2.same (same_upd (o := .lst [.ref t1, .ref t2]) ntl)
                have f1 := same_upd (o := .lst [.ref t1, .ref t2]) ntl _ _ (same_upd (o := .lst [.str z, .ref l0]) nt2 _ _ (upd_same (a := t1) (o := .tup [.str z, .ref l0])))
                have f2 := same_upd (o := .lst [.ref t1, .ref t2]) ntl _ _ (upd_same (a := t2) (o := .lst [.str z, .ref l0]))
                have g1 := kF.1.ne nt1
                have g2 := z1.1.ne nt2
                refine ⟨b, tl, _, rfl, z3.1, z2.1.ne ntl, .of upd_same, (show 1 ≤ 2 by decide), (show 2 ≤ 10000 by decide), fun H' ir vr k hvr => ?_⟩
                have hPF := pF.keep (((Keep.of kF.1 (same_upd (o := .tup [.str z, .ref l0]) nt1)).same (same_upd (o := .lst [.str z, .ref l0]) nt2)).same (same_upd (o := .lst [.ref t1, .ref t2]) ntl) |>.trans k)
                have hvr := List.mem_of_getElem? hvr
                simp only [List.mem_cons, List.mem_nil_iff, or_false] at hvr
                rcases hvr with rfl | rfl
                · obtain ⟨D, hD⟩ := desc_of (K := K) (a := t1) wF hPF (.inr (.of (k.2 _ _ g1 f1)))
                  exact q H' _ D (z3.trans k) hD
                · obtain ⟨D, hD⟩ := desc_of (K := K) (a := t2) wF hPF (.inl (.of (k.2 _ _ g2 f2)))
                  exact q H' _ D (z3.trans k) hD
end
end W6
namespace W6
open PySem PySem.Spec PyProof.Rows L2
/-! ### defs that are called while nothing is being shown (repr of a list needs it): FnOk, fn_of, run_fn, law_call turned to that -/
structure FnOkG (P : Program) (w : World) (K : PySem.W.Frag) (mg : Str → Option Value) (base : Heap) (CX : CXT) (k : Nat) (f : Addr) (fd : FuncData) (ps : List Str) (sp : Sp) : Prop where
  len : ∀ vs H Q E, sp vs H Q E → vs.length = ps.length
  run : ∀ (A : Around) (outer : List Env) (s : Shared) (H : Hp) (args : Args) (us : List Value) (vs : List V) (Q : VK) (E : XK), Room k A → A.guards = some [] → Env0 P w K mg base A outer s H → BindsTo s fd args (ps.zip us) → Vals vs us → sp vs H Q E →
    codeAny (model P w) A (.call (.ref f) args) (CR CX outer P w H s Q E) s
theorem fn_ofG {CX : CXT} {P : Program} {w : World} {K : PySem.W.Frag} {mg : Str → Option Value} {base : Heap} {k : Nat} {f : Addr} {name qual : Str} {params : Arguments} {body : List Stmt} {scope : Scope} {dV kV doc pm cdv ct oc : Value} {an od : Option Addr}
    {osl : Array (Option Value)} {N ps : List Str} {sp : Sp} (lk : K.lookup f = some ⟨oc, od, .func (PySem.W.fnOf name qual params body scope dV kV doc pm an cdv ct), osl⟩) (hcd : PySem.W.codeIn K cdv qual = true) (S : FnScope N ps scope)
    (len : ∀ vs H Q E, sp vs H Q E → vs.length = ps.length)
    (hbody : ∀ (A : Around) (outer : List Env) (s : Shared) (H : Hp) (vs : List V) (Q : VK) (E : XK), Room k (A.deeper (envOfC qual scope s.heap.objs.size f cdv)) → A.guards = some [] → sp vs H Q E →
      ∃ t, PSs (cxOf CX P w K mg base N qual scope f cdv A outer s H E) body t ∧ t { nx := fun _ H' => Q .non H', rt := Q } (start N vs) H) :
    FnOkG P w K mg base CX (k + 1) f (PySem.W.fnOf name qual params body scope dV kV doc pm an cdv ct) ps sp := by
  refine ⟨len, fun A outer s H args us vs Q E hr hgu e0 hb r hsp => ?_⟩
  have hl := len _ _ _ _ hsp
  have KX : K.In s.heap := e0.mod.kin.keeps fun b o e => (e0.bs b o e).1
  have lim : s.heap.NoLimit := e0.mod.nolimit.keeps fun b o e => (e0.bs b o e).1
  have hkind : ∀ y ∈ ps.zip us, scope.names.lookup y.1 = some .local ∨ (scope.names.lookup y.1 = some .cell ∧ ((cellsFrom (s.heap.objs.size + 1) scope.names []).lookup y.1).isSome = true) := fun ⟨n, v⟩ hy => by
    rcases S.par n (List.of_mem_zip hy).1 with q | q
    · exact .inl q
    · exact .inr ⟨q, PySem.W.cellsFrom_some _ _ _ (.inl q)⟩
  refine codeAny_call_function hr.depth (KX _ _ lk) rfl S.co S.gen rfl (PySem.W.codeRec_of KX hcd) (hb _ _ _ _ ?_)
  refine wpAny_newFunctionEnv_cells S.kind hkind fun env he s1 x => ?_
  subst he
  refine ⟨lim.keeps x.toInCall.keep, codeAny_func ?_⟩
  obtain ⟨t, ht, hq⟩ := hbody A outer s H vs Q E (hr.deeper _) hgu hsp
  have I : Inv (cxOf CX P w K mg base N qual scope f cdv A outer s H E) [] (start N vs) H s1 := inv_start S hr.hd e0 hl r x
  refine wpAny_mono (ht.run [] s1 (start N vs) H _ I hq) (fun fl s' hs => ?_) fun e s' hs => hs
  have fin : ∀ {σ' : L2.St} {H' : Hp} {v : V} {u : Value}, Inv (cxOf CX P w K mg base N qual scope f cdv A outer s H E) [] σ' H' s' → RelV v u → Q v H' → CE outer P w H s Q u s' :=
    fun {σ' H' v u} J rv q => ⟨v, H', J.os, J.bare, J.base, J.hok, rv, q⟩
  cases fl with
  | ret u =>
    obtain ⟨v, σ', H', J, rv, q⟩ := hs
    exact fin J rv q
  | next =>
    obtain ⟨σ', H', J, q⟩ := hs
    exact fin (v := V.non) (u := Value.none) J rfl q
  | brk =>
    obtain ⟨_, _, _, q⟩ := hs
    exact False.elim q
  | cont =>
    obtain ⟨_, _, _, q⟩ := hs
    exact False.elim q
theorem FunD.okG {P : Program} {w : World} {K : PySem.W.Frag} {mg : Str → Option Value} {base : Heap} {x qual : Str} {params : Arguments} {body : List Stmt} {scope : Scope} {dvs : List V} {kws : List (Str × V)} {f : Addr} {fd : FuncData}
    {CX : CXT} {N ps : List Str} {k : Nat} {sp : Sp} (F : FunD K x qual params body scope dvs kws f fd) (S : FnScope N ps scope) (len : ∀ vs H Q E, sp vs H Q E → vs.length = ps.length)
    (hbody : ∀ (cdv : Value) (A : Around) (outer : List Env) (s : Shared) (H : Hp) (vs : List V) (Q : VK) (E : XK), Room k (A.deeper (envOfC qual scope s.heap.objs.size f cdv)) → A.guards = some [] → sp vs H Q E →
      ∃ t, PSs (cxOf CX P w K mg base N qual scope f cdv A outer s H E) body t ∧ t { nx := fun _ H' => Q .non H', rt := Q } (start N vs) H) : FnOkG P w K mg base CX (k + 1) f fd ps sp := by
  obtain ⟨oc, od, dV, kV, doc, pm, an, cdv, ct, osl, rfl, lk, hcd, _, _⟩ := F.ex
  exact fn_ofG lk hcd S len fun A outer s H vs Q E hr hg hsp => hbody cdv A outer s H vs Q E hr hg hsp
section
variable {X : Cx} {CX : CXT} {k : Nat} {f : Addr} {fd : FuncData} {ps : List Str} {sp : Sp} {E : XK} {x : Str} {p pos : Pos} {e : Expr} {es : List Expr} {t : TA}
theorem pe_callG (F : FnOkG X.prog X.w X.K X.mg X.base CX k f fd ps sp) (hr : Room k X.A) (hgu : X.A.guards = some []) (hg : Gl X x) (hm : X.mg x = some (.ref f)) (hk : PySem.W.keepIn X.K (.ref f) = true) (hb : Binds X.K fd ps []) (hx : Passes CX X E)
    (ha : PA X (e :: es) t) (hdb : (x == ("__debug__" : Str)) = false := by decide) (he : starEach (e :: es) X.env = (false, eval e X.env) :: starEach es X.env := by rfl) (hpl : (backTo pos (starEach es X.env)).any (·.1) = false := by rfl) :
    PE X (.Call (.Name x p) (e :: es) [] pos) (tCall sp [] E t) := by
  refine ⟨fun pins s σ H Q I h => ?_⟩
  refine wpAny_Call_Name_kw (ld_glob I hg hm ?_ hdb)
  refine PySem.W.callWith_K (h₀ := X.base) I.ok.mod.kin hk (thn (ha.run pos pins s σ H _ I h) fun us s1 ⟨vs, H1, I1, r, q⟩ => ⟨I1.kIn, ?_⟩) he hpl
  have q2 : sp (vs ++ []) H1 Q E := q
  rw [List.append_nil] at q2
  have hl : (us ++ []).length = ps.length := by rw [List.append_nil, ← r.length]; exact F.len _ _ _ _ q2
  have hbb := hb s1 us I1.kIn hl
  rw [List.append_nil] at hbb
  refine wpAny_call (codeAny_mono (F.run X.A X.stack s1 H1 ⟨us, []⟩ us vs Q E hr hgu I1.env0 hbb r q2) fun r s' hq => ?_)
  cases r with
  | error e => exact hx pins σ H1 s1 e s' I1 hq
  | ok fl =>
    cases fl with
    | ret u => exact I1.after hq
    | next => exact False.elim hq
    | brk => exact False.elim hq
    | cont => exact False.elim hq
end
theorem law_callG {P : Program} {w : World} {K : PySem.W.Frag} {mg mb : Str → Option Value} {CX : CXT} {k : Nat} {fa a : Addr} {fd : FuncData} {x : Str} {sp : Sp} {s₁ : Shared} {vs : List Value} {ns : List Int}
    (KX : K.In s₁.heap) (hns : s₁.heap.Ns mainGlobals mg) (hb : s₁.heap.Ns builtinsNs mb) (hbb : ∀ x : Str, x ≠ "__name__" → mb x = bootBuiltins x) (hlim : s₁.heap.NoLimit) (hg : s₁.gens = #[])
    (ha : s₁.heap.get? a = some { cls := .type "list", data := .seq vs.toArray }) (hi : IntsAre vs ns) (hl : ns.length ≤ sizeLine) (hr : Room k callerA)
    (F : ∀ base : Heap, K.In base → base.Ns mainGlobals mg → FnOkG P w K mg base CX k fa fd [x] sp) (hbind : ∀ (s : Shared) (u : Value), BindsTo s fd ⟨[u], []⟩ [(x, u)])
    (hsp : ∀ H : Hp, Only H → SqL K H a (ns.map V.int) → sp [.ref a] H (fun v _ => v = .bl true) fun _ _ _ => False)
    (hCX : ∀ H e s', CX [] H s₁ (fun _ _ _ => False) e s' → False) :
    codeAny (model P w) callerA (.call (.ref fa) ⟨[.ref a], []⟩) (fun r s' => r = .ok (.ret (.bool true)) ∧ OldK s₁.heap s'.heap ∧ s'.os = s₁.os ∧ AllBare s'.gens) s₁ := by
  have rv := vals_ints hi
  have lenV := hi.length
  have core : ∀ H : Hp, Only H → SqL K H a (ns.map V.int) → HOk P w H s₁.heap → (∀ b, H b ≠ none → b = a) → (H a ≠ none → K.lookup a = none) →
      codeAny (model P w) callerA (.call (.ref fa) ⟨[.ref a], []⟩) (fun r s' => r = .ok (.ret (.bool true)) ∧ OldK s₁.heap s'.heap ∧ s'.os = s₁.os ∧ AllBare s'.gens) s₁ := by
    intro H hO hS hok hA hK
    have base_of : ∀ {b : Addr} {o : Obj}, s₁.heap.get? b = some o → H b = none → (hidT s₁.heap H).get? b = some o := fun e n => hidT_get e n
    have noA : ∀ {b : Addr} {o : Obj} {es : Array DictEntry} {ep : Nat}, s₁.heap.get? b = some o → o.data = .dict es ep → H b = none := fun {b o es ep} e d => by
      cases q : H b with
      | none => rfl
      | some u =>
        have e' : b = a := hA b (by rw [q]; simp)
        subst e'
        rw [ha] at e; cases e
        have d' : Data.seq vs.toArray _ = Data.dict es ep := d
        cases d'
    have nsK : ∀ {b : Addr} {m : Str → Option Value}, s₁.heap.Ns b m → (hidT s₁.heap H).Ns b m := fun {b m} ⟨o, es, ep, e, d, r⟩ => ⟨o, es, ep, base_of e (noA e d), d, r⟩
    have hKb : K.In (hidT s₁.heap H) := fun b o e => base_of (KX b o e) (by
      cases q : H b with
      | none => rfl
      | some u =>
        have e' : b = a := hA b (by rw [q]; simp)
        subst e'
        rw [hK (by rw [q]; simp)] at e; cases e)
    have hM : Mod K mg (hidT s₁.heap H) := ⟨hKb, nsK hns, ⟨mb, nsK hb, hbb⟩, let ⟨mc, h1, h2⟩ := hlim; ⟨mc, nsK h1, h2⟩⟩
    have e0 : Env0 P w K mg (hidT s₁.heap H) callerA [] s₁ H := ⟨rfl, hM, fun b o e => of_hidT e, Nat.le_of_eq (hidT_size _ _), trivial, fun b hb => absurd (show b ∈ ([] : List Addr) from hb) (by simp), hok, .of_eq hg⟩
    refine codeAny_mono ((F _ hKb (nsK hns)).run callerA [] s₁ H ⟨[.ref a], []⟩ [.ref a] [.ref a] _ _ hr rfl e0 (hbind s₁ (.ref a)) (.cons rfl .nil) (hsp H hO hS)) fun r s' h => ?_
    cases r with
    | error e => exact (hCX H e s' h).elim
    | ok fl =>
      cases fl with
      | next => exact False.elim h
      | brk => exact False.elim h
      | cont => exact False.elim h
      | ret u =>
        obtain ⟨v, H', os, bare, un, hok', r', q⟩ := h
        have q' : v = .bl true := q
        subst q'
        obtain rfl : u = Value.bool true := r'
        refine ⟨rfl, OldK.of_keep fun b o e => ?_, os, bare⟩
        cases q : H b with
        | none => exact un.keep b o e q (by intro z; exact absurd (show b ∈ ([] : List Addr) from z) (by simp)) (by simp)
        | some u =>
          rcases hO b with z | ⟨ob, xs, z⟩
          · rw [q] at z; cases z
          · have z2 := un.frzs b ob _ z
            obtain ⟨e1, _⟩ := hok b _ z
            obtain ⟨e2, _⟩ := hok' b _ z2
            rw [e] at e1; cases e1
            exact e2
  cases hk : K.lookup a with
  | some o =>
    have e := KX a o hk
    rw [ha] at e
    cases e
    refine core (fun _ => none) (fun _ => .inl rfl) (.inr ⟨_, vs.toArray, _, hk, rfl, rfl, rfl, by rw [List.size_toArray, lenV]; exact hl, by simpa using rv⟩) (fun b u z => by have z' : (none : Option HO) = some u := z; cases z') (fun b z => absurd rfl z) fun z => absurd rfl z
  | none =>
    refine core (fun b => if b = a then some (.frz { cls := .type "list", data := .seq vs.toArray } (.lst (ns.map V.int))) else none) (fun b => ?_) (.inl (.inr ⟨{ cls := .type "list", data := .seq vs.toArray }, if_pos rfl⟩)) (fun b u z => ?_) (fun b z => ?_) fun _ => hk
    · by_cases hb : b = a
      · exact .inr ⟨_, _, if_pos hb⟩
      · exact .inl (if_neg hb)
    · by_cases hb : b = a
      · have z' := (if_pos hb).symm.trans z
        cases z'
        subst hb
        exact ⟨ha, by rw [List.length_map]; exact hl, vs, _, rv, ha⟩
      · have z' := (if_neg hb).symm.trans z
        cases z'
    · by_cases hb : b = a
      · exact hb
      · exact absurd (if_neg hb) z
theorem walk_ofG {l : PySem.W.OpenLaw} {n k : Nat} {q : Program} {loose : List Str} {XP : (Str → Option Value) → Heap → Prop} {YP : World → Heap → Prop} {d : DefRec} {CX : CXT} {x : Str}
    (hn : l.most = some n) (hn2 : n ≤ sizeLine) (hdf : d.params.defaults = []) (hr : Room k callerA)
    (F : ∀ (w : World) (mg : Str → Option Value) (fa : Addr) (h : Heap), YP w h → h.Ns mainGlobals mg → mg d.name = some (.ref fa) →
      ∃ (K : PySem.W.Frag) (fd : FuncData) (sp : Sp), K.In h ∧ (∀ (s : Shared) (u : Value), BindsTo s fd ⟨[u], []⟩ [(x, u)]) ∧
        (∀ (H : Hp) (a : Addr) (ns : List Int), ns.length ≤ n → Only H → SqL K H a (ns.map V.int) → sp [.ref a] H (fun v _ => v = .bl true) fun _ _ _ => False) ∧
        ∀ base : Heap, K.In base → base.Ns mainGlobals mg → FnOkG l.prog w K mg base CX k fa fd [x] sp)
    (hCX : ∀ (H : Hp) (s : Shared) (e : Value) (s' : Shared), CX [] H s (fun _ _ _ => False) e s' → False) :
    PySem.W.WalkO q loose XP YP l.row.toRowW d [] (fun f vs => PySem.call f vs) := by
  refine Att.attach_call hn hdf fun w s₀ s₁ mg mb fa o pm cd doc a vs ns G Y ho hd hcd hmg hobj hints hlen hg => ?_
  obtain ⟨K, fd, sp, KX, hb, hsp, hF⟩ := F w mg fa _ Y G.T.g hmg
  exact law_callG KX G.T.g G.T.b G.T.builtins G.T.nolimit hg hobj hints (Nat.le_trans hlen hn2) hr hF hb (fun H hO hS => hsp H a ns hlen hO hS) fun H e s' => hCX H s₁ e s'
end W6
namespace W6
open PySem PySem.Spec PyProof.Rows L2 K6
/-! ### fractions rounded up -/
theorem cdv_bounds {a b : Nat} (hb : 0 < b) : 0 ≤ cdv a b ∧ cdv a b ≤ a := by
  unfold cdv
  have h0 : (b : Int) ≠ 0 := by omega
  have h1 : (0 : Int) < b := by omega
  constructor
  · have : (-(a : Int)) / (b : Int) ≤ 0 := by
      have := Int.ediv_le_ediv h1 (show (-(a : Int)) ≤ 0 by omega)
      rw [Int.zero_ediv] at this
      exact this
    omega
  · have : -(a : Int) ≤ (-(a : Int)) / (b : Int) := by
      rw [Int.le_ediv_iff_mul_le h1]
      have h2 : (a : Int) * 1 ≤ (a : Int) * (b : Int) := Int.mul_le_mul_of_nonneg_left (by omega) (by omega)
      rw [Int.neg_mul]
      omega
    omega
theorem cdv_mono {n d f g : Nat} (hf : 0 < f) (hg : 0 < g) (h : n * g ≤ d * f) : cdv n f ≤ cdv d g := by
  unfold cdv
  have h1 : (0 : Int) < f := by omega
  have h2 : (0 : Int) < g := by omega
  have key : (-(d : Int)) / (g : Int) ≤ (-(n : Int)) / (f : Int) := by
    rw [Int.le_ediv_iff_mul_le h1]
    have h3 : (-(d : Int)) / (g : Int) * (g : Int) ≤ -(d : Int) := Int.ediv_mul_le _ (by omega)
    generalize (-(d : Int)) / (g : Int) = q at *
    have h4 : q * (g : Int) * (f : Int) ≤ -(d : Int) * (f : Int) := Int.mul_le_mul_of_nonneg_right h3 (by omega)
    have h5 : (n : Int) * (g : Int) ≤ (d : Int) * (f : Int) := by exact_mod_cast h
    have h6 : q * (f : Int) * (g : Int) ≤ -(n : Int) * (g : Int) := by
      rw [Int.mul_right_comm]
      rw [Int.neg_mul] at h4 ⊢
      omega
    exact Int.le_of_mul_le_mul_right h6 h2
  omega
theorem cdv_bits {a b : Nat} (hb : 0 < b) (ha : a < 2 ^ 62) : (cdv a b).natAbs.log2 < 62 := by
  have h := cdv_bounds (a := a) hb
  exact PySem.Flt.log2_lt_of (by decide) (by omega)
/-! ### what repr shows -/
theorem int_shown {i : Int} (h : i.natAbs.log2 < 62) : PyData.showable (.int i) = true ∧ (PyData.shown (.int i)).length ≤ 1921 := ⟨decide_eq_true (by omega), PyProof.Rows.int_text_len_1921 (by omega)⟩
theorem two_shown {a b : Int} (ha : a.natAbs.log2 < 62) (hb : b.natAbs.log2 < 62) : PyData.showable (.list [.int a, .int b]) = true ∧ (PyData.shown (.list [.int a, .int b])).length ≤ sizeLine ∧ PyData.showable (.tuple [.int a, .int b]) = true ∧ (PyData.shown (.tuple [.int a, .int b])).length ≤ 4000 := by
  obtain ⟨a1, a2⟩ := int_shown ha
  obtain ⟨b1, b2⟩ := int_shown hb
  have big : (100000 : Nat) ≤ sizeLine := by decide
  have h1 := listText_len_le [PyData.shown (.int a), PyData.shown (.int b)]
  have h2 := tupleText_len_le [PyData.shown (.int a), PyData.shown (.int b)]
  simp only [List.map_cons, List.map_nil, List.sum_cons, List.sum_nil, List.length_cons, List.length_nil] at h1 h2
  refine ⟨?_, ?_, ?_, ?_⟩
  · show (PyData.showable (.int a) && (PyData.showable (.int b) && true)) = true
    rw [a1, b1]
    rfl
  · show (listText [PyData.shown (.int a), PyData.shown (.int b)]).length ≤ _
    omega
  · show (PyData.showable (.int a) && (PyData.showable (.int b) && true)) = true
    rw [a1, b1]
    rfl
  · show (tupleText [PyData.shown (.int a), PyData.shown (.int b)]).length ≤ _
    omega
theorem tell_shown {a b : Int} (ha : a.natAbs.log2 < 62) (hb : b.natAbs.log2 < 62) : PyData.showable (.tuple [.str "tells", .tuple [.int a, .int b]]) = true ∧ (PyData.shown (.tuple [.str "tells", .tuple [.int a, .int b]])).length ≤ sizeLine := by
  obtain ⟨_, _, h1, h2⟩ := two_shown ha hb
  have big : (100000 : Nat) ≤ sizeLine := by decide
  have h3 := tupleText_len_le [PyData.shown (.str "tells"), PyData.shown (.tuple [.int a, .int b])]
  have h4 : (PyData.shown (.str "tells")).length = 7 := by decide +kernel
  simp only [List.map_cons, List.map_nil, List.sum_cons, List.sum_nil, List.length_cons, List.length_nil] at h3
  refine ⟨?_, ?_⟩
  · show (true && (PyData.showable (.tuple [.int a, .int b]) && true)) = true
    rw [h1]
    rfl
  · show (tupleText [PyData.shown (.str "tells"), PyData.shown (.tuple [.int a, .int b])]).length ≤ _
    omega
/-! ### the share is small -/
theorem share_small {ms : List Nat} (h : Dom ms) (hf : fits ms = true) : shareT ms + shareB ms ≤ 1100 := by
  have hm := h.mks
  have h7 : ∀ m ∈ ms, m ∣ 420 := by
    rcases h with ⟨_, _, h3⟩ | rfl | rfl | rfl
    · intro m hmm
      obtain ⟨h1, h2⟩ := h3 m hmm
      match m, h1, h2 with
      | 1, _, _ => decide
      | 2, _, _ => decide
      | 3, _, _ => decide
      | 4, _, _ => decide
      | 5, _, _ => decide
      | 6, _, _ => decide
      | 7, _, _ => decide
    · exact absurd hf (by decide)
    · exact absurd hf (by decide)
    · exact absurd hf (by decide)
  have h1 : lcmL ms ∣ 420 := fold_least ms 1 420 (Nat.one_dvd _) h7
  have h2 : lcmL ms ≤ 420 := Nat.le_of_dvd (by decide) h1
  have h3 : shareB ms ≤ lcmL ms := Nat.div_le_self _ _
  have h4 := (share_prod hm.pos hm.ne).2.2
  rw [hf] at h4
  have h5 := of_decide_eq_true h4
  omega
end W6
namespace W6
open PySem PySem.Spec PyProof.Rows L2 K6
/-! ### isinstance of the error in hand, whatever it is -/
def rIsD (K : PySem.W.Frag) (D a : Addr) (cls : Value) (d : Option Addr) : List V → Hp → VK → Prop := fun xs H Q => cls = .ref D ∧ (∃ dd fs, d = some dd ∧ H dd = some (.xd fs)) ∧ rIsE K D a xs H Q
theorem call_isD2 {X : Cx} {a D : Addr} {cls : Value} {d : Option Addr} {oe : Obj} {pn : List (Addr × Obj)} (C : ExcC X.K D) (hz : Zc cls d oe) (hf : ∃ vs, oe.data = .fields vs) :
    CallR (X.suite a ((a, oe) :: pn)) (.builtin "isinstance") (rIsD X.K D a cls d) := by
  intro pins s σ H xs us Q I r h
  obtain ⟨rfl, ⟨dd, fs, rfl, e⟩, h⟩ := h
  exact call_isD (pn := pn) C hz hf pins s σ H xs us Q I r ⟨⟨fs, e⟩, h⟩
def tTryAs (K : PySem.W.Frag) (c : Value) (i : Nat) (tb : WX → TS) (ts : Addr → Value → Option Addr → TS) (Wout : WX) : TS := fun D σ H => tb (wAs K c i ts Wout D) D σ H
theorem ps_try_asD {X : Cx} {x n : Str} {c : Value} {i : Nat} {body suite : List Stmt} {b₀ : Stmt} {np pos pos' : Pos} {tb : WX → TS} {ts : Addr → Value → Option Addr → TS} {Wout : WX} (hs : X.stack = X.env :: X.outer) (hf : X.env.frame = some X.env.locals) (hN : X.N.Nodup) (hi : X.N[i]? = some n) (hln : X.env.kindOf n = some .local) (hc : Names X x c) (tk : Takes X Wout)
    (hb : ∀ (W : WX) (pn : List (Addr × Obj)) (xe : Value → Shared → Prop), Takes (X.tr pn xe) W → PassesOwn (model X.prog X.w) X.A X.env xe → PSs (X.tr pn xe) body (tb W))
    (hsu : ∀ (a : Addr) (oe : Obj) (cls : Value) (d : Option Addr) (pn : List (Addr × Obj)), Zc cls d oe → (∃ vs, oe.data = .fields vs) → PSs (X.suite a ((a, oe) :: pn)) (b₀ :: suite) (ts a cls d)) :
    PS X (.Try body [.ExceptHandler (some (.Name x np)) (some n) (b₀ :: suite) pos'] [] [] pos) (tTryAs X.K c i tb ts Wout) := ps_try_as hs hf hN hi hln hc tk hb hsu
def askS (K : PySem.W.Frag) : Addr → Sp → (List V → List V → List V) → Prop := fun f sp gV => (f = He.ga K "least_failing" ∧ sp = spLeast K ∧ gV = apV) ∨ (f = He.ga K "court_paper" ∧ sp = spPaper K ∧ gV = apV)
def fewN (r : Nat) : Nat := if r = 2 then 24 else if r = 3 then 12 else 8
theorem few_get {r : Nat} (h2 : 2 ≤ r) (h4 : r ≤ 4) : ([V.int 0, .int 0, .int 24, .int 12, .int 8])[r]? = some (.int (fewN r : Nat)) := by
  match r, h2, h4 with
  | 2, _, _ => rfl
  | 3, _, _ => rfl
  | 4, _, _ => rfl
theorem few_le (r : Nat) : 8 ≤ fewN r ∧ fewN r ≤ 24 := by
  unfold fewN
  split
  · decide
  · split <;> decide
/-- what the search for the least failing length needs -/
def Good (ms : List Nat) : Prop := Dom ms ∧ (fits ms = false → ∃ t, Told ms t ∧ 2 ≤ t ∧ t ≤ 1100 ∧ crowded ms t = true)
def spCase (K : PySem.W.Frag) : Sp := fun vs H Q _ => ∃ b a ms, vs = [.ref b, .ref a] ∧ BoxAt H b ∧ a ≠ b ∧ H a = some (.lst (nv ms)) ∧ Good ms ∧ ∀ H', Keep b H H' → Q (.bl true) H'
theorem HandsAt.keep {K : PySem.W.Frag} {b : Addr} {H H' : Hp} {x : Addr} {ms : List Nat} (k : Keep b H H') (hb : BoxAt H b) (h : HandsAt K H x ms) : HandsAt K H' x ms := by
  obtain ⟨dx, t, h1, h2⟩ := h
  obtain ⟨g, r, h3, _⟩ := hb
  exact ⟨dx, t, k.2 _ _ (fun z => by rw [z, h3] at h1; cases h1) h1, k.2 _ _ (fun z => by rw [z, h3] at h2; cases h2) h2⟩
theorem PaperAt.keep {b : Addr} {H H' : Hp} {p : Addr} {z : Str} {c : List Nat} (k : Keep b H H') (hb : BoxAt H b) (h : PaperAt H p z c) : PaperAt H' p z c := by
  obtain ⟨q, h1, h2⟩ := h
  obtain ⟨g, r, h3, _⟩ := hb
  exact ⟨q, k.2 _ _ (fun z => by rw [z, h3] at h1; cases h1) h1, k.2 _ _ (fun z => by rw [z, h3] at h2; cases h2) h2⟩
theorem PaperAt.same {H H' : Hp} {p : Addr} {z : Str} {c : List Nat} (k : Same H H') (h : PaperAt H p z c) : PaperAt H' p z c := by
  obtain ⟨q, h1, h2⟩ := h
  exact ⟨q, k _ _ h1, k _ _ h2⟩
theorem paper_desc {K : PySem.W.Frag} {H : Hp} {p : Addr} {z : Str} {ms c : List Nat} (h : PaperAt H p z c) (hz : z = "tells" ∨ z = "more") (hl : c.length ≤ 4) (hs : c.sum ≤ 1100) : DescAt K H ms (.ref p) (.pair false (.str z) (nv c)) := by
  obtain ⟨q, h1, h2⟩ := h
  refine ⟨p, q, rfl, .inr (.of h1), ?_, .of h2, nv_parts c, by rw [nv_length]; omega, fun d e _ _ => by rw [← nv_inj e]; omega⟩
  rcases hz with rfl | rfl
  · decide +kernel
  · decide +kernel
theorem nv_num : ∀ c : List Nat, (nv c).map numOf = c
  | [] => rfl
  | x :: c => by
    show (x : Int).toNat :: (nv c).map numOf = _
    rw [nv_num c]
    rfl
theorem nv_allN : ∀ c : List Nat, allN (nv c) = true
  | [] => rfl
  | x :: c => by
    show (decide (0 ≤ (x : Int)) && allN (nv c)) = true
    rw [nv_allN c, decide_eq_true (by omega)]
    rfl
theorem held_tells {ms : List Nat} (hf : fits ms = true) : heldD ms (.pair false (.str "tells") (nv [shareT ms, shareB ms])) = true := by
  show (allN (nv [shareT ms, shareB ms]) && (if V.str "tells" = .str "tells" then fits ms && decide ((nv [shareT ms, shareB ms]).map numOf = [shareT ms, shareB ms]) else if V.str "tells" = .str "more" then moreD ms ((nv [shareT ms, shareB ms]).map numOf) else false)) = true
  rw [nv_allN, if_pos rfl, hf, nv_num, decide_eq_true rfl]
  rfl
theorem held_more {ms : List Nat} {t : Nat} (hm : Mks ms) (told : Told ms t) (ht : t ≤ 1100) : heldD ms (.pair false (.str "more") (nv (dear ms t))) = true := by
  show (allN (nv (dear ms t)) && (if V.str "more" = .str "tells" then fits ms && decide ((nv (dear ms t)).map numOf = [shareT ms, shareB ms]) else if V.str "more" = .str "more" then moreD ms ((nv (dear ms t)).map numOf) else false)) = true
  rw [nv_allN, if_neg (by decide +kernel), if_pos rfl, nv_num]
  unfold moreD
  rw [dear_length, dear_sum hm.ne, decide_eq_true rfl, decide_eq_true (by omega)]
  exact told.at_
theorem sc_law_case_right : FnScope ["_law_box_here", "_law_marks_here", "_law_hands", "_law_few", "_law_least_here", "_law_paper", "_law_told", "_law_between", "_law_ask", "fault", "_law_turn", "_law_value", "_law_length", "_law_due", "_law_counts_here"] ["_law_box_here", "_law_marks_here"] (defScope (topS 55)) := ⟨rfl, rfl, rfl, by decide +kernel, rfl, by decide +kernel, by decide +kernel⟩
theorem skip_told {l4 : V} {t : Nat} {σ : St} {H : Hp} {R : Bool → Hp → Prop} (h4 : σ[4]? = some (some l4)) (h6 : σ[6]? = some (some (.int (t : Int)))) (hl : l4 = .int (t : Int) ∨ l4 = .non) (h : R false H) :
    if (!decide (l4 = .non)) = true then tTest (tOp rNe (tVar 6) (tVar 4)) σ H R else R false H := by
  rcases hl with rfl | rfl
  · rw [show (!decide (V.int (t : Int) = .non)) = true from rfl]
    refine iteT ⟨_, h6, _, h4, rfl, false, ?_, h⟩
    rw [decide_eq_true rfl]
    rfl
  · exact iteF h
section
variable {P : Program} {w : World} {K : PySem.W.Frag} {mg : Str → Option Value} {base : Heap}
theorem ok_case (T : Tx P K mg) : ∃ fd, FnOkG P w K mg base CX0 7 (He.ga K "_law_case_right") fd ["_law_box_here", "_law_marks_here"] (spCase K) ∧ Binds K fd ["_law_box_here", "_law_marks_here"] [] := by
  have O_law_least := ok_least (P := P) (w := w) (base := base) T
  have O_law_fits := ok_fits (P := P) (w := w) (base := base) T
  have O_law_share := ok_shareL (P := P) (w := w) (base := base) T
  have O_law_take := ok_take (P := P) (w := w) (base := base) T
  have O_law_is_crowded := ok_crowded (P := P) (w := w) (base := base) T
  have O_law_held := ok_held (P := P) (w := w) (base := base) T
  have O_law_bent := ok_bent (P := P) (w := w) (base := base) T
  have O_law_counts := ok_counts (P := P) (w := w) (base := base) T
  have O_law_orders := ok_orders (P := P) (w := w) (base := base) T
  have O_law_fillings := ok_fillings (P := P) (w := w) (base := base) T
  have O2h := ok_court_holds (P := P) (w := w) (base := base) T
  have O_court_holds := O2h.ok
  have O2b := ok_crowd_bound (P := P) (w := w) (base := base) T
  have O_crowd_bound := O2b.ok
  obtain ⟨⟨_, FH, _, _, kH⟩, gCh, kpH⟩ := O2h
  obtain ⟨⟨_, FB, _, _, kB⟩, gCb, kpB⟩ := O2b
  obtain ⟨_, FI, bI⟩ := ok_init (P := P) (w := w) (base := base) T
  obtain ⟨⟨_, FL, ⟨_, rL, bL⟩, k0L, k1L⟩, gLf, kpL⟩ := ok_least_failing (P := P) (w := w) (base := base) T
  obtain ⟨⟨_, FP, ⟨_, rP, bP⟩, k0P, k1P⟩, gCp, kpP⟩ := ok_court_paper (P := P) (w := w) (base := base) T
  have hA : ∀ f sp gV, askS K f sp gV → HeldN P w K mg base (L2.CX P w) 6 1 ["most"] f sp gV := fun f sp gV h => by
    rcases h with ⟨rfl, rfl, rfl⟩ | ⟨rfl, rfl, rfl⟩
    · exact ⟨_, _, _, FL, kpL, k1L⟩
    · exact ⟨_, _, _, FP, kpP, k1P⟩
  obtain ⟨fd, F⟩ := T.d_law_case_right.fn
  refine ⟨fd, FunD.okG F sc_law_case_right (fun vs H Q E h => ?_) (fun cdval A outer s H vs Q E hr hgu h => ?_), F.bindsN (fun _ _ _ _ _ _ us hl => match us, hl with | [_, _], _ => rfl)⟩
  · obtain ⟨b, a, ms, rfl, _⟩ := h
    rfl
  · obtain ⟨b, a, ms, rfl, hb, hab, eA, hgood, q⟩ := h
    obtain ⟨hdom, hgood⟩ := hgood
    have hm := hdom.mks
    have h2 := hm.1
    have h4 := hm.2.1
    obtain ⟨f8, f24⟩ := few_le ms.length
    refine ⟨_, PSs.nox (pss_cons (ps_par (i := 2) (j := 3) (by rfl) sc_law_case_right.nd rfl rfl (by decide) rfl rfl (pa_cons (pe_make T.mkH FI (hr.mono (by decide)) (by rfl) T.gH bI .nil pass0 (pa_cons (pv 1) pa_nil)) (pa_cons (pe_ix ix_seq (pe_lst (pa_cons pe_int (pa_cons pe_int (pa_cons pe_int (pa_cons pe_int (pa_cons pe_int pa_nil)))))) (pe_callB call_len (by rfl) T.n_len b_len (pa_cons (pv 1) pa_nil)) (fun _ _ => rfl)) pa_nil)) (by rfl))
      (pss_cons (ps_set (i := 4) sc_law_case_right.nd rfl (.inl rfl) (pe_f O_law_least (hr.mono (by decide)) pass0 (pa_cons (pv 1) (pa_cons (pv 3) pa_nil))))
      (pss_cons (ps_if (pt_val (pe_f O_law_fits (hr.mono (by decide)) pass0 (pa_cons (pv 1) pa_nil))) (pss_cons (ps_if (PW.pt (pw_or (pt_cmpR op_notN (pv 4) pe_non (nomark _)) (pw_or (pt_cmpR op_notN (pe_call FL (hr.mono (by decide)) (by rfl) gLf kpL bL rL passN (pa_cons (pv 2) pa_nil)) pe_non (nomark _)) (pw_or1 (pt_cmpR op_ne (pe_callB (call_reprD hgu hr.units) (by rfl) T.n_repr b_repr (pa_cons (pe_call FP (hr.mono (by decide)) (by rfl) gCp kpP bP rP passN (pa_cons (pv 2) pa_nil)) pa_nil)) (pe_callB (call_reprD hgu hr.units) (by rfl) T.n_repr b_repr (pa_cons (pe_tup (pa_cons pe_str (pa_cons (pe_f O_law_share (hr.mono (by decide)) pass0 (pa_cons (pv 1) pa_nil)) pa_nil))) pa_nil)) (nomark _)))))) (pss_one (ps_ret pe_bl)) pss_nil)
      (pss_one (ps_set (i := 5) sc_law_case_right.nd rfl (.inl rfl) (pe_tup (pa_cons pe_str (pa_cons (pe_f O_law_share (hr.mono (by decide)) pass0 (pa_cons (pv 1) pa_nil)) pa_nil)))))) (pss_cons (ps_set (i := 6) sc_law_case_right.nd rfl (.inl rfl) (pe_callN0 FL (hr.mono (by decide)) (by rfl) gLf kpL k0L passN (pk_cons (pv 2) (pk_cons pe_int pk_nil))))
      (pss_cons (ps_if (PW.pt (pw_or (pt_cmpR op_ne (pe_cmpR op_notN (pv 4) pe_non (nomark _)) (pe_cmpR op_le (pv 6) (pv 3) (nomark _)) (nomark _)) (pw_or1 (PW.pt (pw_and (pt_cmpR op_notN (pv 4) pe_non (nomark _)) (pw_and1 (pt_cmpR op_ne (pv 6) (pv 4) (nomark _)))))))) (pss_one (ps_ret pe_bl)) pss_nil)
      (pss_cons (ps_if (PW.pt (pw_or (pt_cmpR op_lt (pv 6) pe_int (nomark _)) (pw_or1 (pt_cmpR op_eq (pe_f O_law_take (hr.mono (by decide)) pass0 (pa_cons (pv 0) (pa_cons pe_int pa_nil))) pe_int (nomark _))))) (pss_cons (ps_set (i := 7) sc_law_case_right.nd rfl (.inl rfl) (pe_op op_add (pv 3) (pe_f O_law_take (hr.mono (by decide)) pass0 (pa_cons (pv 0) (pa_cons (pe_callB (call_max2 (by rfl)) (by rfl) T.n_max b_max (pa_cons pe_int (pa_cons (pe_op op_sub (pv 6) (pv 3)) pa_nil))) pa_nil)))))
      (pss_one (ps_if (PW.pt (pw_or (pt_val (pe_f O_law_is_crowded (hr.mono (by decide)) pass0 (pa_cons (pv 1) (pa_cons (pe_callB (call_min2 (by rfl)) (by rfl) T.n_min b_min (pa_cons (pv 7) (pa_cons (pe_op op_sub (pv 6) pe_int) pa_nil))) pa_nil)))) (pw_or (pt_val (pe_f O_law_is_crowded (hr.mono (by decide)) pass0 (pa_cons (pv 1) (pa_cons (pe_op op_sub (pv 6) pe_int) pa_nil)))) (pw_or1 (pt_not (pt_val (pe_f O_law_is_crowded (hr.mono (by decide)) pass0 (pa_cons (pv 1) (pa_cons (pv 6) pa_nil))))))))) (pss_one (ps_ret pe_bl)) pss_nil))) pss_nil)
      (pss_cons (ps_set (i := 5) sc_law_case_right.nd rfl (.inl rfl) (pe_callN FP (hr.mono (by decide)) (by rfl) gCp kpP k1P passN (pa_cons (pv 2) pa_nil) (pk_cons pe_int pk_nil)))
      (pss_cons (ps_if (PW.pt (pw_or (pt_not (pt_val (pe_callB call_isi (by rfl) T.n_isinstance b_isinstance (pa_cons (pv 5) (pa_cons (pe_bltn (v := .ty "tuple") (by rfl) T.n_tuple b_tuple rfl) pa_nil))))) (pw_or (pt_cmpR op_ne (pe_ix ix_seq (pv 5) pe_int (fun _ _ => rfl)) pe_str (nomark _)) (pw_or (pt_not (pt_val (pe_callB call_isi (by rfl) T.n_isinstance b_isinstance (pa_cons (pe_ix ix_seq (pv 5) pe_int (fun _ _ => rfl)) (pa_cons (pe_bltn (v := .ty "tuple") (by rfl) T.n_tuple b_tuple rfl) pa_nil))))) (pw_or1 (pt_cmpR op_ne (pe_callB (cr_sumS (by rfl)) (by rfl) T.n_sum b_sum (pa_cons (pe_ix ix_seq (pv 5) pe_int (fun _ _ => rfl)) pa_nil)) (pv 6) (nomark _))))))) (pss_one (ps_ret pe_bl)) pss_nil)
      (pss_cons (ps_if (PW.pt (pw_or (pt_not (pt_val (pe_f O_law_held (hr.mono (by decide)) pass0 (pa_cons (pv 1) (pa_cons (pv 5) pa_nil))))) (pw_or1 (pt_cmpR op_ne (pe_ix ix_seq (pe_callN0 FP (hr.mono (by decide)) (by rfl) gCp kpP k0P passN (pk_cons (pv 2) (pk_cons (pv 6) pk_nil))) pe_int (fun _ _ => rfl)) pe_str (nomark _))))) (pss_one (ps_ret pe_bl)) pss_nil)
      (pss_one (ps_for PassesOwn.never rfl (pi_sq false (pe_tup (pa_cons (pe_glob (v := .ref (He.ga K "least_failing")) (by rfl) gLf rfl) (pa_cons (pe_glob (v := .ref (He.ga K "court_paper")) (by rfl) gCp rfl) pa_nil)))) (pg_name (i := 8) sc_law_case_right.nd rfl (.inl rfl)) (pss_one (ps_try_asD (i := 9) rfl rfl sc_law_case_right.nd rfl rfl ⟨rfl, by decide, .inl T.eT.mkE.gC⟩ takes0 (fun W pn xe tk _ => pss_cons (ps_expr (pe_callLN (i := 8) (E := WE W) hA (hr.mono (by decide)) rfl (.inl rfl) (fun σ => passAt tk σ) (pa_cons (pv 2) pa_nil) (pk_cons (pe_op op_sub (pv 6) pe_int) pk_nil))) (pss_one (ps_ret pe_bl))) (fun a oe cls d pn hz hf => pss_one (ps_if (PW.pt (pw_or (pt_cmpR op_ne (pe_xf T.eT.xf T.eT.mkE.noN hz hf (pv 9)) (pe_op op_sub (pv 6) pe_int) (nomark _)) (pw_or1 (pt_not (pt_val (pe_callB (call_isD2 T.eT.ex hz hf) (by rfl) T.n_isinstance b_isinstance (pa_cons (pv 9) (pa_cons (pe_glob (v := .ref (He.ga K "LogError")) (by rfl) T.gL rfl) pa_nil)))))))) (pss_one (ps_ret pe_bl)) pss_nil)))))))))))))
      (pss_cons (ps_if (pt_cmpR op_notBl (pe_f O_court_holds (hr.mono (by decide)) pass0 (pa_cons (pv 2) (pa_cons (pv 5) pa_nil))) pe_bl (nomark _)) (pss_one (ps_ret pe_bl)) pss_nil)
      (pss_cons (ps_for PassesOwn.never rfl (pi_range1 (by rfl) T.n_range (pa_cons pe_int pa_nil)) (pg_name (i := 10) sc_law_case_right.nd rfl (.inl rfl)) (pss_cons (ps_set (i := 11) sc_law_case_right.nd rfl (.inl rfl) (pe_f O_law_bent (hr.mono (by decide)) pass0 (pa_cons (pv 0) (pa_cons (pv 5) (pa_cons (pe_callB call_len (by rfl) T.n_len b_len (pa_cons (pv 1) pa_nil)) pa_nil)))))
      (pss_one (ps_if (pt_cmpR op_ne (pe_callB call_reprA (by rfl) T.n_repr b_repr (pa_cons (pe_callN0 FH (hr.mono (by decide)) (by rfl) gCh kpH kH pass0 (pk_cons (pv 11) (pk_cons (pv 2) pk_nil))) pa_nil)) (pe_callB call_reprA (by rfl) T.n_repr b_repr (pa_cons (pe_f O_law_held (hr.mono (by decide)) pass0 (pa_cons (pv 1) (pa_cons (pv 11) pa_nil))) pa_nil)) (nomark _)) (pss_one (ps_ret pe_bl)) pss_nil))))
      (pss_cons (ps_set (i := 12) sc_law_case_right.nd rfl (.inl rfl) (pe_f O_law_take (hr.mono (by decide)) pass0 (pa_cons (pv 0) (pa_cons (pe_op op_add (pv 3) pe_int) pa_nil))))
      (pss_cons (ps_set (i := 13) sc_law_case_right.nd rfl (.inl rfl) (pe_callB (cr_max (by rfl)) (by rfl) T.n_max b_max (pa_cons (pe_lc (own := [("_law_counts_here", 14)]) (g := gName 14) (tt := tYes) rfl sc_law_case_right.nd (pi_sq true (pe_f O_law_counts (hr.mono (by decide)) pass0 (pa_cons (pe_callB call_len (by rfl) T.n_len b_len (pa_cons (pv 1) pa_nil)) (pa_cons (pv 12) pa_nil)))) (blkOk_by (N := ["_law_box_here", "_law_marks_here", "_law_hands", "_law_few", "_law_least_here", "_law_paper", "_law_told", "_law_between", "_law_ask", "fault", "_law_turn", "_law_value", "_law_length", "_law_due", "_law_counts_here"]) (sc := defScope (topS 55)) (by decide +kernel)) (fun _ _ _ _ _ => (pg_name (i := 14) sc_law_case_right.nd rfl (.inl rfl))) (fun _ _ _ _ _ => pts_nil) (fun _ _ _ _ _ => (pe_op op_sub pe_int (pe_callTy call_int1 (by rfl) T.n_int b_int (pa_cons (pe_op op_fdivP (pe_op op_sub pe_int (pe_f O_law_orders (hr.mono (by decide)) pass0 (pa_cons (pv 14) pa_nil))) (pe_f O_law_fillings (hr.mono (by decide)) pass0 (pa_cons (pv 1) (pa_cons (pv 14) pa_nil)))) pa_nil))))) pa_nil)))
      (pss_one (ps_ret (pe_cmpR op_eq (pe_callB (call_reprD hgu hr.units) (by rfl) T.n_repr b_repr (pa_cons (pe_lst (pa_cons (pe_f O_crowd_bound (hr.mono (by decide)) passN (pa_cons (pv 2) (pa_cons (pv 12) pa_nil))) (pa_cons (pe_callN0 FB (hr.mono (by decide)) (by rfl) gCb kpB kB passN (pk_cons (pv 12) (pk_cons (pv 2) pk_nil))) pa_nil))) pa_nil)) (pe_callB (call_reprD hgu hr.units) (by rfl) T.n_repr b_repr (pa_cons (pe_lst (pa_cons (pv 13) (pa_cons (pv 13) pa_nil))) pa_nil)) (nomark _))))))))))), ?_⟩
    refine ⟨_, rfl, fun hx dx nx ndx nex => ?_⟩
    have hax : a ≠ hx := ne_of_none eA nx
    have hadx : a ≠ dx := ne_of_none eA ndx
    refine ⟨hx, dx, a, ms, rfl, upd_same, .of (by rw [upd_ne hax, upd_ne hadx]; exact eA), hm, fun H1 hk hh => ⟨rfl, ?_⟩⟩
    have m1 : Same H H1 := fun c o e => hk c o (ne_of_none e nx) (by rw [upd_ne (ne_of_none e nx), upd_ne (ne_of_none e ndx)]; exact e)
    refine ⟨by show 5 ≤ sizeLine; decide, fun pf npf => ⟨_, rfl, _, _, rfl, .inl ⟨_, .of (same_upd npf _ _ (m1 _ _ eA)), rfl⟩, ix_sq (xs := [.int 0, .int 0, .int 24, .int 12, .int 8]) (v := .int (fewN ms.length : Nat)) (.inl (.of upd_same)) (by rw [nv_length]; exact atI_nat (few_get h2 h4)) ⟨_, _, rfl, ?_⟩⟩⟩
    have m2 := m1.trans (same_upd (o := .lst [.int 0, .int 0, .int 24, .int 12, .int 8]) npf)
    have hh2 := hh.same (same_upd (o := .lst [.int 0, .int 0, .int 24, .int 12, .int 8]) npf)
    refine ⟨_, rfl, _, rfl, a, ms, fewN ms.length, rfl, .of (m2 _ _ eA), hm, f24, fun l4 H3 hl4 m3 => ?_⟩
    have m13 := m2.trans m3
    have hh3 := hh2.same m3
    refine ⟨_, rfl, a, ms, rfl, .of (m13 _ _ eA), hm, fun H4 m4 => ⟨_, rfl, ?_⟩⟩
    have m14 := m13.trans m4
    have hh4 := hh3.same m4
    clear m1 m2 m3 m13 hh hh2 hh3 m4
    cases hf : fits ms with
    | true =>
      have hl : l4 = .non := by
        rcases hl4 with ⟨t, told, _, _⟩ | ⟨_, h⟩
        · have := told.at_
          rw [fits_crowd hm.ne hm.pos hf] at this
          cases this
        · exact h
      subst hl
      have hsm := share_small hdom hf
      obtain ⟨t1, t2⟩ := tell_shown (a := (shareT ms : Nat)) (b := (shareB ms : Nat)) (PySem.Flt.log2_lt_of (by decide) (by omega)) (PySem.Flt.log2_lt_of (by decide) (by omega))
      refine ⟨_, rfl, rfl, _, rfl, ?_⟩
      refine ⟨_, rfl, hx, ms, 400, rfl, hh4, hm, by decide, .inl ⟨hf, fun H5 m5 => ⟨rfl, _, rfl, ?_⟩⟩⟩
      have m15 := m14.trans m5
      refine ⟨_, rfl, hx, ms, 400, rfl, hh4.same m5, hm, by decide, .inl ⟨hf, fun H6 p6 m6 hp6 => ?_⟩⟩
      obtain ⟨q6, hp6, hq6⟩ := hp6
      refine ⟨p6, .tuple [.str "tells", .tuple (dn [shareT ms, shareB ms])], rfl, .tup (.of hp6) (.cons (.str _) (.cons (.tup (.of hq6) (dp_nums K H6 [shareT ms, shareB ms])) .nil)), t1, rfl, (show 2 ≤ 60 by decide), t2, ?_⟩
      have m16 := m15.trans m6
      refine ⟨_, rfl, a, ms, rfl, .of (m16 _ _ eA), hm, fun H7 p7 m7 f7 e7 => ⟨by show 2 ≤ sizeLine; decide, fun p8 n8 => ?_⟩⟩
      refine ⟨p8, .tuple [.str "tells", .tuple (dn [shareT ms, shareB ms])], rfl, .tup (.of upd_same) (.cons (.str _) (.cons (.tup (.of (same_upd n8 _ _ e7)) (dp_nums K _ [shareT ms, shareB ms])) .nil)), t1, rfl, (show 2 ≤ 60 by decide), t2, rfl, _, rfl, ?_⟩
      rw [decide_eq_true rfl]
      have m18 := m16.trans (m7.trans (same_upd (o := .tup [.str "tells", .ref p7]) n8))
      refine ⟨_, rfl, a, ms, rfl, .of (m18 _ _ eA), hm, fun H9 p9 m9 f9 e9 => ⟨by show 2 ≤ sizeLine; decide, fun pp npp => ?_⟩⟩
      have m19 := m18.trans (m9.trans (same_upd (o := .tup [.str "tells", .ref p9]) npp))
      have kF : Keep b H (upd H9 pp (.tup [.str "tells", .ref p9])) := .of hb m19
      have hHF := hh4.same (m5.trans (m6.trans (m7.trans ((same_upd (o := .tup [.str "tells", .ref p7]) n8).trans (m9.trans (same_upd (o := .tup [.str "tells", .ref p9]) npp))))))
      have pap : PaperAt (upd H9 pp (.tup [.str "tells", .ref p9])) pp "tells" [shareT ms, shareB ms] := ⟨p9, upd_same, same_upd npp _ _ e9⟩
      obtain ⟨z, hz0⟩ : ∃ z : Str, z = "tells" := ⟨_, rfl⟩
      have hz : z = "tells" ∨ z = "more" := .inl hz0
      obtain ⟨c, hc0⟩ : ∃ c, c = [shareT ms, shareB ms] := ⟨_, rfl⟩
      have hc2 : 2 ≤ c.length := by rw [hc0]; exact Nat.le_refl _
      have hc4 : c.length ≤ 4 := by rw [hc0]; exact (show 2 ≤ 4 by decide)
      have hcs : c.sum ≤ 1100 := by
        rw [hc0]
        show shareT ms + (shareB ms + 0) ≤ 1100
        omega
      have hheld : heldD ms (.pair false (.str z) (nv c)) = true := by rw [hz0, hc0]; exact held_tells hf
      generalize upd H9 pp (.tup [.str "tells", .ref p9]) = HF at *
      rw [← hz0, ← hc0] at pap
      clear m14 m15 m16 m18 m19 hh4 npp n8 e9 e7 hq6 hp6 hz0 hc0
      have hD := paper_desc (K := K) (ms := ms) pap hz hc4 hcs
      refine ⟨_, rfl, _, rfl, hx, ms, .ref pp, _, rfl, hHF, hm, hD, fun G1 g1 => ⟨_, _, rfl, rfl, _, rfl, ?_⟩⟩
      rw [hheld]
      have kG := kF.same g1
      refine ⟨8, rfl, by decide, by decide, for_range (n := 8) (fun i σ G => Keep b H G ∧ Keep b HF G ∧ ∃ x10 x11, σ = [some (.ref b), some (.ref a), some (.ref hx), some (.int (fewN ms.length : Nat)), some .non, some (.ref pp), none, none, none, none, x10, x11, none, none, none]) ⟨kG, .of kF.1 g1, none, none, rfl⟩ (fun i σ G hi p => ?_) (fun σ G p => ?_)⟩
      · obtain ⟨k1, k2, x10, x11, rfl⟩ := p
        have eAG := k1.2 _ _ hab eA
        have papG := pap.keep k2 kF.1
        have hHG := hHF.keep k2 kF.1
        obtain ⟨bg, br, hbG, _⟩ := k1.1
        refine ⟨_, rfl, _, rfl, _, rfl, _, _, rfl, .inl ⟨_, .of eAG, rfl⟩, b, pp, ms, z, c, by rw [nv_length]; rfl, k1.1, hm, papG, hz, hc2, hc4, hcs, fun x hxp e => ?_, fun qq hq e => ?_, fun G2 v D k3 hdesc => ?_⟩
        · have : x = pp := by simpa using hxp
          subst this
          obtain ⟨q1, h1, _⟩ := papG
          rw [e, hbG] at h1
          cases h1
        · obtain ⟨q1, h1, h2'⟩ := papG
          rw [h1] at hq
          have : q1 = qq := by
            have e1 := Option.some.inj hq
            injection e1 with e1
            simp at e1
            exact e1
          subst this
          rw [e, hbG] at h2'
          cases h2'
        · have hHG2 := hHG.keep k3 k1.1
          have eAG2 := k3.2 _ _ hab eAG
          refine ⟨_, rfl, _, rfl, rfl, hx, ms, v, D, rfl, hHG2, hm, hdesc, fun G3 g3 => ⟨_, _, rfl, rfl, fun i e => (by cases e), fun y e => (by cases e), ?_⟩⟩
          refine ⟨_, rfl, _, rfl, a, ms, v, D, rfl, .of (g3 _ _ eAG2), hm, hdesc.same g3, fun G4 g4 => ⟨_, _, rfl, rfl, fun i e => (by cases e), fun y e => (by cases e), rfl, _, rfl, ?_⟩⟩
          rw [decide_eq_true rfl]
          have kk : Keep b G G4 := (k3.same g3).same g4
          exact ⟨k1.trans kk, k2.trans kk, _, _, rfl⟩
      · obtain ⟨k1, k2, x10, x11, rfl⟩ := p
        have eAG := k1.2 _ _ hab eA
        have hHG := hHF.keep k2 kF.1
        refine ⟨_, rfl, _, rfl, _, _, rfl, rfl, b, fewN ms.length + 1, rfl, k1.1, by omega, by omega, fun G1 L kL hL => ?_⟩
        have eA1 := kL.2 _ _ hab eAG
        have hH1 := hHG.keep kL k1.1
        refine ⟨_, rfl, _, _, rfl, .inl ⟨_, .of eA1, rfl⟩, _, rfl, ms.length, L, by rw [nv_length]; rfl, h2, h4, by omega, fun G2 pc vs g2 eC tC => ⟨pc, rfl, ⟨vs, .of eC⟩, fun DD hDD => ?_⟩⟩
        have hlen := tC.len
        have hcl : (cnts L ms.length).length ≤ 15625 := by
          unfold cnts
          rw [List.length_map]
          have h1 := pre_len L (ms.length - 1)
          have h2 := pow25 (L := L) (k := ms.length - 1) (by omega) (by omega)
          omega
        have big : (100000 : Nat) ≤ sizeLine := by decide
        refine lc_mapS (k := true) (xs := vs) (ys := ((cnts L ms.length).map fun c => cdv (ord c) (fil ms c)).map V.int) (.of eC) hDD (by rw [List.length_map, List.length_map, hlen]) (by omega) (fun j v y G3 R hv hy g3 hR => ?_) (fun G3 g3 eD => ?_)
        · obtain ⟨p, c', rfl, hc', ec⟩ := (tC.same g3).get hv
          rw [List.map_map] at hy
          have ey := get_map hc' hy
          subst ey
          obtain ⟨h1, h3⟩ := (mem_cnts (by omega)).mp (List.mem_of_getElem? hc')
          refine ⟨rfl, _, rfl, p, c', rfl, .inr (.of ec), by omega, by omega, fun G4 g4 => ⟨_, _, rfl, rfl, ?_⟩⟩
          refine ⟨_, rfl, _, rfl, a, p, ms, c', rfl, .of ((g2.trans (g3.trans g4)) _ _ eA1), .inr (.of (g4 _ _ ec)), hm, h1, by omega, fun G5 g5 => ?_⟩
          have hfp := fil_pos c' hm.pos
          have hfb := fil_bits (ms := ms) (c := c') (fun y hy => by have := hm.2.2 y hy; omega)
          refine ⟨_, _, rfl, rfl, ⟨by omega, ?_⟩, .inl ⟨_, rfl, _, _, rfl, rfl, ?_⟩⟩
          · refine PyProof.noPylong_of_log2 ?_
            rw [Int.natAbs_natCast]
            refine Nat.lt_of_lt_of_le ((Nat.log2_lt (Nat.ne_of_gt hfp)).mpr (le_pow2 hfb)) ?_
            omega
          · have e9 : (0 : Int) - (0 - ((ord c' : Nat) : Int)) / ((fil ms c' : Nat) : Int) = cdv (ord c') (fil ms c') := by
              unfold cdv
              rw [Int.zero_sub, Int.zero_sub]
            show R (.int ((0 : Int) - (0 - ((ord c' : Nat) : Int)) / ((fil ms c' : Nat) : Int))) G5
            rw [e9]
            exact hR _ (g4.trans g5)
        · have hdl := dear_length ms L
          have hds := dear_sum hm.ne L
          have hfd := fil_pos (dear ms L) hm.pos
          have hmem : cdv (ord (dear ms L)) (fil ms (dear ms L)) ∈ (cnts L ms.length).map fun c => cdv (ord c) (fil ms c) := List.mem_map.mpr ⟨dear ms L, (mem_cnts (by omega)).mpr ⟨hdl, hds⟩, rfl⟩
          refine ⟨DD, (cnts L ms.length).map fun c => cdv (ord c) (fil ms c), rfl, .of eD, List.length_pos_of_mem hmem, fun mx h1 h3 => ?_⟩
          have emx : mx = cdv (ord (dear ms L)) (fil ms (dear ms L)) := by
            refine Int.le_antisymm ?_ (h3 _ hmem)
            obtain ⟨d, hd, rfl⟩ := List.mem_map.mp h1
            obtain ⟨h5, h6⟩ := (mem_cnts (by omega)).mp hd
            refine cdv_mono (fil_pos d hm.pos) hfd ?_
            have := dear_ratio hm.ne hm.pos h5
            rw [h6] at this
            exact this
          subst emx
          have hob := ord_bits (c := dear ms L) (by omega)
          rw [hds] at hob
          have hbits := cdv_bits (a := ord (dear ms L)) (b := fil ms (dear ms L)) hfd (Nat.lt_of_lt_of_le hob (Nat.pow_le_pow_right (by decide) (by omega)))
          obtain ⟨w1, w2, _, _⟩ := two_shown hbits hbits
          have hH3 := hH1.same (g2.trans g3)
          refine ⟨_, rfl, _, rfl, hx, ms, .int (L : Nat), "int", rfl, hH3, hm, rfl, fun n en hn G6 g6 => ?_, fun hbad => ?_⟩
          · have : L = n := by have := V.int.inj en; omega
            subst this
            refine ⟨_, rfl, _, rfl, rfl, hx, ms, .int (L : Nat), "int", rfl, hH3.same g6, hm, rfl, fun n en hn G7 g7 => ?_, fun hbad => ?_⟩
            · have : L = n := by have := V.int.inj en; omega
              subst this
              refine ⟨by show 2 ≤ sizeLine; decide, fun r1 nr1 => ⟨r1, .list [.int (cdv (ord (dear ms L)) (fil ms (dear ms L))), .int (cdv (ord (dear ms L)) (fil ms (dear ms L)))], rfl, .lst (.of upd_same) (.cons (.int _) (.cons (.int _) .nil)), w1, rfl, (show 1 ≤ 60 by decide), w2, ?_⟩⟩
              refine ⟨_, rfl, _, rfl, by show 2 ≤ sizeLine; decide, fun r2 nr2 => ⟨r2, .list [.int (cdv (ord (dear ms L)) (fil ms (dear ms L))), .int (cdv (ord (dear ms L)) (fil ms (dear ms L)))], rfl, .lst (.of upd_same) (.cons (.int _) (.cons (.int _) .nil)), w1, rfl, (show 1 ≤ 60 by decide), w2, rfl, ?_⟩⟩
              rw [decide_eq_true rfl]
              exact q _ ((((k1.trans kL).same (g2.trans g3)).same (g6.trans g7)).same ((same_upd nr1).trans (same_upd nr2)))
            · have hbad : (decide ((0 : Int) ≤ (L : Nat)) && decide (((L : Nat) : Int) < ((60 : Nat) : Int) + 1)) = false := hbad
              rw [decide_eq_true (by omega), decide_eq_true (by omega)] at hbad
              cases hbad
          · have hbad : (decide ((0 : Int) ≤ (L : Nat)) && decide (((L : Nat) : Int) < ((60 : Nat) : Int) + 1)) = false := hbad
            rw [decide_eq_true (by omega), decide_eq_true (by omega)] at hbad
            cases hbad
    | false =>
      obtain ⟨t, told, ht2, ht, hcr⟩ := hgood hf
      have hl : (l4 = .int (t : Int) ∧ t ≤ fewN ms.length) ∨ (l4 = .non ∧ fewN ms.length < t) := by
        rcases hl4 with ⟨t', told', hle, e⟩ | ⟨hk, e⟩
        · have := told'.unique told
          subst this
          exact .inl ⟨e, hle⟩
        · refine .inr ⟨e, ?_⟩
          false_or_by_contra
          rename_i hlt
          have := hk t told.pos (by omega)
          rw [told.at_] at this
          cases this
      refine ⟨_, rfl, rfl, hx, ms, 3000, rfl, hh4, hm, by decide, .inr (.inl ⟨hf, t, told, by omega, fun H5 m5 => ?_⟩)⟩
      have m15 := m14.trans m5
      have hh5 := hh4.same m5
      have hb5 : BoxAt H5 b := (Keep.of hb m15).1
      have e1 : decide (V.bl (!decide (l4 = .non)) = V.bl (decide ((t : Int) ≤ (fewN ms.length : Nat)))) = true := by
        rcases hl with ⟨rfl, h⟩ | ⟨rfl, h⟩
        · rw [decide_eq_true (show (t : Int) ≤ (fewN ms.length : Nat) by omega)]
          rfl
        · rw [decide_eq_false (show ¬ (t : Int) ≤ (fewN ms.length : Nat) by omega)]
          rfl
      refine ⟨_, rfl, rfl, _, rfl, _, rfl, _, _, rfl, rfl, rfl, _, rfl, ?_⟩
      rw [e1]
      refine ⟨_, rfl, rfl, _, rfl, ?_⟩
      refine skip_told (l4 := l4) (t := t) rfl rfl (hl.imp And.left And.left) ?_
      have e1200 : decide ((t : Int) < 1200) = true := decide_eq_true (by omega)
      refine ⟨_, rfl, _, _, rfl, rfl, _, rfl, ?_⟩
      rw [e1200]
      -- a length between
      obtain ⟨mx, hmx, hmx1, hmx2⟩ : ∃ mx : Nat, (if (t : Int) - (fewN ms.length : Nat) > 1 then (t : Int) - (fewN ms.length : Nat) else 1) = (mx : Int) ∧ 1 ≤ mx ∧ mx ≤ t - fewN ms.length + 1 := by
        by_cases h : (t : Int) - (fewN ms.length : Nat) > 1
        · rw [if_pos h]
          exact ⟨t - fewN ms.length, by omega, by omega, by omega⟩
        · rw [if_neg h]
          exact ⟨1, rfl, Nat.le_refl _, by omega⟩
      refine ⟨_, rfl, _, rfl, _, rfl, _, rfl, _, _, rfl, rfl, _, _, rfl, b, mx, ?_, hb5, hmx1, by omega, fun H6 d k6 hd => ⟨_, _, rfl, rfl, ?_⟩⟩
      · show [V.ref b, V.int (if (t : Int) - (fewN ms.length : Nat) > 1 then (t : Int) - (fewN ms.length : Nat) else 1)] = _
        rw [hmx]
      have k16 := (Keep.of hb m15).trans k6
      have eA6 := k16.2 _ _ hab eA
      have hh6 := hh5.keep k6 hb5
      obtain ⟨n1, hn1, hn2, hn3⟩ : ∃ n1 : Nat, (if (t : Int) - 1 < (fewN ms.length : Nat) + (d : Int) then (t : Int) - 1 else (fewN ms.length : Nat) + (d : Int)) = (n1 : Int) ∧ 1 ≤ n1 ∧ n1 < t := by
        by_cases h : (t : Int) - 1 < (fewN ms.length : Nat) + (d : Int)
        · rw [if_pos h]
          exact ⟨t - 1, by omega, by omega, by omega⟩
        · rw [if_neg h]
          exact ⟨fewN ms.length + d, by omega, by omega, by omega⟩
      have c1 : crowded ms n1 = false := crowded_no hm.pos hm.ne (told.no n1 hn2 hn3)
      have c2 : crowded ms (t - 1) = false := crowded_no hm.pos hm.ne (told.no (t - 1) (by omega) (by omega))
      have et1 : (t : Int) - 1 = ((t - 1 : Nat) : Int) := by omega
      refine ⟨_, rfl, _, rfl, _, rfl, _, _, rfl, rfl, _, _, rfl, a, ms, n1, ?_, .of eA6, hm, by omega, fun H7 m7 => ⟨_, rfl, ?_⟩⟩
      · show [V.ref a, V.int (if (t : Int) - 1 < (fewN ms.length : Nat) + (d : Int) then (t : Int) - 1 else (fewN ms.length : Nat) + (d : Int))] = _
        rw [hn1]
      rw [c1]
      refine ⟨_, rfl, _, rfl, _, _, rfl, rfl, a, ms, t - 1, ?_, .of (m7 _ _ eA6), hm, by omega, fun H8 m8 => ⟨_, rfl, ?_⟩⟩
      · show [V.ref a, V.int ((t : Int) - 1)] = _
        rw [et1]
      rw [c2]
      refine ⟨_, rfl, _, rfl, a, ms, t, rfl, .of ((m7.trans m8) _ _ eA6), hm, ht, fun H9 m9 => ⟨_, rfl, ?_⟩⟩
      rw [hcr]
      have m79 := m7.trans (m8.trans m9)
      have k19 := k16.same m79
      have hh9 := hh6.same m79
      clear m14 m15 m7 m8 m9 hh4 hh5 hh6 e1
      refine ⟨_, rfl, rfl, rfl, hx, ms, 3000, rfl, hh9, hm, by decide, .inr (.inl ⟨hf, t, told, by omega, fun H10 pp m10 pap => ?_⟩)⟩
      have k110 := k19.same m10
      have hh10 := hh9.same m10
      have hds := dear_sum hm.ne t
      have hdl := dear_length ms t
      obtain ⟨pq, hp1, hp2⟩ := id pap
      have hS := (Or.inr (.of hp1) : Sq K H10 pp [.str "more", .ref pq])
      refine ⟨_, rfl, _, _, .type "tuple", _, true, rfl, .ty _, .base (.tup hp1), kit_ty (by decide +kernel), _, rfl, ?_⟩
      refine ⟨_, rfl, ix_sq hS (v := .str "more") rfl ⟨rfl, _, rfl, ?_⟩⟩
      rw [decide_eq_true rfl]
      refine ⟨_, rfl, ix_sq hS (v := .ref pq) rfl ⟨_, _, .type "tuple", _, true, rfl, .ty _, .base (.tup hp2), kit_ty (by decide +kernel), _, rfl, ?_⟩⟩
      refine ⟨_, rfl, ix_sq hS (v := .ref pq) rfl ⟨pq, (dear ms t).map (fun (n : Nat) => (n : Int)), rfl, .inr (.of (by rw [← nv_map]; exact hp2)), _, rfl, rfl, _, rfl, ?_⟩⟩
      rw [sum_cast, hds, decide_eq_true rfl]
      have hpd := paper_desc (K := K) (ms := ms) pap (.inr rfl) (by omega) (by omega)
      refine ⟨_, rfl, _, rfl, a, ms, .ref pp, _, rfl, .of (k110.2 _ _ hab eA), hm, hpd, fun H11 m11 => ⟨_, rfl, ?_⟩⟩
      rw [held_more hm told ht]
      refine ⟨_, rfl, _, rfl, rfl, hx, ms, t, rfl, hh10.same m11, hm, by omega, .inr (.inl ⟨hf, t, told, Nat.le_refl _, fun H12 p12 m12 hp12 => ?_⟩)⟩
      obtain ⟨q12, hp3, _⟩ := hp12
      refine ix_sq (xs := [.str "more", .ref q12]) (.inr (.of hp3)) (v := .str "more") rfl ⟨rfl, _, rfl, ?_⟩
      rw [decide_eq_true rfl]
      have m1012 := m11.trans m12
      -- both refuse one deed fewer
      refine ⟨by show 2 ≤ sizeLine; decide, fun pa npa => ⟨pa, rfl, ⟨_, .of upd_same⟩, for_sq (k := false) (K := K) (a := pa) (xs := [.ref (He.ga K "least_failing"), .ref (He.ga K "court_paper")]) (fun i σ G => Same H12 G ∧ ∃ x8, σ = [some (.ref b), some (.ref a), some (.ref hx), some (.int (fewN ms.length : Nat)), some l4, some (.ref pp), some (.int (t : Int)), some (.int ((fewN ms.length : Nat) + (d : Int))), x8, none, none, none, none, none, none] ∧ G pa = some (.tup [.ref (He.ga K "least_failing"), .ref (He.ga K "court_paper")])) ⟨same_upd npa, none, rfl, upd_same⟩ (fun i σ G _ p => by obtain ⟨_, _, _, e⟩ := p; exact (SqT.of e : SqT K G pa _)) (fun i v σ G hv p => ?_) (fun σ G p => ?_)⟩⟩
      · obtain ⟨m13, x8, rfl, ePA⟩ := p
        have hhG := hh10.same (m1012.trans m13)
        have hno : ∀ k, 1 ≤ k → k ≤ t - 1 → crowdAt ms k = false := fun k h1 h3 => told.no k h1 (by omega)
        have hexc : ∀ (W : WX), (∀ G' dd, Same G G' → G dd = none → G' dd = some (.xd [("most", .int ((t - 1 : Nat) : Int))]) → W (.ref (He.ga K "TooGreat")) (some dd) [some (.ref b), some (.ref a), some (.ref hx), some (.int (fewN ms.length : Nat)), some l4, some (.ref pp), some (.int (t : Int)), some (.int ((fewN ms.length : Nat) + (d : Int))), some v, none, none, none, none, none, none] G') →
            tooG K G ms (t - 1) (WE W [some (.ref b), some (.ref a), some (.ref hx), some (.int (fewN ms.length : Nat)), some l4, some (.ref pp), some (.int (t : Int)), some (.int ((fewN ms.length : Nat) + (d : Int))), some v, none, none, none, none, none, none]) := fun W h => ⟨hno, h⟩
        have hv := List.mem_of_getElem? hv
        simp only [List.mem_cons, List.mem_nil_iff, or_false] at hv
        rcases hv with rfl | rfl
        · refine ⟨_, spLeast K, apV, rfl, .inl ⟨rfl, rfl, rfl⟩, _, rfl, _, rfl, _, _, rfl, rfl, rfl, rfl, hx, ms, t - 1, by rw [← et1]; rfl, hhG, hm, by omega, .inr (.inr ⟨hf, hexc _ fun G' dd m14 f14 e14 => ?_⟩)⟩
          refine ⟨true, T.eT.exm, fun _ ae hae => ?_, fun q => by cases q⟩
          refine ⟨_, rfl, rfl, rfl, dd, _, _, rfl, e14, rfl, _, rfl, _, _, rfl, rfl, rfl, _, rfl, ?_⟩
          rw [← et1, decide_eq_true rfl]
          refine ⟨_, rfl, rfl, ⟨dd, _, rfl, e14⟩, _, _, true, rfl, fun u hu => hu, T.eT.log, _, rfl, ?_⟩
          exact ⟨m13.trans m14, _, rfl, m14 _ _ ePA⟩
        · refine ⟨_, spPaper K, apV, rfl, .inr ⟨rfl, rfl, rfl⟩, _, rfl, _, rfl, _, _, rfl, rfl, rfl, rfl, hx, ms, t - 1, by rw [← et1]; rfl, hhG, hm, by omega, .inr (.inr ⟨hf, hexc _ fun G' dd m14 f14 e14 => ?_⟩)⟩
          refine ⟨true, T.eT.exm, fun _ ae hae => ?_, fun q => by cases q⟩
          refine ⟨_, rfl, rfl, rfl, dd, _, _, rfl, e14, rfl, _, rfl, _, _, rfl, rfl, rfl, _, rfl, ?_⟩
          rw [← et1, decide_eq_true rfl]
          refine ⟨_, rfl, rfl, ⟨dd, _, rfl, e14⟩, _, _, true, rfl, fun u hu => hu, T.eT.log, _, rfl, ?_⟩
          exact ⟨m13.trans m14, _, rfl, m14 _ _ ePA⟩
      · obtain ⟨m13, x8, rfl, ePA⟩ := p
        have kF := k110.same (m1012.trans m13)
        have hHF := hh10.same (m1012.trans m13)
        replace pap := pap.same (m1012.trans m13)
        clear hpd hS hp1 hp2 hp3 m1012 m13 m10 m11 m12 hh9 hh10
        obtain ⟨z, hz0⟩ : ∃ z : Str, z = "more" := ⟨_, rfl⟩
        have hz : z = "tells" ∨ z = "more" := .inr hz0
        obtain ⟨c, hc0⟩ : ∃ c, c = dear ms t := ⟨_, rfl⟩
        have hc2 : 2 ≤ c.length := by rw [hc0, hdl]; exact h2
        have hc4 : c.length ≤ 4 := by rw [hc0, hdl]; exact h4
        have hcs : c.sum ≤ 1100 := by rw [hc0, hds]; exact ht
        have hheld : heldD ms (.pair false (.str z) (nv c)) = true := by rw [hz0, hc0]; exact held_more hm told ht
        rw [← hz0, ← hc0] at pap
        generalize G = HF at *
        have hD := paper_desc (K := K) (ms := ms) pap hz hc4 hcs
        refine ⟨_, rfl, _, rfl, hx, ms, .ref pp, _, rfl, hHF, hm, hD, fun G1 g1 => ⟨_, _, rfl, rfl, _, rfl, ?_⟩⟩
        rw [hheld]
        have kG := kF.same g1
        refine ⟨8, rfl, by decide, by decide, for_range (n := 8) (fun i σ G => Keep b H G ∧ Keep b HF G ∧ ∃ x10 x11, σ = [some (.ref b), some (.ref a), some (.ref hx), some (.int (fewN ms.length : Nat)), some l4, some (.ref pp), some (.int (t : Int)), some (.int ((fewN ms.length : Nat) + (d : Int))), x8, none, x10, x11, none, none, none]) ⟨kG, .of kF.1 g1, none, none, rfl⟩ (fun i σ G hi p => ?_) (fun σ G p => ?_)⟩
        · obtain ⟨k1, k2, x10, x11, rfl⟩ := p
          have eAG := k1.2 _ _ hab eA
          have papG := pap.keep k2 kF.1
          have hHG := hHF.keep k2 kF.1
          obtain ⟨bg, br, hbG, _⟩ := k1.1
          refine ⟨_, rfl, _, rfl, _, rfl, _, _, rfl, .inl ⟨_, .of eAG, rfl⟩, b, pp, ms, z, c, by rw [nv_length]; rfl, k1.1, hm, papG, hz, hc2, hc4, hcs, fun x hxp e => ?_, fun qq hq e => ?_, fun G2 v D k3 hdesc => ?_⟩
          · have : x = pp := by simpa using hxp
            subst this
            obtain ⟨q1, h1, _⟩ := papG
            rw [e, hbG] at h1
            cases h1
          · obtain ⟨q1, h1, h2'⟩ := papG
            rw [h1] at hq
            have : q1 = qq := by
              have e1 := Option.some.inj hq
              injection e1 with e1
              simp at e1
              exact e1
            subst this
            rw [e, hbG] at h2'
            cases h2'
          · have hHG2 := hHG.keep k3 k1.1
            have eAG2 := k3.2 _ _ hab eAG
            refine ⟨_, rfl, _, rfl, rfl, hx, ms, v, D, rfl, hHG2, hm, hdesc, fun G3 g3 => ⟨_, _, rfl, rfl, fun i e => (by cases e), fun y e => (by cases e), ?_⟩⟩
            refine ⟨_, rfl, _, rfl, a, ms, v, D, rfl, .of (g3 _ _ eAG2), hm, hdesc.same g3, fun G4 g4 => ⟨_, _, rfl, rfl, fun i e => (by cases e), fun y e => (by cases e), rfl, _, rfl, ?_⟩⟩
            rw [decide_eq_true rfl]
            have kk : Keep b G G4 := (k3.same g3).same g4
            exact ⟨k1.trans kk, k2.trans kk, _, _, rfl⟩
        · obtain ⟨k1, k2, x10, x11, rfl⟩ := p
          have eAG := k1.2 _ _ hab eA
          have hHG := hHF.keep k2 kF.1
          refine ⟨_, rfl, _, rfl, _, _, rfl, rfl, b, fewN ms.length + 1, rfl, k1.1, by omega, by omega, fun G1 L kL hL => ?_⟩
          have eA1 := kL.2 _ _ hab eAG
          have hH1 := hHG.keep kL k1.1
          refine ⟨_, rfl, _, _, rfl, .inl ⟨_, .of eA1, rfl⟩, _, rfl, ms.length, L, by rw [nv_length]; rfl, h2, h4, by omega, fun G2 pc vs g2 eC tC => ⟨pc, rfl, ⟨vs, .of eC⟩, fun DD hDD => ?_⟩⟩
          have hlen := tC.len
          have hcl : (cnts L ms.length).length ≤ 15625 := by
            unfold cnts
            rw [List.length_map]
            have h1 := pre_len L (ms.length - 1)
            have h2 := pow25 (L := L) (k := ms.length - 1) (by omega) (by omega)
            omega
          have big : (100000 : Nat) ≤ sizeLine := by decide
          refine lc_mapS (k := true) (xs := vs) (ys := ((cnts L ms.length).map fun c => cdv (ord c) (fil ms c)).map V.int) (.of eC) hDD (by rw [List.length_map, List.length_map, hlen]) (by omega) (fun j v y G3 R hv hy g3 hR => ?_) (fun G3 g3 eD => ?_)
          · obtain ⟨p, c', rfl, hc', ec⟩ := (tC.same g3).get hv
            rw [List.map_map] at hy
            have ey := get_map hc' hy
            subst ey
            obtain ⟨h1, h3⟩ := (mem_cnts (by omega)).mp (List.mem_of_getElem? hc')
            refine ⟨rfl, _, rfl, p, c', rfl, .inr (.of ec), by omega, by omega, fun G4 g4 => ⟨_, _, rfl, rfl, ?_⟩⟩
            refine ⟨_, rfl, _, rfl, a, p, ms, c', rfl, .of ((g2.trans (g3.trans g4)) _ _ eA1), .inr (.of (g4 _ _ ec)), hm, h1, by omega, fun G5 g5 => ?_⟩
            have hfp := fil_pos c' hm.pos
            have hfb := fil_bits (ms := ms) (c := c') (fun y hy => by have := hm.2.2 y hy; omega)
            refine ⟨_, _, rfl, rfl, ⟨by omega, ?_⟩, .inl ⟨_, rfl, _, _, rfl, rfl, ?_⟩⟩
            · refine PyProof.noPylong_of_log2 ?_
              rw [Int.natAbs_natCast]
              refine Nat.lt_of_lt_of_le ((Nat.log2_lt (Nat.ne_of_gt hfp)).mpr (le_pow2 hfb)) ?_
              omega
            · have e9 : (0 : Int) - (0 - ((ord c' : Nat) : Int)) / ((fil ms c' : Nat) : Int) = cdv (ord c') (fil ms c') := by
                unfold cdv
                rw [Int.zero_sub, Int.zero_sub]
              show R (.int ((0 : Int) - (0 - ((ord c' : Nat) : Int)) / ((fil ms c' : Nat) : Int))) G5
              rw [e9]
              exact hR _ (g4.trans g5)
          · have hdl := dear_length ms L
            have hds := dear_sum hm.ne L
            have hfd := fil_pos (dear ms L) hm.pos
            have hmem : cdv (ord (dear ms L)) (fil ms (dear ms L)) ∈ (cnts L ms.length).map fun c => cdv (ord c) (fil ms c) := List.mem_map.mpr ⟨dear ms L, (mem_cnts (by omega)).mpr ⟨hdl, hds⟩, rfl⟩
            refine ⟨DD, (cnts L ms.length).map fun c => cdv (ord c) (fil ms c), rfl, .of eD, List.length_pos_of_mem hmem, fun mx h1 h3 => ?_⟩
            have emx : mx = cdv (ord (dear ms L)) (fil ms (dear ms L)) := by
              refine Int.le_antisymm ?_ (h3 _ hmem)
              obtain ⟨d, hd, rfl⟩ := List.mem_map.mp h1
              obtain ⟨h5, h6⟩ := (mem_cnts (by omega)).mp hd
              refine cdv_mono (fil_pos d hm.pos) hfd ?_
              have := dear_ratio hm.ne hm.pos h5
              rw [h6] at this
              exact this
            subst emx
            have hob := ord_bits (c := dear ms L) (by omega)
            rw [hds] at hob
            have hbits := cdv_bits (a := ord (dear ms L)) (b := fil ms (dear ms L)) hfd (Nat.lt_of_lt_of_le hob (Nat.pow_le_pow_right (by decide) (by omega)))
            obtain ⟨w1, w2, _, _⟩ := two_shown hbits hbits
            have hH3 := hH1.same (g2.trans g3)
            refine ⟨_, rfl, _, rfl, hx, ms, .int (L : Nat), "int", rfl, hH3, hm, rfl, fun n en hn G6 g6 => ?_, fun hbad => ?_⟩
            · have : L = n := by have := V.int.inj en; omega
              subst this
              refine ⟨_, rfl, _, rfl, rfl, hx, ms, .int (L : Nat), "int", rfl, hH3.same g6, hm, rfl, fun n en hn G7 g7 => ?_, fun hbad => ?_⟩
              · have : L = n := by have := V.int.inj en; omega
                subst this
                refine ⟨by show 2 ≤ sizeLine; decide, fun r1 nr1 => ⟨r1, .list [.int (cdv (ord (dear ms L)) (fil ms (dear ms L))), .int (cdv (ord (dear ms L)) (fil ms (dear ms L)))], rfl, .lst (.of upd_same) (.cons (.int _) (.cons (.int _) .nil)), w1, rfl, (show 1 ≤ 60 by decide), w2, ?_⟩⟩
                refine ⟨_, rfl, _, rfl, by show 2 ≤ sizeLine; decide, fun r2 nr2 => ⟨r2, .list [.int (cdv (ord (dear ms L)) (fil ms (dear ms L))), .int (cdv (ord (dear ms L)) (fil ms (dear ms L)))], rfl, .lst (.of upd_same) (.cons (.int _) (.cons (.int _) .nil)), w1, rfl, (show 1 ≤ 60 by decide), w2, rfl, ?_⟩⟩
                rw [decide_eq_true rfl]
                exact q _ ((((k1.trans kL).same (g2.trans g3)).same (g6.trans g7)).same ((same_upd nr1).trans (same_upd nr2)))
              · have hbad : (decide ((0 : Int) ≤ (L : Nat)) && decide (((L : Nat) : Int) < ((60 : Nat) : Int) + 1)) = false := hbad
                rw [decide_eq_true (by omega), decide_eq_true (by omega)] at hbad
                cases hbad
            · have hbad : (decide ((0 : Int) ≤ (L : Nat)) && decide (((L : Nat) : Int) < ((60 : Nat) : Int) + 1)) = false := hbad
              rw [decide_eq_true (by omega), decide_eq_true (by omega)] at hbad
              cases hbad
end
end W6
namespace W6
open PySem PySem.Spec PyProof.Rows L2 K6
def spLaw (K : PySem.W.Frag) : Sp := fun vs H Q _ => ∃ a, ∃ ns : List Int, vs = [.ref a] ∧ SqL K H a (ns.map V.int) ∧ ns.length ≤ 63 ∧ ∀ H', Q (.bl true) H'
theorem Keep.all {b : Addr} {H H1 H2 : Hp} (k : Keep b H1 H2) (m : Same H H1) (f : H b = none) : Same H H2 := fun c o e => k.2 c o (ne_of_none e f) (m c o e)
/-- what cannot be asked -/
def badV : List V := [.int 61, .int (0 - 1), .non, .bl true, .str "1"]
theorem bad_of {v : V} (h : v ∈ badV) : deedOk 60 v = false ∧ (∃ ty, atomT v = some ty) ∧ (∀ n : Nat, v = .int (n : Int) → ¬ n ≤ 60) ∧ ∃ t, repV v = some t ∧ (∀ i, v = .int i → i.natAbs.log2 < 1920) ∧ (∀ y, v = .str y → (reprText y).length ≤ sizeLine) := by
  unfold badV at h
  simp only [List.mem_cons, List.mem_nil_iff, or_false] at h
  rcases h with rfl | rfl | rfl | rfl | rfl
  · exact ⟨rfl, ⟨_, rfl⟩, fun n e => (by have := V.int.inj e; omega), _, rfl, fun i e => (by cases e; decide), fun y e => (by cases e)⟩
  · exact ⟨rfl, ⟨_, rfl⟩, fun n e => (by have := V.int.inj e; omega), _, rfl, fun i e => (by cases e; decide), fun y e => (by cases e)⟩
  · exact ⟨rfl, ⟨_, rfl⟩, fun n e => (by cases e), _, rfl, fun i e => (by cases e), fun y e => (by cases e)⟩
  · exact ⟨rfl, ⟨_, rfl⟩, fun n e => (by cases e), _, rfl, fun i e => (by cases e), fun y e => (by cases e)⟩
  · exact ⟨rfl, ⟨_, rfl⟩, fun n e => (by cases e), _, rfl, fun i e => (by cases e), fun y e => (by cases e; decide +kernel)⟩
theorem sc_law : FnScope ["_law_script", "_law_k", "_law_box_here", "_law_marks_here", "_law_bad", "fault"] ["_law_script"] (defScope (topS 56)) := ⟨rfl, rfl, rfl, by decide +kernel, rfl, by decide +kernel, by decide +kernel⟩
theorem bound22 : cdv (ord (dear [2, 2] 60)) (fil [2, 2] (dear [2, 2] 60)) = 1 := by decide +kernel
theorem mks22 : Mks [2, 2] := ⟨by decide, by decide, by decide⟩
section
variable {P : Program} {w : World} {K : PySem.W.Frag} {mg : Str → Option Value} {base : Heap}
theorem bind_law {fd : FuncData} (F : FunD K "law" "law" (defArgs (topS 56)) (defBody (topS 56)) (defScope (topS 56)) [] [] (He.ga K "law") fd) (s : Shared) (u : Value) : BindsTo s fd ⟨[u], []⟩ [("_law_script", u)] :=
  F.bindsA (ps := ["_law_script"]) (fun _ _ _ _ _ _ us hl => match us, hl with | [_], _ => rfl) s [u] rfl
theorem ok_law (T : Tx P K mg) (hgood : ∀ ms, Dom ms → Good ms) {fd : FuncData} (F : FunD K "law" "law" (defArgs (topS 56)) (defBody (topS 56)) (defScope (topS 56)) [] [] (He.ga K "law") fd) : FnOkG P w K mg base CX0 8 (He.ga K "law") fd ["_law_script"] (spLaw K) := by
  have O_law_box := ok_box (P := P) (w := w) (base := base) T
  have O_law_marks := ok_marks (P := P) (w := w) (base := base) T
  have O_law_take := ok_take (P := P) (w := w) (base := base) T
  have O_law_pick := ok_pick (P := P) (w := w) (base := base) T
  have O_crowd_bound := (ok_crowd_bound (P := P) (w := w) (base := base) T).ok
  obtain ⟨_, FI, bI⟩ := ok_init (P := P) (w := w) (base := base) T
  obtain ⟨fdC, FC, bC⟩ := ok_case (P := P) (w := w) (base := base) T
  have kpC : PySem.W.keepIn K (.ref (He.ga K "_law_case_right")) = true := by
    obtain ⟨_, F⟩ := T.d_law_case_right.fn
    exact F.kp
  refine FunD.okG F sc_law (fun vs H Q E h => ?_) (fun cdval A outer s H vs Q E hr hgu h => ?_)
  · obtain ⟨a, ns, rfl, _⟩ := h
    rfl
  · obtain ⟨a, ns, rfl, hl, hn, q⟩ := h
    refine ⟨_, PSs.nox (pss_cons (ps_for PassesOwn.never rfl (pi_range1 (by rfl) T.n_range (pa_cons pe_int pa_nil)) (pg_name (i := 1) sc_law.nd rfl (.inl rfl)) (pss_cons (ps_set (i := 2) sc_law.nd rfl (.inl rfl) (pe_f O_law_box (hr.mono (by decide)) pass0 (pa_cons (pv 0) (pa_cons (pv 1) pa_nil))))
      (pss_cons (ps_set (i := 3) sc_law.nd rfl (.inl rfl) (pe_ifExp (pt_cmpR op_gt (pe_f O_law_take (hr.mono (by decide)) pass0 (pa_cons (pv 2) (pa_cons pe_int pa_nil))) pe_int (nomark _)) (pe_f O_law_marks (hr.mono (by decide)) pass0 (pa_cons (pv 2) pa_nil)) (pe_f O_law_pick (hr.mono (by decide)) pass0 (pa_cons (pv 2) (pa_cons (pe_lst (pa_cons (pe_lst (pa_cons pe_int (pa_cons pe_int (pa_cons pe_int pa_nil)))) (pa_cons (pe_lst (pa_cons pe_int (pa_cons pe_int (pa_cons pe_int pa_nil)))) (pa_cons (pe_lst (pa_cons pe_int (pa_cons pe_int (pa_cons pe_int pa_nil)))) (pa_cons (pe_lst (pa_cons pe_int (pa_cons pe_int pa_nil))) (pa_cons (pe_lst (pa_cons pe_int (pa_cons pe_int (pa_cons pe_int pa_nil)))) (pa_cons (pe_lst (pa_cons pe_int (pa_cons pe_int pa_nil))) (pa_cons (pe_lst (pa_cons pe_int (pa_cons pe_int pa_nil))) (pa_cons (pe_lst (pa_cons pe_int (pa_cons pe_int (pa_cons pe_int pa_nil)))) (pa_cons (pe_lst (pa_cons pe_int (pa_cons pe_int (pa_cons pe_int (pa_cons pe_int pa_nil))))) pa_nil)))))))))) pa_nil)))))
      (pss_cons (ps_if (pt_not (pt_val (pe_callG FC (hr.mono (by decide)) hgu (by rfl) T.d_law_case_right.g kpC bC pass0 (pa_cons (pv 2) (pa_cons (pv 3) pa_nil))))) (pss_one (ps_ret pe_bl)) pss_nil)
      (pss_one (ps_for PassesOwn.never rfl (pi_sq false (pe_tup (pa_cons pe_int (pa_cons (pe_op op_sub pe_int pe_int) (pa_cons pe_non (pa_cons pe_bl (pa_cons pe_str pa_nil))))))) (pg_name (i := 4) sc_law.nd rfl (.inl rfl)) (pss_one (ps_try_asD (i := 5) rfl rfl sc_law.nd rfl rfl ⟨rfl, by decide, .inl T.eR.mkE.gC⟩ takes0 (fun W pn xe tk _ => pss_cons (ps_expr (pe_fS (E := WE W) O_crowd_bound (hr.mono (by decide)) (fun σ => passAt tk σ) (pa_cons (pe_make T.mkH FI (hr.mono (by decide)) (by rfl) T.gH bI .nil pass0 (pa_cons (pv 3) pa_nil)) (pa_cons (pv 4) pa_nil)))) (pss_one (ps_ret pe_bl))) (fun a oe cls d pn hz hf => pss_one (ps_if (PW.pt (pw_or (pt_cmpR op_ne (pe_callB call_reprA (by rfl) T.n_repr b_repr (pa_cons (pe_xf T.eR.xf T.eR.mkE.noN hz hf (pv 5)) pa_nil)) (pe_callB call_reprA (by rfl) T.n_repr b_repr (pa_cons (pv 4) pa_nil)) (nomark _)) (pw_or1 (pt_not (pt_val (pe_callB (call_isD2 T.eR.ex hz hf) (by rfl) T.n_isinstance b_isinstance (pa_cons (pv 5) (pa_cons (pe_glob (v := .ref (He.ga K "LogError")) (by rfl) T.gL rfl) pa_nil)))))))) (pss_one (ps_ret pe_bl)) pss_nil))))))))))
      (pss_one (ps_ret (pe_cmpR op_eq (pe_f O_crowd_bound (hr.mono (by decide)) passN (pa_cons (pe_make T.mkH FI (hr.mono (by decide)) (by rfl) T.gH bI .nil pass0 (pa_cons (pe_lst (pa_cons pe_int (pa_cons pe_int pa_nil))) pa_nil)) (pa_cons pe_int pa_nil))) pe_int (nomark _))))), ?_⟩
    refine ⟨2, rfl, by decide, by decide, for_range (n := 2) (fun i σ G => Same H G ∧ ∃ x1 x2 x3 x4, σ = [some (.ref a), x1, x2, x3, x4, none]) ⟨Same.refl _, none, none, none, none, rfl⟩ (fun i0 σ G0 hi p => ?_) (fun σ G p => ?_)⟩
    · obtain ⟨m0, x1, x2, x3, x4, rfl⟩ := p
      have ei : ((0 : Int) + i0) = ((i0 : Nat) : Int) := by omega
      refine ⟨_, rfl, _, rfl, a, ns, i0, by rw [ei]; rfl, m0.seq hl, hn, by omega, fun b G1 fb0 m1 hb => ?_⟩
      have fb := m0.free fb0
      replace m1 := m0.trans m1
      refine ⟨_, rfl, b, 3, rfl, hb, by decide, by decide, fun G2 d k2 hd => ⟨_, _, rfl, rfl, _, rfl, ite2 (fun hc => ?_) (fun hc => ?_)⟩⟩
      · refine ⟨_, rfl, b, rfl, k2.1, fun GM pm ms k3 fp eM hdom => ?_⟩
        have kM := k2.trans k3
        have hpm := k2.1.ne fp
        have hm := hdom.mks
        refine ⟨_, rfl, _, rfl, b, pm, ms, rfl, kM.1, hpm, eM, hgood ms hdom, fun G4 k4 => ⟨_, rfl, ?_⟩⟩
        have k14 := kM.trans k4
        have e4 := k4.2 _ _ hpm eM
        refine ⟨_, _, rfl, rfl, by show 5 ≤ sizeLine; decide, fun pt npt => ⟨pt, rfl, ⟨_, .of upd_same⟩, for_sq (k := false) (K := K) (a := pt) (xs := badV) (fun i σ G => Same G4 G ∧ G pt = some (.tup badV) ∧ ∃ x4, σ = [some (.ref a), some (.int ((0 : Int) + i0)), some (.ref b), some (.ref pm), x4, none]) ⟨same_upd npt, upd_same, x4, rfl⟩ (fun i σ G _ p => (SqT.of p.2.1 : SqT K G pt _)) (fun i v σ G hv p => ?_) (fun σ G p => ?_)⟩⟩
        · obtain ⟨m5, ePT, x4, rfl⟩ := p
          obtain ⟨v1, ⟨ty, v2⟩, v3, t, v4, v5, v6⟩ := bad_of (List.mem_of_getElem? hv)
          refine ⟨_, rfl, fun x dx nx ndx nex => ?_⟩
          have e5 := m5 _ _ e4
          have hax : pm ≠ x := ne_of_none e5 nx
          have hadx : pm ≠ dx := ne_of_none e5 ndx
          refine ⟨x, dx, pm, ms, rfl, upd_same, .of (by rw [upd_ne hax, upd_ne hadx]; exact e5), hm, fun H6 hk hh => ⟨rfl, ?_⟩⟩
          have m6 : Same G H6 := fun c o e => hk c o (ne_of_none e nx) (by rw [upd_ne (ne_of_none e nx), upd_ne (ne_of_none e ndx)]; exact e)
          refine ⟨_, rfl, x, ms, v, ty, rfl, hh, hm, v2, fun n en hn => absurd hn (v3 n en), fun _ dd hdd => ?_⟩
          refine ⟨true, T.eR.exm, fun _ ae hae => ?_, fun q => by cases q⟩
          refine ⟨_, rfl, rfl, rfl, dd, _, _, rfl, upd_same, rfl, v, t, rfl, v4, v5, v6, _, rfl, v, t, rfl, v4, v5, v6, rfl, _, rfl, ?_⟩
          rw [decide_eq_true rfl]
          refine ⟨_, rfl, rfl, ⟨dd, _, rfl, upd_same⟩, _, _, true, rfl, fun u hu => hu, T.eR.log, _, rfl, ?_⟩
          have m7 := m6.trans (same_upd (o := .xd [("at", v)]) hdd)
          exact ⟨m5.trans m7, m7 _ _ ePT, _, rfl⟩
        · obtain ⟨m5, ePT, x4, rfl⟩ := p
          exact ⟨(k14.all m1 fb).trans m5, _, _, _, _, rfl⟩
      · refine ⟨_, rfl, ?_⟩
        have L0 : Same G2 G2 ∧ Lsts G2 G2 [] [] := ⟨Same.refl _, .nil⟩
        refine ⟨by show 3 ≤ sizeLine; decide, fun p1 n1 => ?_⟩
        have L1 := Lsts.snoc L0 [2, 2, 3] n1
        refine ⟨by show 3 ≤ sizeLine; decide, fun p2 n2 => ?_⟩
        have L2 := Lsts.snoc L1 [2, 3, 5] n2
        refine ⟨by show 3 ≤ sizeLine; decide, fun p3 n3 => ?_⟩
        have L3 := Lsts.snoc L2 [3, 3, 2] n3
        refine ⟨by show 2 ≤ sizeLine; decide, fun p4 n4 => ?_⟩
        have L4 := Lsts.snoc L3 [1, 5] n4
        refine ⟨by show 3 ≤ sizeLine; decide, fun p5 n5 => ?_⟩
        have L5 := Lsts.snoc L4 [2, 3, 4] n5
        refine ⟨by show 2 ≤ sizeLine; decide, fun p6 n6 => ?_⟩
        have L6 := Lsts.snoc L5 [1, 1] n6
        refine ⟨by show 2 ≤ sizeLine; decide, fun p7 n7 => ?_⟩
        have L7 := Lsts.snoc L6 [1, 60] n7
        refine ⟨by show 3 ≤ sizeLine; decide, fun p8 n8 => ?_⟩
        have L8 := Lsts.snoc L7 [2, 2, 9] n8
        refine ⟨by show 4 ≤ sizeLine; decide, fun p9 n9 => ?_⟩
        have L9 := Lsts.snoc L8 [2, 3, 6, 60] n9
        refine ⟨by show 9 ≤ sizeLine; decide, fun pl npl => ?_⟩
        have k9 := k2.same L9.1
        have k10 := k9.same (same_upd (o := .lst [.ref p1, .ref p2, .ref p3, .ref p4, .ref p5, .ref p6, .ref p7, .ref p8, .ref p9]) npl)
        refine ⟨b, pl, _, rfl, k10.1, k9.1.ne npl, .of upd_same, (show 1 ≤ 9 by decide), (show 9 ≤ 10000 by decide), fun GM i v k11 hv => ?_⟩
        obtain ⟨pm, ms, rfl, hms, ep, hn0⟩ := L9.2.get hv
        have hpm := k2.1.ne hn0
        have eM := k11.2 _ _ hpm (same_upd npl _ _ ep)
        have kM := k10.trans k11
        have hall : ∀ c ∈ [[2, 2, 3], [2, 3, 5], [3, 3, 2], [1, 5], [2, 3, 4], [1, 1], [1, 60], [2, 2, 9], [2, 3, 6, 60]], (2 ≤ c.length ∧ c.length ≤ 4 ∧ ∀ m ∈ c, 1 ≤ m ∧ m ≤ 7) ∨ c = [2, 2, 9] ∨ c = [1, 60] ∨ c = [2, 3, 6, 60] := by decide
        have hdom : Dom ms := hall ms hms
        have hm := hdom.mks
        refine ⟨_, rfl, _, rfl, b, pm, ms, rfl, kM.1, hpm, eM, hgood ms hdom, fun G4 k4 => ⟨_, rfl, ?_⟩⟩
        have k14 := kM.trans k4
        have e4 := k4.2 _ _ hpm eM
        refine ⟨_, _, rfl, rfl, by show 5 ≤ sizeLine; decide, fun pt npt => ⟨pt, rfl, ⟨_, .of upd_same⟩, for_sq (k := false) (K := K) (a := pt) (xs := badV) (fun i σ G => Same G4 G ∧ G pt = some (.tup badV) ∧ ∃ x4, σ = [some (.ref a), some (.int ((0 : Int) + i0)), some (.ref b), some (.ref pm), x4, none]) ⟨same_upd npt, upd_same, x4, rfl⟩ (fun i σ G _ p => (SqT.of p.2.1 : SqT K G pt _)) (fun i v σ G hv p => ?_) (fun σ G p => ?_)⟩⟩
        · obtain ⟨m5, ePT, x4, rfl⟩ := p
          obtain ⟨v1, ⟨ty, v2⟩, v3, t, v4, v5, v6⟩ := bad_of (List.mem_of_getElem? hv)
          refine ⟨_, rfl, fun x dx nx ndx nex => ?_⟩
          have e5 := m5 _ _ e4
          have hax : pm ≠ x := ne_of_none e5 nx
          have hadx : pm ≠ dx := ne_of_none e5 ndx
          refine ⟨x, dx, pm, ms, rfl, upd_same, .of (by rw [upd_ne hax, upd_ne hadx]; exact e5), hm, fun H6 hk hh => ⟨rfl, ?_⟩⟩
          have m6 : Same G H6 := fun c o e => hk c o (ne_of_none e nx) (by rw [upd_ne (ne_of_none e nx), upd_ne (ne_of_none e ndx)]; exact e)
          refine ⟨_, rfl, x, ms, v, ty, rfl, hh, hm, v2, fun n en hn => absurd hn (v3 n en), fun _ dd hdd => ?_⟩
          refine ⟨true, T.eR.exm, fun _ ae hae => ?_, fun q => by cases q⟩
          refine ⟨_, rfl, rfl, rfl, dd, _, _, rfl, upd_same, rfl, v, t, rfl, v4, v5, v6, _, rfl, v, t, rfl, v4, v5, v6, rfl, _, rfl, ?_⟩
          rw [decide_eq_true rfl]
          refine ⟨_, rfl, rfl, ⟨dd, _, rfl, upd_same⟩, _, _, true, rfl, fun u hu => hu, T.eR.log, _, rfl, ?_⟩
          have m7 := m6.trans (same_upd (o := .xd [("at", v)]) hdd)
          exact ⟨m5.trans m7, m7 _ _ ePT, _, rfl⟩
        · obtain ⟨m5, ePT, x4, rfl⟩ := p
          exact ⟨(k14.all m1 fb).trans m5, _, _, _, _, rfl⟩
    · obtain ⟨m0, x1, x2, x3, x4, rfl⟩ := p
      refine ⟨by show 2 ≤ sizeLine; decide, fun pl npl => fun x dx nx ndx nex => ?_⟩
      have e5 := upd_same (H := G) (a := pl) (o := .lst (nv [2, 2]))
      have hax : pl ≠ x := ne_of_none e5 nx
      have hadx : pl ≠ dx := ne_of_none e5 ndx
      refine ⟨x, dx, pl, [2, 2], rfl, upd_same, .of (by rw [upd_ne hax, upd_ne hadx]; exact e5), mks22, fun H6 hk hh => ⟨rfl, ?_⟩⟩
      refine ⟨x, [2, 2], .int 60, "int", rfl, hh, mks22, rfl, fun n en hn' H7 m7 => ⟨rfl, ?_⟩, fun hbad => by cases hbad⟩
      have : n = 60 := by have := V.int.inj en; omega
      subst this
      rw [bound22]
      exact q _
end
end W6
namespace W6
open PySem PySem.Spec PyProof.Rows L2
/-! ### what the top leaves of an error class with its own __init__, told by a Bool and by the text -/
abbrev FnE : Type := Option (Str × Str × Arguments × FuncBody × Scope × Addr × List Str × Addr)
def inA (K : PySem.W.Frag) (x : Str) : Addr := He.ma K (He.ga K x) "__init__"
def fnE (K : PySem.W.Frag) (x : Str) : FnE := match K.lookup (inA K x) with
  | some ⟨_, _, .func fd, _⟩ => some (fd.name, fd.qualname, fd.params, fd.body, fd.scope, fd.globals, fd.closure.map (·.1), fd.builtins)
  | _ => none
structure ED where
  x : Str
  fld : Str
  qual : Str
  params : Arguments
  body : List Stmt
  scope : Scope
def ED.val (e : ED) : FnE := some ("__init__", e.qual, e.params, .stmts e.body, e.scope, mainGlobals, ["__class__"], builtinsNs)
def clsE (K : PySem.W.Frag) (C : Addr) : Bool := match K.lookup C with
  | some ⟨.type "type", _, .cls cd, sl⟩ => (match cd.mro, sl.toList with
    | .ref C' :: bm, [_, _, _, _, some (.builtin n), _] => (C' == C && n == "ValueError.__new__") && (!cd.hasDel && (cd.hasDict && HandSPX.refsVE bm))
    | _, _ => false)
  | _ => false
theorem clsE_ok {K : PySem.W.Frag} {C : Addr} (q : clsE K C = true) : ∃ nm' q N bs bm sn sub ab col dd k0 k1 k2 k3 k5, K.lookup C = some (excClassObj nm' q C N bs bm true sn sub ab col dd k0 k1 k2 k3 k5 "ValueError.__new__") ∧ HandSPX.refsVE bm = true := by
  unfold clsE at q
  split at q
  · rename_i dd cd sl ho
    split at q
    · rename_i C' bm k0 k1 k2 k3 n k5 hm hs
      simp only [Bool.and_eq_true, beq_iff_eq, Bool.not_eq_true'] at q
      obtain ⟨⟨rfl, rfl⟩, hdel, hdict, hb⟩ := q
      obtain ⟨nm, bs, mro, ns, qn, hd, sn, sub, ab, col, del⟩ := cd
      dsimp only at hm hdel hdict
      subst hm hdel hdict
      have hsl : sl = #[k0, k1, k2, k3, some (.builtin "ValueError.__new__"), k5] := by
        obtain ⟨l⟩ := sl
        simp only at hs
        rw [hs]
      subst hsl
      exact ⟨nm, qn, ns, bs, bm, sn, sub, ab, col, dd, k0, k1, k2, k3, k5, ho, hb⟩
    · cases q
  · cases q
def fileE (K : PySem.W.Frag) (file : Str) (cd : Value) : Bool := match cd with
  | .ref c => (match K.lookup c with
    | some ⟨_, _, .fields vs, _⟩ => (match (vs[2]? : Option Value) with
      | some (Value.str f _) => file == f
      | _ => false)
    | _ => false)
  | _ => false
theorem fileE_ok {K : PySem.W.Frag} {file : Str} {cd : Value} (q : fileE K file cd = true) : ∃ (c : Addr) (oc : Value) (od : Option Addr) (vs : Array Value) (sl : Array (Option Value)) (f : Str) (t : Tok), cd = .ref c ∧ K.lookup c = some ⟨oc, od, .fields vs, sl⟩ ∧ vs[2]? = some (.str f t) ∧ (file == f) = true := by
  unfold fileE at q
  split at q
  · rename_i c
    split at q
    · rename_i oc od vs sl ho
      split at q
      · rename_i f t hv
        exact ⟨c, oc, od, vs, sl, f, t, rfl, ho, hv, q⟩
      · cases q
    · cases q
  · cases q
def cellE (K : PySem.W.Frag) (C : Addr) (cl : List (Str × Addr)) : Bool := match cl with
  | [(_, cc)] => (match K.lookup cc with
    | some ⟨_, _, .cell (some (.ref C')), _⟩ => decide (C' = C)
    | _ => false)
  | _ => false
theorem cellE_ok {K : PySem.W.Frag} {C : Addr} {cl : List (Str × Addr)} (q : cellE K C cl = true) : ∃ (n : Str) (cc : Addr) (oc : Value) (od : Option Addr) (sl : Array (Option Value)), cl = [(n, cc)] ∧ K.lookup cc = some ⟨oc, od, .cell (some (.ref C)), sl⟩ := by
  unfold cellE at q
  split at q
  · rename_i n cc
    split at q
    · rename_i oc od C' sl ho
      have e := of_decide_eq_true q
      subst e
      exact ⟨n, cc, oc, od, sl, rfl, ho⟩
    · cases q
  · cases q
def noneE (v : Value) : Bool := match v with
  | .none => true
  | _ => false
theorem noneE_ok {v : Value} (h : noneE v = true) : v = .none := by
  cases v with
  | none => rfl
  | _ => cases h
def funE (K : PySem.W.Frag) (file : Str) (e : ED) : Bool := match K.lookup (inA K e.x) with
  | some ⟨_, _, .func fd, _⟩ => noneE fd.defaults && (PySem.W.codeIn K fd.code e.qual && (fileE K file fd.code && cellE K (He.ga K e.x) fd.closure))
  | _ => false
def excE (K : PySem.W.Frag) (C : Addr) : Bool := xfB K C && (He.eqO (PySem.W.findIn K (.ref C) "__class__") (some (some (.builtin "object.__class__"))) && (He.eqO (PySem.W.specialIn K (.builtin "object.__class__") "__get__") (some (some (.builtin "getset_descriptor.__get__"))) &&
  (decide (PySem.W.takesIn K (.builtin "object.__class__") = some true) && decide (PySem.W.mroIn K C (.type "object") = some true))))
def ED.ok (K : PySem.W.Frag) (file : Str) (e : ED) : Bool :=
  clsE K (He.ga K e.x) && (He.eqO (PySem.W.findIn K (.ref (He.ga K e.x)) "__setattr__") (some (some (.builtin "object.__setattr__"))) && (He.eqO (PySem.W.findIn K (.ref (He.ga K e.x)) e.fld) (some none) &&
  (decide (PySem.W.subIn K (.ref (He.ga K e.x)) (.type "BaseException") = some true) && (decide (PySem.W.subIn K (.ref (He.ga K e.x)) (.type "ValueError") = some true) && (decide (PySem.W.typeIn K (.ref (He.ga K e.x)) = some (.type "type")) && (PySem.W.keepIn K (.ref (He.ga K e.x)) &&
  (decide (PySem.W.mroIn K (He.ga K e.x) (.ref (He.ga K e.x)) = some true) && (He.eqO (PySem.W.ks_superIn K (He.ga K e.x) (He.ga K e.x) "__init__") (some (some (.builtin "ValueError.__init__"))) && (He.eqO (PySem.W.nsIn K cStatics "thirdparty.any") (some none) &&
  (He.eqO (PySem.W.findIn K (.ref (He.ga K e.x)) "__init__") (some (some (.ref (inA K e.x)))) && (decide (PySem.W.typeIn K (.ref (inA K e.x)) = some (.type "function")) && (funE K file e && (excE K (He.ga K e.x) &&
  (decide (PySem.W.exmOne K (.ref (He.ga K e.x)) (.ref (He.ga K e.x)) = some true) && decide (PySem.W.kitOne K (.ref (He.ga K e.x)) (.ref (He.ga K "LogError")) = some true)))))))))))))))
theorem err_of {prog : Program} {K : PySem.W.Frag} {mg : Str → Option Value} {file : Str} {e : ED} (hf : (prog.main.file : Str) = file) (htop : (prog.main.scope.names.lookup ("super" : Str)).isSome = false) (hfld : e.fld = "at" ∨ e.fld = "most")
    (gC : mg e.x = some (.ref (He.ga K e.x))) (sup : mg "super" = none) (tx : ∃ (p : W6E.EPos) (msg : Str), e.params = W6E.eA e.fld p ∧ e.body = W6E.eB e.fld msg p ∧ e.scope = W6E.eS e.fld ∧ (p.p2.endLine == p.p4.line) = true)
    (q : e.ok K file = true) (v : fnE K e.x = e.val) : ErrC prog K mg e.x e.fld := by
  obtain ⟨q1, q⟩ := He.ba q
  obtain ⟨q2, q⟩ := He.ba q
  obtain ⟨q3, q⟩ := He.ba q
  obtain ⟨q4, q⟩ := He.ba q
  obtain ⟨q5, q⟩ := He.ba q
  obtain ⟨q6, q⟩ := He.ba q
  obtain ⟨q7, q⟩ := He.ba q
  obtain ⟨q8, q⟩ := He.ba q
  obtain ⟨q9, q⟩ := He.ba q
  obtain ⟨q10, q⟩ := He.ba q
  obtain ⟨q11, q⟩ := He.ba q
  obtain ⟨q12, q⟩ := He.ba q
  obtain ⟨q13, q⟩ := He.ba q
  obtain ⟨q14, q⟩ := He.ba q
  obtain ⟨q15, q16⟩ := He.ba q
  obtain ⟨x1, q17⟩ := He.ba q14
  obtain ⟨x2, q17⟩ := He.ba q17
  obtain ⟨x3, q17⟩ := He.ba q17
  obtain ⟨x4, x5⟩ := He.ba q17
  have xf := xfB_ok x1
  obtain ⟨p, msg, t1, t2, t3, t4⟩ := tx
  unfold funE at q13
  unfold fnE at v
  cases hl : K.lookup (inA K e.x) with
  | none =>
    rw [hl] at q13
    cases q13
  | some o =>
    obtain ⟨oc, od, dt, osl⟩ := o
    rw [hl] at q13 v
    cases dt with
    | func fd =>
      obtain ⟨n1, n2, n3, n4, n5, n6, n7, n8, n9, n10, n11, n12, n13, n14, n15⟩ := fd
      have v2 : (some (n1, n2, n3, n4, n5, n6, n7.map (·.1), n15) : FnE) = (some (("__init__" : Str), e.qual, e.params, FuncBody.stmts e.body, e.scope, mainGlobals, [("__class__" : Str)], builtinsNs) : FnE) := v
      have q13 : (noneE n8 && (PySem.W.codeIn K n13 e.qual && (fileE K file n13 && cellE K (He.ga K e.x) n7))) = true := q13
      obtain ⟨k1, q13⟩ := He.ba q13
      obtain ⟨k2, q13⟩ := He.ba q13
      obtain ⟨k3, k4⟩ := He.ba q13
      obtain ⟨c, coc, cod, vs, csl, f, t, rfl, c1, c2, c3⟩ := fileE_ok k3
      obtain ⟨nn, cc, ccl, ccd, ccs, rfl, c4⟩ := cellE_ok k4
      have k1 := noneE_ok k1
      simp only [Option.some.injEq, Prod.mk.injEq, List.map_cons, List.map_nil, List.cons.injEq, and_true] at v2
      obtain ⟨h1, h2, h3, h4, h5, h6, h7, h8⟩ := v2
      subst h1 h2 h3 h4 h5 h6 h7 h8 k1
      rw [t1, t2, t3] at hl
      exact ⟨⟨gC, hfld, clsE_ok q1, He.eqO_ok q2, He.eqO_ok q3, of_decide_eq_true q4, of_decide_eq_true q5, of_decide_eq_true q6, q7, of_decide_eq_true q8, He.eqO_ok q9, He.eqO_ok q10, sup, htop,
        ⟨inA K e.x, cc, c, e.qual, msg, p, oc, od, n9, n10, n11, n12, n14, osl, coc, ccl, cod, ccd, csl, ccs, vs, f, t, He.eqO_ok q11, of_decide_eq_true q12, hl, k2, t4, c1, c2, by rw [hf]; exact c3, c4⟩⟩,
        xf, ⟨xf.ga, xf.gg, xf.exC, xf.hdC, He.eqO_ok x2, He.eqO_ok x3, of_decide_eq_true x4, of_decide_eq_true x5⟩, of_decide_eq_true q15, of_decide_eq_true q16⟩
    | _ => cases q13
/-! ### the Hook: the layer's, and the errors -/
abbrev AlX : Type := (Bool × List FnE) × He.AlD
def obsX (file : Str) (es : List ED) (fa : List He.Fa) (fn : List He.DefD) (K : PySem.W.Frag) : AlX := ((es.all fun e => e.ok K file, es.map fun e => fnE K e.x), He.obsD fa fn K)
def valX (es : List ED) (fn : List He.DefD) : AlX := ((true, es.map ED.val), He.valD fn)
def obsXG (n : Nat) (file : Str) (es : List ED) (fa : List He.Fa) (fn : List He.DefD) (g : Addr → Option Obj) : AlX := obsX file es fa fn (He.frG g (cStatics :: He.asD g n))
def hookX (n : Nat) (file : Str) (es : List ED) (fa : List He.Fa) (fn : List He.DefD) : PySem.W.Hook where
  α := AlX
  obs := fun s => obsXG n file es fa fn s.heap.get?
  val := fun _ => valX es fn
  says := fun _ h => ∃ K : PySem.W.Frag, K.In h ∧ obsX file es fa fn K = valX es fn
  of := fun _ s q => ⟨He.frG s.heap.get? (cStatics :: He.asD s.heap.get? n), He.frG_in, q⟩
  keeps := fun _ _ _ ⟨K, hK, q⟩ k => ⟨K, hK.keeps k, q⟩
theorem obsXG_eq {n : Nat} {file : Str} {es : List ED} {fa : List He.Fa} {fn : List He.DefD} {g : Addr → Option Obj} {s : Shared} (h : ∀ a, g a = s.heap.get? a) : obsXG n file es fa fn g = (hookX n file es fa fn).obs s := by
  obtain rfl : g = s.heap.get? := funext h
  rfl
section
variable {file : Str} {es : List ED} {fa : List He.Fa} {fn : List He.DefD} {K : PySem.W.Frag}
theorem saysX_d (c : obsX file es fa fn K = valX es fn) : He.SaysD fa fn K := congrArg Prod.snd c
theorem saysX_e (c : obsX file es fa fn K = valX es fn) (i : Nat) {e : ED} (h : es[i]? = some e := by rfl) : e.ok K file = true ∧ fnE K e.x = e.val := by
  have c1 : (es.all fun e => e.ok K file) = true := congrArg (fun z : AlX => z.1.1) c
  have c2 : es.map (fun e => fnE K e.x) = es.map ED.val := congrArg (fun z : AlX => z.1.2) c
  refine ⟨List.all_eq_true.mp c1 e (List.mem_of_getElem? h), ?_⟩
  have e2 : (es.map fun e => fnE K e.x)[i]? = (es.map ED.val)[i]? := by rw [c2]
  rw [List.getElem?_map, List.getElem?_map, h] at e2
  exact Option.some.inj e2
end
end W6
namespace W6
open PySem PySem.Spec PyProof.Rows L2
/-! ### the end -/
def dd (x : Str) (i : Nat) : He.DefD := ⟨(x, none), x, x, defArgs (topS i), defBody (topS i), defScope (topS i), [], []⟩
def dk (x : Str) (i : Nat) : He.DefD := ⟨(x, none), x, x, defArgs (topS i), defBody (topS i), defScope (topS i), [], [("most", .int 400)]⟩
def dI : He.DefD := ⟨("Hands", some "__init__"), "__init__", "Hands.__init__", defArgs (inClass (topS 19) 0), defBody (inClass (topS 19) 0), defScope (inClass (topS 19) 0), [], []⟩
def fnL : List He.DefD := [dd "is_integer" 8, dd "is_number" 9, dd "is_below" 10, dd "is_within" 11, dd "is_sequence" 12, dd "is_text" 13, dd "common_divisor" 14, dd "common_multiple" 15, dd "least_terms" 16, dd "check_marks" 18, dd "sum_of_parts" 20, dd "share" 21, dd "is_telling" 22, dd "orders_of" 25, dd "fillings_of" 26, dd "next_hand" 27, dd "dearest_counts" 28, dd "check_deeds" 29, dd "crowded_counts" 30, dd "failing_counts" 35, dk "least_failing" 36, dk "court_paper" 37, dd "court_holds" 38, dd "crowd_bound" 39, dd "_law_box" 41, dd "_law_take" 42, dd "_law_pick" 43, dd "_law_marks" 44, dd "_law_fits" 45, dd "_law_all" 46, dd "_law_counts" 47, dd "_law_orders" 48, dd "_law_fillings" 49, dd "_law_least" 50, dd "_law_is_crowded" 51, dd "_law_share" 52, dd "_law_held" 53, dd "_law_bent" 54, dd "_law_case_right" 55, dd "law" 56, dI]
def faL : List He.Fa := [.glo "is_integer", .glo "is_number", .glo "is_below", .glo "is_within", .glo "is_sequence", .glo "is_text", .glo "common_divisor", .glo "common_multiple", .glo "least_terms", .glo "check_marks", .glo "sum_of_parts", .glo "share", .glo "is_telling", .glo "orders_of", .glo "fillings_of", .glo "next_hand", .glo "dearest_counts", .glo "check_deeds", .glo "crowded_counts", .glo "failing_counts", .glo "least_failing", .glo "court_paper", .glo "court_holds", .glo "crowd_bound", .glo "_law_box", .glo "_law_take", .glo "_law_pick", .glo "_law_marks", .glo "_law_fits", .glo "_law_all", .glo "_law_counts", .glo "_law_orders", .glo "_law_fillings", .glo "_law_least", .glo "_law_is_crowded", .glo "_law_share", .glo "_law_held", .glo "_law_bent", .glo "_law_case_right", .glo "law", .glo "LogError", .glo "Refused", .glo "TooGreat", .glo "Hands", .free "isinstance", .free "int", .free "bool", .free "list", .free "tuple", .free "str", .free "len", .free "enumerate", .free "sum", .free "range", .free "zip", .free "min", .free "max", .free "all", .free "abs", .free "repr", .free "super", .int "MOST_HANDS" 8, .int "MOST_MARKS" 60, .int "MOST_DEEDS" 400, .int "MOST_LOOKED" 400, .int "MOST_CROWD" 60, .int "MOST_PAPER" 3000, .cls "Hands", .noat "Hands" "marks", .noat "Hands" "many", .mkr "Hands"]
def eRefused : ED := ⟨"Refused", "at", "Refused.__init__", defArgs (inClass (topS 3) 0), defBody (inClass (topS 3) 0), defScope (inClass (topS 3) 0)⟩
theorem txRefused : ∃ (p : W6E.EPos) (msg : Str), eRefused.params = W6E.eA eRefused.fld p ∧ eRefused.body = W6E.eB eRefused.fld msg p ∧ eRefused.scope = W6E.eS eRefused.fld ∧ (p.p2.endLine == p.p4.line) = true := ⟨⟨_, _, _, _, _, _, _, _, _, _, _, _, _⟩, _, rfl, rfl, rfl, rfl⟩
def eTooGreat : ED := ⟨"TooGreat", "most", "TooGreat.__init__", defArgs (inClass (topS 4) 0), defBody (inClass (topS 4) 0), defScope (inClass (topS 4) 0)⟩
theorem txTooGreat : ∃ (p : W6E.EPos) (msg : Str), eTooGreat.params = W6E.eA eTooGreat.fld p ∧ eTooGreat.body = W6E.eB eTooGreat.fld msg p ∧ eTooGreat.scope = W6E.eS eTooGreat.fld ∧ (p.p2.endLine == p.p4.line) = true := ⟨⟨_, _, _, _, _, _, _, _, _, _, _, _, _⟩, _, rfl, rfl, rfl, rfl⟩
def esL : List ED := [eRefused, eTooGreat]
def lo1 : List PySem.Str := ["LogError", "BadHands", "Refused", "TooGreat", "MOST_HANDS", "MOST_MARKS", "is_integer", "is_number", "is_below", "is_within", "is_sequence", "is_text", "common_divisor", "common_multiple", "least_terms", "check_marks", "Hands", "sum_of_parts", "share", "is_telling", "MOST_DEEDS", "orders_of", "fillings_of", "next_hand", "dearest_counts"]
def lo2 : List PySem.Str := ["check_deeds", "crowded_counts", "MOST_LOOKED", "MOST_CROWD", "MOST_PAPER", "failing_counts", "least_failing", "court_paper", "court_holds", "crowd_bound", "_law_box", "_law_take", "_law_pick", "_law_marks", "_law_fits", "_law_all", "_law_counts", "_law_orders", "_law_fillings", "_law_least", "_law_is_crowded", "_law_share", "_law_held", "_law_bent", "_law_case_right"]
abbrev RR : PySem.W.OpenRow := PySem.W.OpenLaw.row PySem.Challenge.rw_logsapart_k06_whole_numbers_of_stories_a
abbrev hkL : PySem.W.Hook := hookX 4 RR.prog.main.file esL faL fnL
def obL (s : PySem.W.SharedT) : AlX := obsXG 4 RR.prog.main.file esL faL fnL (HandSHeadRun.getT s)
theorem obL_eq (s : PySem.W.SharedT) : obL s = hkL.obs s.abs := obsXG_eq (HandSHeadRun.getT_eq s)
theorem runL (w : World) : HandSHeadRun.RunEq RR (PySem.W.view RR.prog [56]) hkL obL 4000 (lo1 ++ lo2) w := by
  intro os
  kernel_rfl
theorem tx_of {K : PySem.W.Frag} {h : Heap} {mg : Str → Option Value} (X : K.In h) (G : h.Ns mainGlobals mg) (c : obsX RR.prog.main.file esL faL fnL K = valX esL fnL) : Tx RR.prog K mg := by
  have cd := saysX_d c
  have sup : mg "super" = none := He.free_ok X G (cd.fact 60 (f := .free "super") rfl)
  have top : (RR.prog.main.scope.names.lookup ("super" : Str)).isSome = false := by decide +kernel
  exact {
    d_is_integer := ⟨cd.def_ 0 (d := dd "is_integer" 8) rfl, He.glo_ok X G (cd.fact 0 (f := .glo "is_integer") rfl)⟩,
    d_is_number := ⟨cd.def_ 1 (d := dd "is_number" 9) rfl, He.glo_ok X G (cd.fact 1 (f := .glo "is_number") rfl)⟩,
    d_is_below := ⟨cd.def_ 2 (d := dd "is_below" 10) rfl, He.glo_ok X G (cd.fact 2 (f := .glo "is_below") rfl)⟩,
    d_is_within := ⟨cd.def_ 3 (d := dd "is_within" 11) rfl, He.glo_ok X G (cd.fact 3 (f := .glo "is_within") rfl)⟩,
    d_is_sequence := ⟨cd.def_ 4 (d := dd "is_sequence" 12) rfl, He.glo_ok X G (cd.fact 4 (f := .glo "is_sequence") rfl)⟩,
    d_is_text := ⟨cd.def_ 5 (d := dd "is_text" 13) rfl, He.glo_ok X G (cd.fact 5 (f := .glo "is_text") rfl)⟩,
    d_common_divisor := ⟨cd.def_ 6 (d := dd "common_divisor" 14) rfl, He.glo_ok X G (cd.fact 6 (f := .glo "common_divisor") rfl)⟩,
    d_common_multiple := ⟨cd.def_ 7 (d := dd "common_multiple" 15) rfl, He.glo_ok X G (cd.fact 7 (f := .glo "common_multiple") rfl)⟩,
    d_least_terms := ⟨cd.def_ 8 (d := dd "least_terms" 16) rfl, He.glo_ok X G (cd.fact 8 (f := .glo "least_terms") rfl)⟩,
    d_check_marks := ⟨cd.def_ 9 (d := dd "check_marks" 18) rfl, He.glo_ok X G (cd.fact 9 (f := .glo "check_marks") rfl)⟩,
    d_sum_of_parts := ⟨cd.def_ 10 (d := dd "sum_of_parts" 20) rfl, He.glo_ok X G (cd.fact 10 (f := .glo "sum_of_parts") rfl)⟩,
    d_share := ⟨cd.def_ 11 (d := dd "share" 21) rfl, He.glo_ok X G (cd.fact 11 (f := .glo "share") rfl)⟩,
    d_is_telling := ⟨cd.def_ 12 (d := dd "is_telling" 22) rfl, He.glo_ok X G (cd.fact 12 (f := .glo "is_telling") rfl)⟩,
    d_orders_of := ⟨cd.def_ 13 (d := dd "orders_of" 25) rfl, He.glo_ok X G (cd.fact 13 (f := .glo "orders_of") rfl)⟩,
    d_fillings_of := ⟨cd.def_ 14 (d := dd "fillings_of" 26) rfl, He.glo_ok X G (cd.fact 14 (f := .glo "fillings_of") rfl)⟩,
    d_next_hand := ⟨cd.def_ 15 (d := dd "next_hand" 27) rfl, He.glo_ok X G (cd.fact 15 (f := .glo "next_hand") rfl)⟩,
    d_dearest_counts := ⟨cd.def_ 16 (d := dd "dearest_counts" 28) rfl, He.glo_ok X G (cd.fact 16 (f := .glo "dearest_counts") rfl)⟩,
    d_check_deeds := ⟨cd.def_ 17 (d := dd "check_deeds" 29) rfl, He.glo_ok X G (cd.fact 17 (f := .glo "check_deeds") rfl)⟩,
    d_crowded_counts := ⟨cd.def_ 18 (d := dd "crowded_counts" 30) rfl, He.glo_ok X G (cd.fact 18 (f := .glo "crowded_counts") rfl)⟩,
    d_failing_counts := ⟨cd.def_ 19 (d := dd "failing_counts" 35) rfl, He.glo_ok X G (cd.fact 19 (f := .glo "failing_counts") rfl)⟩,
    d_least_failing := ⟨cd.def_ 20 (d := dk "least_failing" 36) rfl, He.glo_ok X G (cd.fact 20 (f := .glo "least_failing") rfl)⟩,
    d_court_paper := ⟨cd.def_ 21 (d := dk "court_paper" 37) rfl, He.glo_ok X G (cd.fact 21 (f := .glo "court_paper") rfl)⟩,
    d_court_holds := ⟨cd.def_ 22 (d := dd "court_holds" 38) rfl, He.glo_ok X G (cd.fact 22 (f := .glo "court_holds") rfl)⟩,
    d_crowd_bound := ⟨cd.def_ 23 (d := dd "crowd_bound" 39) rfl, He.glo_ok X G (cd.fact 23 (f := .glo "crowd_bound") rfl)⟩,
    d_law_box := ⟨cd.def_ 24 (d := dd "_law_box" 41) rfl, He.glo_ok X G (cd.fact 24 (f := .glo "_law_box") rfl)⟩,
    d_law_take := ⟨cd.def_ 25 (d := dd "_law_take" 42) rfl, He.glo_ok X G (cd.fact 25 (f := .glo "_law_take") rfl)⟩,
    d_law_pick := ⟨cd.def_ 26 (d := dd "_law_pick" 43) rfl, He.glo_ok X G (cd.fact 26 (f := .glo "_law_pick") rfl)⟩,
    d_law_marks := ⟨cd.def_ 27 (d := dd "_law_marks" 44) rfl, He.glo_ok X G (cd.fact 27 (f := .glo "_law_marks") rfl)⟩,
    d_law_fits := ⟨cd.def_ 28 (d := dd "_law_fits" 45) rfl, He.glo_ok X G (cd.fact 28 (f := .glo "_law_fits") rfl)⟩,
    d_law_all := ⟨cd.def_ 29 (d := dd "_law_all" 46) rfl, He.glo_ok X G (cd.fact 29 (f := .glo "_law_all") rfl)⟩,
    d_law_counts := ⟨cd.def_ 30 (d := dd "_law_counts" 47) rfl, He.glo_ok X G (cd.fact 30 (f := .glo "_law_counts") rfl)⟩,
    d_law_orders := ⟨cd.def_ 31 (d := dd "_law_orders" 48) rfl, He.glo_ok X G (cd.fact 31 (f := .glo "_law_orders") rfl)⟩,
    d_law_fillings := ⟨cd.def_ 32 (d := dd "_law_fillings" 49) rfl, He.glo_ok X G (cd.fact 32 (f := .glo "_law_fillings") rfl)⟩,
    d_law_least := ⟨cd.def_ 33 (d := dd "_law_least" 50) rfl, He.glo_ok X G (cd.fact 33 (f := .glo "_law_least") rfl)⟩,
    d_law_is_crowded := ⟨cd.def_ 34 (d := dd "_law_is_crowded" 51) rfl, He.glo_ok X G (cd.fact 34 (f := .glo "_law_is_crowded") rfl)⟩,
    d_law_share := ⟨cd.def_ 35 (d := dd "_law_share" 52) rfl, He.glo_ok X G (cd.fact 35 (f := .glo "_law_share") rfl)⟩,
    d_law_held := ⟨cd.def_ 36 (d := dd "_law_held" 53) rfl, He.glo_ok X G (cd.fact 36 (f := .glo "_law_held") rfl)⟩,
    d_law_bent := ⟨cd.def_ 37 (d := dd "_law_bent" 54) rfl, He.glo_ok X G (cd.fact 37 (f := .glo "_law_bent") rfl)⟩,
    d_law_case_right := ⟨cd.def_ 38 (d := dd "_law_case_right" 55) rfl, He.glo_ok X G (cd.fact 38 (f := .glo "_law_case_right") rfl)⟩,
    d_law := ⟨cd.def_ 39 (d := dd "law" 56) rfl, He.glo_ok X G (cd.fact 39 (f := .glo "law") rfl)⟩,
    n_isinstance := He.free_ok X G (cd.fact 44 (f := .free "isinstance") rfl),
    n_int := He.free_ok X G (cd.fact 45 (f := .free "int") rfl),
    n_bool := He.free_ok X G (cd.fact 46 (f := .free "bool") rfl),
    n_list := He.free_ok X G (cd.fact 47 (f := .free "list") rfl),
    n_tuple := He.free_ok X G (cd.fact 48 (f := .free "tuple") rfl),
    n_str := He.free_ok X G (cd.fact 49 (f := .free "str") rfl),
    n_len := He.free_ok X G (cd.fact 50 (f := .free "len") rfl),
    n_enumerate := He.free_ok X G (cd.fact 51 (f := .free "enumerate") rfl),
    n_sum := He.free_ok X G (cd.fact 52 (f := .free "sum") rfl),
    n_range := He.free_ok X G (cd.fact 53 (f := .free "range") rfl),
    n_zip := He.free_ok X G (cd.fact 54 (f := .free "zip") rfl),
    n_min := He.free_ok X G (cd.fact 55 (f := .free "min") rfl),
    n_max := He.free_ok X G (cd.fact 56 (f := .free "max") rfl),
    n_all := He.free_ok X G (cd.fact 57 (f := .free "all") rfl),
    n_abs := He.free_ok X G (cd.fact 58 (f := .free "abs") rfl),
    n_repr := He.free_ok X G (cd.fact 59 (f := .free "repr") rfl),
    c_MOST_HANDS := He.int_ok X G (cd.fact 61 (f := .int "MOST_HANDS" 8) rfl),
    c_MOST_MARKS := He.int_ok X G (cd.fact 62 (f := .int "MOST_MARKS" 60) rfl),
    c_MOST_DEEDS := He.int_ok X G (cd.fact 63 (f := .int "MOST_DEEDS" 400) rfl),
    c_MOST_LOOKED := He.int_ok X G (cd.fact 64 (f := .int "MOST_LOOKED" 400) rfl),
    c_MOST_CROWD := He.int_ok X G (cd.fact 65 (f := .int "MOST_CROWD" 60) rfl),
    c_MOST_PAPER := He.int_ok X G (cd.fact 66 (f := .int "MOST_PAPER" 3000) rfl),
    gH := He.glo_ok X G (cd.fact 43 (f := .glo "Hands") rfl),
    clH := He.cls_ok (cd.fact 67 (f := .cls "Hands") rfl),
    aMarks := He.noat_ok (cd.fact 68 (f := .noat "Hands" "marks") rfl),
    aMany := He.noat_ok (cd.fact 69 (f := .noat "Hands" "many") rfl),
    mkH := He.mkr_ok (cd.fact 70 (f := .mkr "Hands") rfl),
    iH := cd.def_ 40 (d := dI) rfl,
    gL := He.glo_ok X G (cd.fact 40 (f := .glo "LogError") rfl),
    eR := err_of (e := eRefused) rfl top (.inl rfl) (He.glo_ok X G (cd.fact 41 (f := .glo "Refused") rfl)) sup txRefused (saysX_e c 0 (e := eRefused) rfl).1 (saysX_e c 0 (e := eRefused) rfl).2,
    eT := err_of (e := eTooGreat) rfl top (.inr rfl) (He.glo_ok X G (cd.fact 42 (f := .glo "TooGreat") rfl)) sup txTooGreat (saysX_e c 1 (e := eTooGreat) rfl).1 (saysX_e c 1 (e := eTooGreat) rfl).2 }
theorem dom_good (ms : List Nat) (h : Dom ms) : Good ms := ⟨h, fun hf => K6.chk_ok h.mks.pos h.mks.ne (K6.chk_dom h) hf⟩
end W6
open PySem PyProof.Rows PySem.Calls PySem.W
theorem PySem.Challenge.cw_logsapart_k06_whole_numbers_of_stories_a_holds : PySem.Challenge.rw_logsapart_k06_whole_numbers_of_stories_a.Holds := by
  w_on; o_law
  refine HandSHeadRun.head_any (r := OpenLaw.row PySem.Challenge.rw_logsapart_k06_whole_numbers_of_stories_a) (d := HandSHeadRun.topDef (OpenLaw.row PySem.Challenge.rw_logsapart_k06_whole_numbers_of_stories_a).prog 56) (q := view (OpenLaw.row PySem.Challenge.rw_logsapart_k06_whole_numbers_of_stories_a).prog [56]) (kwd := []) (M := 4000) (loose := W6.lo1 ++ W6.lo2) (H := W6.hkL) (ob := W6.obL) W6.obL_eq
    (by kernel_rfl) (fun s => by kernel_rfl) W6.runL (by kernel_rfl) (by kernel_rfl) (by kernel_rfl) (by rfl) (by first | assumption | decide +kernel) (by decide +kernel) ⟨rfl, rfl, rfl, rfl, rfl, by decide +kernel⟩ ?hw ?hc
  case hw => w_witness2
  case hc =>
    refine W6.walk_ofG (x := "_law_script") (l := PySem.Challenge.rw_logsapart_k06_whole_numbers_of_stories_a) (k := 8) (n := 63) (CX := L2.CX0) rfl (by decide) (by kernel_rfl) ⟨rfl, by decide, by decide⟩ (fun w mg fa h Y G hmg0 => ?_) (fun _ _ _ _ z => z)
    obtain ⟨K, KX, c⟩ := Y
    have hmg : mg ("law" : PySem.Str) = some (.ref fa) := by
      have en : (HandSHeadRun.topDef (OpenLaw.row PySem.Challenge.rw_logsapart_k06_whole_numbers_of_stories_a).prog 56).name = ("law" : PySem.Str) := by kernel_rfl
      rw [← en]
      exact hmg0
    have T := W6.tx_of KX G c
    have efa : fa = He.ga K "law" := by
      have z := hmg.symm.trans T.d_law.g
      cases z
      rfl
    subst efa
    obtain ⟨fd, F⟩ := T.d_law.fn
    exact ⟨K, fd, W6.spLaw K, KX, W6.bind_law F, fun H a ns hl _ hS => ⟨a, ns, rfl, hS, hl, fun _ => rfl⟩, fun base _ _ => W6.ok_law (w := w) (base := base) T W6.dom_good F⟩
