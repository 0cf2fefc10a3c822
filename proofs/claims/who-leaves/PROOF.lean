import PyProof.Rows.All
import Wide.All
import OpenK.AllK
import Wide.FinOn
import HandS.ForMost
import HandS.ForExc
import HandS.Wide
import KE.KEqDeep
import HandS.Codes
import HandS.Walk
import KE.GoesEnum
import KE.GoesMore
import HandS.CallRecv
import HandS.TupAny
import HandS.ExcInit
import HandS.ExcCtx
import HandS.ExcIs
import HandS.ExcField
import HandS.HotCalls
import HandS.RaiseFrom
import KE.KExcIs
import HandS.IsInst
import HandS.More
import PyProof.NsDelKeeps
import PyProof.WalkInts
import PyProof.WalksMore
import HandS.EndBits
import PySem.Challenge.RW_chargeyard_k63_who_leaves
set_option Elab.async false
set_option maxRecDepth 100000
set_option maxHeartbeats 0
/-! A proof that the charge yard keeps the law of who leaves: first the mathematics (flows, fillings, promises), then each def walked once over the hand layer, then the head. -/
section
set_option autoImplicit false
/-! Plain mathematics of a net: arcs in pairs, what is left on them, paths, cuts. Core Lean alone. -/
namespace NM
/-- f 0 + .. + f (n - 1) -/
def sumTo : Nat → (Nat → Int) → Int
  | 0, _ => 0
  | n + 1, f => sumTo n f + f n
theorem sumTo_congr {f g : Nat → Int} : ∀ {n : Nat}, (∀ i, i < n → f i = g i) → sumTo n f = sumTo n g
  | 0, _ => rfl
  | n + 1, h => by
    show sumTo n f + f n = sumTo n g + g n
    rw [sumTo_congr (n := n) fun i hi => h i (Nat.lt_succ_of_lt hi), h n (Nat.lt_succ_self n)]
theorem sumTo_zero {f : Nat → Int} : ∀ {n : Nat}, (∀ i, i < n → f i = 0) → sumTo n f = 0
  | 0, _ => rfl
  | n + 1, h => by
    show sumTo n f + f n = 0
    rw [sumTo_zero (n := n) fun i hi => h i (Nat.lt_succ_of_lt hi), h n (Nat.lt_succ_self n)]; rfl
theorem sumTo_add (f g : Nat → Int) : ∀ n, sumTo n (fun i => f i + g i) = sumTo n f + sumTo n g
  | 0 => rfl
  | n + 1 => by
    show sumTo n _ + (f n + g n) = sumTo n f + f n + (sumTo n g + g n)
    rw [sumTo_add f g n]; omega
theorem sumTo_sub (f g : Nat → Int) : ∀ n, sumTo n (fun i => f i - g i) = sumTo n f - sumTo n g
  | 0 => rfl
  | n + 1 => by
    show sumTo n _ + (f n - g n) = sumTo n f + f n - (sumTo n g + g n)
    rw [sumTo_sub f g n]; omega
theorem sumTo_mul (d : Int) (f : Nat → Int) : ∀ n, sumTo n (fun i => d * f i) = d * sumTo n f
  | 0 => by show (0 : Int) = d * 0; rw [Int.mul_zero]
  | n + 1 => by
    show sumTo n _ + d * f n = d * (sumTo n f + f n)
    rw [sumTo_mul d f n, Int.mul_add]
theorem sumTo_le {f g : Nat → Int} : ∀ {n : Nat}, (∀ i, i < n → f i ≤ g i) → sumTo n f ≤ sumTo n g
  | 0, _ => Int.le_refl _
  | n + 1, h => by
    show sumTo n f + f n ≤ sumTo n g + g n
    have h1 := sumTo_le (n := n) fun i hi => h i (Nat.lt_succ_of_lt hi)
    have h2 := h n (Nat.lt_succ_self n)
    omega
theorem sumTo_nonneg {f : Nat → Int} {n : Nat} (h : ∀ i, i < n → 0 ≤ f i) : 0 ≤ sumTo n f := by
  have q := sumTo_le (f := fun _ => 0) (g := f) h
  rw [sumTo_zero fun _ _ => rfl] at q
  exact q
theorem sumTo_single {f : Nat → Int} {k : Nat} : ∀ {n : Nat}, (∀ i, i < n → i ≠ k → f i = 0) → k < n → sumTo n f = f k
  | 0, _, h => absurd h (Nat.not_lt_zero k)
  | n + 1, h, hk => by
    show sumTo n f + f n = f k
    by_cases e : k = n
    · subst e
      rw [sumTo_zero fun i hi => h i (Nat.lt_succ_of_lt hi) (Nat.ne_of_lt hi)]; omega
    · rw [sumTo_single (n := n) (fun i hi => h i (Nat.lt_succ_of_lt hi)) (by omega), h n (Nat.lt_succ_self n) (Ne.symm e)]; omega
theorem sumTo_term {f : Nat → Int} {k : Nat} : ∀ {n : Nat}, (∀ i, i < n → i ≠ k → 0 ≤ f i) → k < n → f k ≤ sumTo n f
  | 0, _, h => absurd h (Nat.not_lt_zero k)
  | n + 1, h, hk => by
    show f k ≤ sumTo n f + f n
    by_cases e : k = n
    · subst e
      have q := sumTo_nonneg (n := k) fun i hi => h i (Nat.lt_succ_of_lt hi) (Nat.ne_of_lt hi)
      omega
    · have q := sumTo_term (n := n) (fun i hi => h i (Nat.lt_succ_of_lt hi)) (by omega)
      have q2 := h n (Nat.lt_succ_self n) (Ne.symm e)
      omega
theorem sumTo_split (f : Nat → Int) (n : Nat) : ∀ m, sumTo (n + m) f = sumTo n f + sumTo m fun i => f (n + i)
  | 0 => by show sumTo n f = sumTo n f + 0; omega
  | m + 1 => by
    show sumTo (n + m) f + f (n + m) = sumTo n f + (sumTo m _ + f (n + m))
    rw [sumTo_split f n m]; omega
theorem sumTo_swap (f : Nat → Nat → Int) (m : Nat) : ∀ n, sumTo n (fun i => sumTo m fun j => f i j) = sumTo m fun j => sumTo n fun i => f i j
  | 0 => by show (0 : Int) = sumTo m fun _ => 0; rw [sumTo_zero fun _ _ => rfl]
  | n + 1 => by
    show sumTo n _ + sumTo m (fun j => f n j) = sumTo m fun j => sumTo n (fun i => f i j) + f n j
    rw [sumTo_add, sumTo_swap f m n]

/-! ### what goes out of a place more than comes in -/
def ex (m : Nat) (u v : Nat → Nat) (f : Nat → Int) (x : Nat) : Int := sumTo m fun i => (if u i = x then f i else 0) - (if v i = x then f i else 0)
section
variable {m N s : Nat} {u v : Nat → Nat} {f g cap : Nat → Int} {S : Nat → Bool}
theorem one_place {N k : Nat} (S : Nat → Bool) (c : Int) (h : k < N) : sumTo N (fun x => if S x = true then (if k = x then c else 0) else 0) = if S k = true then c else 0 := by
  rw [sumTo_single (k := k) (fun i _ hne => by rw [if_neg (show ¬ k = i from fun e => hne e.symm)]; split <;> rfl) h]
  rw [if_pos rfl]
theorem cut_id (S : Nat → Bool) : ∀ {m : Nat}, (∀ i, i < m → u i < N) → (∀ i, i < m → v i < N) →
    sumTo N (fun x => if S x = true then ex m u v f x else 0) = sumTo m fun i => (if S (u i) = true then f i else 0) - (if S (v i) = true then f i else 0)
  | 0, _, _ => by
    show sumTo N (fun x => if S x = true then 0 else 0) = 0
    exact sumTo_zero fun i _ => by split <;> rfl
  | m + 1, hu, hv => by
    have ih := cut_id S (m := m) (fun i hi => hu i (Nat.lt_succ_of_lt hi)) (fun i hi => hv i (Nat.lt_succ_of_lt hi))
    show _ = sumTo m _ + ((if S (u m) = true then f m else 0) - (if S (v m) = true then f m else 0))
    rw [← ih, ← one_place S (f m) (hu m (Nat.lt_succ_self m)), ← one_place S (f m) (hv m (Nat.lt_succ_self m)), ← sumTo_sub, ← sumTo_add]
    refine sumTo_congr fun x _ => ?_
    show (if S x = true then ex m u v f x + ((if u m = x then f m else 0) - (if v m = x then f m else 0)) else 0) = _
    cases S x
    · rfl
    · simp
theorem weak (hu : ∀ i, i < m → u i < N) (hv : ∀ i, i < m → v i < N) (hs : s < N) (hS : S s = true) (hg : ∀ i, i < m → 0 ≤ g i ∧ g i ≤ cap i)
    (hc : ∀ x, x < N → S x = true → x ≠ s → 0 ≤ ex m u v g x) : ex m u v g s ≤ sumTo m fun i => if S (u i) = true ∧ S (v i) = false then cap i else 0 := by
  have h1 : ex m u v g s ≤ sumTo N fun x => if S x = true then ex m u v g x else 0 := by
    have q := sumTo_term (f := fun x => if S x = true then ex m u v g x else 0) (k := s) (n := N) (fun i hi hne => by
      show 0 ≤ if S i = true then ex m u v g i else 0
      split
      · rename_i z; exact hc i hi z hne
      · exact Int.le_refl _) hs
    have e : (if S s = true then ex m u v g s else 0) = ex m u v g s := if_pos hS
    rw [← e]; exact q
  refine Int.le_trans h1 ?_
  rw [cut_id S hu hv]
  refine sumTo_le fun i hi => ?_
  have := hg i hi
  cases S (u i) <;> cases S (v i) <;> simp <;> omega
theorem strong (hu : ∀ i, i < m → u i < N) (hv : ∀ i, i < m → v i < N) (hs : s < N) (hS : S s = true)
    (hc : ∀ x, x < N → S x = true → x ≠ s → ex m u v f x = 0) (hsat : ∀ i, i < m → S (u i) = true → S (v i) = false → f i = cap i) (hz : ∀ i, i < m → S (u i) = false → S (v i) = true → f i = 0) :
    ex m u v f s = sumTo m fun i => if S (u i) = true ∧ S (v i) = false then cap i else 0 := by
  have h1 : (sumTo N fun x => if S x = true then ex m u v f x else 0) = ex m u v f s := by
    rw [sumTo_single (k := s) (fun i hi hne => by
      show (if S i = true then ex m u v f i else 0) = 0
      split
      · rename_i z; exact hc i hi z hne
      · rfl) hs]
    exact if_pos hS
  rw [← h1, cut_id S hu hv]
  refine sumTo_congr fun i hi => ?_
  have a := hsat i hi
  have b := hz i hi
  cases hU : S (u i) <;> cases hV : S (v i) <;> simp
  · exact b hU hV
  · exact a hU hV
/-- no flow brings more out of s than one that fills the cut -/
theorem most (hu : ∀ i, i < m → u i < N) (hv : ∀ i, i < m → v i < N) (hs : s < N) (hS : S s = true) (hg : ∀ i, i < m → 0 ≤ g i ∧ g i ≤ cap i)
    (hc : ∀ x, x < N → S x = true → x ≠ s → 0 ≤ ex m u v g x) (hf : ∀ x, x < N → S x = true → x ≠ s → ex m u v f x = 0)
    (hsat : ∀ i, i < m → S (u i) = true → S (v i) = false → f i = cap i) (hz : ∀ i, i < m → S (u i) = false → S (v i) = true → f i = 0) : ex m u v g s ≤ ex m u v f s := by
  rw [strong hu hv hs hS hf hsat hz]
  exact weak hu hv hs hS hg hc
end

/-! ### arcs by number: 2 i there, 2 i + 1 back -/
def mate (a : Nat) : Nat := if a % 2 = 0 then a + 1 else a - 1
theorem mate_lt {a m : Nat} (h : a < 2 * m) : mate a < 2 * m := by unfold mate; split <;> omega
theorem mate_mate (a : Nat) : mate (mate a) = a := by unfold mate; split <;> split <;> omega
theorem mate_ne (a : Nat) : mate a ≠ a := by unfold mate; split <;> omega
theorem mate_even (i : Nat) : mate (2 * i) = 2 * i + 1 := by unfold mate; split <;> omega
theorem mate_odd (i : Nat) : mate (2 * i + 1) = 2 * i := by unfold mate; split <;> omega
theorem arc_cases (a : Nat) : (a = 2 * (a / 2)) ∨ (a = 2 * (a / 2) + 1) := by omega
abbrev gi (L : List Int) (a : Nat) : Int := L.getD a 0
abbrev gn (E : List Nat) (a : Nat) : Nat := E.getD a 0
/-- an arc ends at E[a], begins at E[mate a] -/
abbrev hd (E : List Nat) (a : Nat) : Nat := gn E a
abbrev tl (E : List Nat) (a : Nat) : Nat := gn E (mate a)
abbrev us (E : List Nat) (i : Nat) : Nat := gn E (2 * i + 1)
abbrev vs (E : List Nat) (i : Nat) : Nat := gn E (2 * i)
/-- what flows over the i-th pair -/
abbrev fl (L : List Int) (i : Nat) : Int := gi L (2 * i + 1)
abbrev exL (E : List Nat) (L : List Int) (m x : Nat) : Int := ex m (us E) (vs E) (fl L) x
theorem gi_set {L : List Int} {a b : Nat} {c : Int} (h : a < L.length) : gi (L.set a c) b = if b = a then c else gi L b := by
  show (L.set a c).getD b 0 = if b = a then c else L.getD b 0
  rw [List.getD_eq_getElem?_getD, List.getD_eq_getElem?_getD, List.getElem?_set]
  by_cases e : a = b
  · subst e; simp [h]
  · rw [if_neg e, if_neg (Ne.symm e)]
/-- self.left[a] -= d; self.left[a ^ 1] += d -/
def push (d : Int) (L : List Int) (a : Nat) : List Int := (L.set a (gi L a - d)).set (mate a) (gi (L.set a (gi L a - d)) (mate a) + d)
theorem push_len (d : Int) (L : List Int) (a : Nat) : (push d L a).length = L.length := by unfold push; simp
theorem push_gi {d : Int} {L : List Int} {m a b : Nat} (hL : L.length = 2 * m) (ha : a < 2 * m) : gi (push d L a) b = gi L b + (if b = mate a then d else 0) - (if b = a then d else 0) := by
  unfold push
  have h1 : a < L.length := by omega
  have h2 : mate a < (L.set a (gi L a - d)).length := by rw [List.length_set]; have := mate_lt ha; omega
  rw [gi_set h2, gi_set h1]
  have hne := mate_ne a
  by_cases e1 : b = mate a
  · rw [if_pos e1, if_pos e1, if_neg hne, if_neg (by rw [e1]; exact hne), ← e1]; omega
  · rw [if_neg e1, if_neg e1]
    rw [gi_set h1]
    by_cases e2 : b = a
    · rw [if_pos e2, if_pos e2, e2]; omega
    · rw [if_neg e2, if_neg e2]; omega
def ind (p : Prop) [Decidable p] : Int := if p then 1 else 0
theorem ex_add {m : Nat} {u v : Nat → Nat} {f g h : Nat → Int} {x : Nat} (e : ∀ i, i < m → f i = g i + h i) : ex m u v f x = ex m u v g x + ex m u v h x := by
  unfold ex
  rw [← sumTo_add]
  refine sumTo_congr fun i hi => ?_
  rw [e i hi]
  split <;> split <;> omega
theorem ex_single {m : Nat} {u v : Nat → Nat} {f : Nat → Int} {x k : Nat} (hk : k < m) (e : ∀ i, i < m → i ≠ k → f i = 0) : ex m u v f x = (if u k = x then f k else 0) - (if v k = x then f k else 0) := by
  unfold ex
  rw [sumTo_single (k := k) (fun i hi hne => ?_) hk]
  rw [e i hi hne]; split <;> split <;> rfl
theorem push_ex {d : Int} {E : List Nat} {L : List Int} {m a x : Nat} (hL : L.length = 2 * m) (ha : a < 2 * m) : exL E (push d L a) m x = exL E L m x + d * (ind (tl E a = x) - ind (hd E a = x)) := by
  have hk : a / 2 < m := by omega
  have e := ex_add (m := m) (u := us E) (v := vs E) (f := fl (push d L a)) (g := fl L) (h := fun i => if i = a / 2 then (if a % 2 = 0 then d else - d) else 0) (x := x) (fun i hi => by
    show gi (push d L a) (2 * i + 1) = gi L (2 * i + 1) + _
    rw [push_gi hL ha]
    unfold mate
    by_cases p : a % 2 = 0
    · simp only [if_pos p]
      by_cases q : i = a / 2
      · rw [if_pos q, if_pos (by omega), if_neg (by omega)]; omega
      · rw [if_neg q, if_neg (by omega), if_neg (by omega)]; omega
    · simp only [if_neg p]
      by_cases q : i = a / 2
      · rw [if_pos q, if_neg (by omega), if_pos (by omega)]; omega
      · rw [if_neg q, if_neg (by omega), if_neg (by omega)]; omega)
  show ex m (us E) (vs E) (fl (push d L a)) x = _
  rw [e, ex_single hk (fun i _ hne => if_neg hne), if_pos rfl]
  show ex m (us E) (vs E) (fl L) x + _ = ex m (us E) (vs E) (fl L) x + d * (ind (gn E (mate a) = x) - ind (gn E a = x))
  have key : ((if us E (a / 2) = x then (if a % 2 = 0 then d else -d) else 0) - (if vs E (a / 2) = x then (if a % 2 = 0 then d else -d) else 0) : Int) = d * (ind (gn E (mate a) = x) - ind (gn E a = x)) := by
    unfold ind
    rcases arc_cases a with p | p
    · have h1 : a % 2 = 0 := by omega
      have h2 : mate a = 2 * (a / 2) + 1 := by unfold mate; rw [if_pos h1]; omega
      have h3 : gn E a = vs E (a / 2) := by show gn E a = gn E (2 * (a / 2)); rw [← p]
      have h4 : gn E (mate a) = us E (a / 2) := by rw [h2]
      rw [h3, h4, if_pos h1]
      split <;> split <;> simp
    · have h1 : ¬ a % 2 = 0 := by omega
      have h2 : mate a = 2 * (a / 2) := by unfold mate; rw [if_neg h1]; omega
      have h3 : gn E a = us E (a / 2) := by show gn E a = gn E (2 * (a / 2) + 1); rw [← p]
      have h4 : gn E (mate a) = vs E (a / 2) := by rw [h2]
      rw [h3, h4, if_neg h1]
      split <;> split <;> simp
  omega

/-! ### a way: pushed along -/
def pushes (d : Int) (L : List Int) (way : List Nat) : List Int := way.foldl (push d) L
theorem pushes_len (d : Int) : ∀ (way : List Nat) (L : List Int), (pushes d L way).length = L.length
  | [], _ => rfl
  | a :: r, L => by
    show (pushes d (push d L a) r).length = _
    rw [pushes_len d r, push_len]
/-- begins minus ends at x, along a way -/
def pathEx (E : List Nat) (way : List Nat) (x : Nat) : Int := (way.map fun a => ind (tl E a = x) - ind (hd E a = x)).sum
theorem pushes_ex {d : Int} {E : List Nat} {m x : Nat} : ∀ (way : List Nat) {L : List Int}, L.length = 2 * m → (∀ a ∈ way, a < 2 * m) → exL E (pushes d L way) m x = exL E L m x + d * pathEx E way x
  | [], L, _, _ => by show exL E L m x = exL E L m x + d * 0; rw [Int.mul_zero]; omega
  | a :: r, L, hL, hw => by
    show exL E (pushes d (push d L a) r) m x = _
    rw [pushes_ex r (by rw [push_len]; exact hL) (fun b hb => hw b (List.mem_cons_of_mem _ hb)), push_ex hL (hw a List.mem_cons_self)]
    show _ = exL E L m x + d * ((ind (tl E a = x) - ind (hd E a = x)) + pathEx E r x)
    rw [Int.mul_add]; omega
/-- together the two of a pair stay -/
theorem pushes_sum {d : Int} {m i : Nat} (hi : i < m) : ∀ (way : List Nat) {L : List Int}, L.length = 2 * m → (∀ a ∈ way, a < 2 * m) → gi (pushes d L way) (2 * i) + gi (pushes d L way) (2 * i + 1) = gi L (2 * i) + gi L (2 * i + 1)
  | [], _, _, _ => rfl
  | a :: r, L, hL, hw => by
    show gi (pushes d (push d L a) r) (2 * i) + gi (pushes d (push d L a) r) (2 * i + 1) = _
    rw [pushes_sum hi r (by rw [push_len]; exact hL) (fun b hb => hw b (List.mem_cons_of_mem _ hb)), push_gi hL (hw a List.mem_cons_self), push_gi hL (hw a List.mem_cons_self)]
    unfold mate
    by_cases p : a % 2 = 0
    · simp only [if_pos p]
      by_cases q : 2 * i = a
      · rw [if_neg (by omega), if_pos q, if_pos (by omega), if_neg (by omega)]; omega
      · rw [if_neg (by omega), if_neg q, if_neg (by omega), if_neg (by omega)]; omega
    · simp only [if_neg p]
      by_cases q : 2 * i + 1 = a
      · rw [if_pos (by omega), if_neg (by omega), if_neg (by omega), if_pos q]; omega
      · rw [if_neg (by omega), if_neg (by omega), if_neg (by omega), if_neg q]; omega
/-- nothing falls below 0 -/
theorem pushes_ge {d : Int} {m b : Nat} (hd0 : 0 ≤ d) : ∀ (way : List Nat) {L : List Int}, L.length = 2 * m → (∀ a ∈ way, a < 2 * m) → way.Nodup → gi L b - (if b ∈ way then d else 0) ≤ gi (pushes d L way) b
  | [], L, _, _, _ => by show gi L b - (if b ∈ [] then d else 0) ≤ gi L b; simp
  | a :: r, L, hL, hw, hn => by
    show _ ≤ gi (pushes d (push d L a) r) b
    have ih := pushes_ge (b := b) hd0 r (L := push d L a) (by rw [push_len]; exact hL) (fun b hb => hw b (List.mem_cons_of_mem _ hb)) (List.nodup_cons.mp hn).2
    rw [push_gi hL (hw a List.mem_cons_self)] at ih
    refine Int.le_trans ?_ ih
    have hmem : b ∈ a :: r ↔ b = a ∨ b ∈ r := List.mem_cons
    have hnot : b = a → ¬ b ∈ r := fun e => e ▸ (List.nodup_cons.mp hn).1
    by_cases h1 : b = a
    · rw [if_pos (hmem.mpr (.inl h1)), if_neg (hnot h1), if_pos h1]
      split <;> omega
    · rw [if_neg h1]
      by_cases h2 : b ∈ r
      · rw [if_pos (hmem.mpr (.inr h2)), if_pos h2]; split <;> omega
      · rw [if_neg (fun z => (hmem.mp z).elim h1 h2), if_neg h2]; split <;> omega
theorem pushes_nonneg {d : Int} {m : Nat} {way : List Nat} {L : List Int} (hd0 : 0 ≤ d) (hL : L.length = 2 * m) (hw : ∀ a ∈ way, a < 2 * m ∧ d ≤ gi L a) (hn : way.Nodup) (h0 : ∀ b, b < 2 * m → 0 ≤ gi L b) : ∀ b, b < 2 * m → 0 ≤ gi (pushes d L way) b := fun b hb => by
  have q := pushes_ge (b := b) hd0 way hL (fun a ha => (hw a ha).1) hn
  refine Int.le_trans ?_ q
  split
  · rename_i z; have := (hw b z).2; omega
  · have := h0 b hb; omega

/-! ### what is come to, and by which arc -/
abbrev keys (F : List (Nat × Option Nat)) : List Nat := F.map (·.1)
inductive Tree (E : List Nat) (L : List Int) (N s : Nat) : List (Nat × Option Nat) → Prop
  | one : Tree E L N s [(s, none)]
  | more {F : List (Nat × Option Nat)} {x a : Nat} (t : Tree E L N s F) (new : x ∉ keys F) (hx : x < N) (ha : a < E.length) (hl : 0 < gi L a) (he : hd E a = x) (hb : tl E a ∈ keys F) : Tree E L N s (F ++ [(x, some a)])
section
variable {E : List Nat} {L : List Int} {N s : Nat} {F : List (Nat × Option Nat)}
theorem keys_snoc {x : Nat} {o : Option Nat} : keys (F ++ [(x, o)]) = keys F ++ [x] := by simp [keys]
theorem nodup_snoc {α : Type} {l : List α} {x : α} (h : l.Nodup) (n : x ∉ l) : (l ++ [x]).Nodup := by
  rw [List.nodup_append]
  refine ⟨h, by simp, fun a ha b hb e => ?_⟩
  have : b = x := by simpa using hb
  subst this
  exact n (e ▸ ha)
theorem Tree.nodup (t : Tree E L N s F) : (keys F).Nodup := by
  induction t with
  | one => simp [keys]
  | more t new _ _ _ _ _ ih => rw [keys_snoc]; exact nodup_snoc ih new
theorem Tree.start (t : Tree E L N s F) : (s, none) ∈ F := by
  induction t with
  | one => simp
  | more _ _ _ _ _ _ _ ih => exact List.mem_append_left _ ih
theorem Tree.stop (t : Tree E L N s F) {x : Nat} (h : (x, none) ∈ F) : x = s := by
  induction t with
  | one => simpa using h
  | more _ _ _ _ _ _ _ ih =>
    rcases List.mem_append.mp h with h | h
    · exact ih h
    · simp at h
theorem Tree.skey (t : Tree E L N s F) : s ∈ keys F := List.mem_map.mpr ⟨_, t.start, rfl⟩
theorem Tree.arc (t : Tree E L N s F) {x a : Nat} (h : (x, some a) ∈ F) : a < E.length ∧ 0 < gi L a ∧ hd E a = x ∧ tl E a ∈ keys F := by
  induction t with
  | one => simp at h
  | more t new hx ha hl he hb ih =>
    rw [keys_snoc]
    rcases List.mem_append.mp h with h | h
    · obtain ⟨a1, a2, a3, a4⟩ := ih h
      exact ⟨a1, a2, a3, List.mem_append_left _ a4⟩
    · simp only [List.mem_singleton, Prod.mk.injEq, Option.some.injEq] at h
      obtain ⟨rfl, rfl⟩ := h
      exact ⟨ha, hl, he, List.mem_append_left _ hb⟩
theorem Tree.lt (t : Tree E L N s F) (hs : s < N) : ∀ x ∈ keys F, x < N := by
  induction t with
  | one => intro x hx; have : x = s := by simpa [keys] using hx
           omega
  | more t new hx ha hl he hb ih =>
    intro y hy
    rw [keys_snoc] at hy
    rcases List.mem_append.mp hy with h | h
    · exact ih y h
    · have : y ∈ [_] := h
      simp only [List.mem_singleton] at this
      omega
theorem Tree.rank (t : Tree E L N s F) : ∃ rk : Nat → Nat, (∀ x ∈ keys F, rk x < F.length) ∧ ∀ x a, (x, some a) ∈ F → rk (tl E a) < rk x := by
  induction t with
  | one => exact ⟨fun _ => 0, by simp [keys], fun x a h => by simp at h⟩
  | @more F x a t new hx ha hl he hb ih =>
    obtain ⟨rk, h1, h2⟩ := ih
    refine ⟨fun y => if y = x then F.length else rk y, fun y hy => ?_, fun y b h => ?_⟩
    · rw [keys_snoc] at hy
      rw [List.length_append, List.length_singleton]
      show (if y = x then F.length else rk y) < F.length + 1
      split
      · omega
      · rename_i ne
        rcases List.mem_append.mp hy with h | h
        · have := h1 y h; omega
        · exact absurd (by simpa using h) ne
    · show (if tl E b = x then F.length else rk (tl E b)) < if y = x then F.length else rk y
      have ntl : ∀ c, tl E c ∈ keys F → ¬ tl E c = x := fun c hc e => new (e ▸ hc)
      rcases List.mem_append.mp h with h | h
      · have ky : y ∈ keys F := List.mem_map.mpr ⟨_, h, rfl⟩
        have ny : ¬ y = x := fun e => new (e ▸ ky)
        rw [if_neg (ntl b (t.arc h).2.2.2), if_neg ny]
        exact h2 y b h
      · simp only [List.mem_singleton, Prod.mk.injEq, Option.some.injEq] at h
        obtain ⟨rfl, rfl⟩ := h
        rw [if_neg (ntl b hb), if_pos rfl]
        exact h1 _ hb
theorem nodup_le : ∀ {N : Nat} {l : List Nat}, l.Nodup → (∀ x ∈ l, x < N) → l.length ≤ N
  | 0, [], _, _ => Nat.le_refl _
  | 0, x :: _, _, h => absurd (h x List.mem_cons_self) (Nat.not_lt_zero x)
  | N + 1, l, hn, h => by
    by_cases e : N ∈ l
    · have q := nodup_le (N := N) (l := l.erase N) (hn.erase N) fun x hx => by
        have q1 := (List.Nodup.mem_erase_iff hn).mp hx
        have q2 := h x q1.2
        have q3 := q1.1
        omega
      rw [List.length_erase_of_mem e] at q
      omega
    · have q := nodup_le (N := N) (l := l) hn fun x hx => by
        have q2 := h x hx
        have q3 : x ≠ N := fun z => e (z ▸ hx)
        omega
      omega
theorem Tree.len (t : Tree E L N s F) (hs : s < N) : F.length ≤ N := by
  have q := nodup_le t.nodup (t.lt hs)
  rwa [List.length_map] at q
/-- the tree told again over what is known of a place: by which arc it was come to -/
theorem key_get {x : Nat} (h : x ∈ keys F) : ∃ o, (x, o) ∈ F := by
  obtain ⟨⟨y, o⟩, h1, rfl⟩ := List.mem_map.mp h
  exact ⟨o, h1⟩

/-! ### the search's loops -/
/-- all that x leads to is come to -/
def Closed (E : List Nat) (L : List Int) (F : List (Nat × Option Nat)) (x : Nat) : Prop := ∀ a, a < E.length → tl E a = x → 0 < gi L a → hd E a ∈ keys F
theorem Closed.snoc {x y : Nat} {o : Option Nat} (h : Closed E L F x) : Closed E L (F ++ [(y, o)]) x := fun a h1 h2 h3 => by
  rw [keys_snoc]; exact List.mem_append_left _ (h a h1 h2 h3)
/-- while: wait, the places that are to be looked at -/
structure Outer (E : List Nat) (L : List Int) (N s : Nat) (F : List (Nat × Option Nat)) (wait : List Nat) : Prop where
  tree : Tree E L N s F
  sub : ∀ x ∈ wait, x ∈ keys F
  cl : ∀ x ∈ keys F, x ∉ wait → Closed E L F x
/-- for place in wait: i of them done, F0 ahead of the loop -/
structure Mid (E : List Nat) (L : List Int) (N s : Nat) (F0 F : List (Nat × Option Nat)) (wait later : List Nat) (i : Nat) : Prop where
  tree : Tree E L N s F
  len : F.length = F0.length + later.length
  sub : ∀ x ∈ wait, x ∈ keys F
  sub2 : ∀ x ∈ later, x ∈ keys F
  cl : ∀ x ∈ keys F, x ∉ wait.drop i → x ∉ later → Closed E L F x
/-- for arc in row: j of them done -/
structure Inner (E : List Nat) (L : List Int) (N s : Nat) (F0 F : List (Nat × Option Nat)) (wait later : List Nat) (i : Nat) (p : Nat) (row : List Nat) (j : Nat) : Prop where
  tree : Tree E L N s F
  len : F.length = F0.length + later.length
  sub : ∀ x ∈ wait, x ∈ keys F
  sub2 : ∀ x ∈ later, x ∈ keys F
  cl : ∀ x ∈ keys F, x ∉ wait.drop (i + 1) → x ∉ later → x ≠ p → Closed E L F x
  here : ∀ a ∈ row.take j, 0 < gi L a → hd E a ∈ keys F
variable {F0 : List (Nat × Option Nat)} {wait later row : List Nat} {i j p a : Nat}
theorem Outer.begin : Outer E L N s [(s, none)] [s] := ⟨.one, by simp [keys], fun x h1 h2 => absurd (by simpa [keys] using h1) (by simpa using h2)⟩
theorem Outer.mid (h : Outer E L N s F wait) : Mid E L N s F F wait [] 0 :=
  ⟨h.tree, by simp, h.sub, by simp, fun x h1 h2 _ => h.cl x h1 (by simpa using h2)⟩
theorem Mid.inner (h : Mid E L N s F0 F wait later i) (hp : wait[i]? = some p) : Inner E L N s F0 F wait later i p row 0 := by
  refine ⟨h.tree, h.len, h.sub, h.sub2, fun x h1 h2 h3 h4 => h.cl x h1 (fun z => ?_) h3, by simp⟩
  obtain ⟨hi, e⟩ := List.getElem?_eq_some_iff.mp hp
  rw [List.drop_eq_getElem_cons hi, e] at z
  exact (List.mem_cons.mp z).elim h4 h2
theorem take_snoc {α : Type} {l : List α} {j : Nat} {a : α} (h : l[j]? = some a) : l.take (j + 1) = l.take j ++ [a] := by
  obtain ⟨hj, e⟩ := List.getElem?_eq_some_iff.mp h
  rw [List.take_succ_eq_append_getElem hj, e]
/-- the arc leads nowhere new -/
theorem Inner.skip (h : Inner E L N s F0 F wait later i p row j) (ha : row[j]? = some a) (hh : 0 < gi L a → hd E a ∈ keys F) : Inner E L N s F0 F wait later i p row (j + 1) := by
  refine ⟨h.tree, h.len, h.sub, h.sub2, h.cl, fun b hb hl => ?_⟩
  rw [take_snoc ha] at hb
  rcases List.mem_append.mp hb with z | z
  · exact h.here b z hl
  · have e : b = a := by simpa using z
    rw [e] at hl ⊢; exact hh hl
theorem Inner.add (h : Inner E L N s F0 F wait later i p row j) (ha : row[j]? = some a) (hl : 0 < gi L a) (hn : hd E a ∉ keys F) (hN : hd E a < N) (hE : a < E.length) (ht : tl E a = p) (hp : p ∈ keys F) :
    Inner E L N s F0 (F ++ [(hd E a, some a)]) wait (later ++ [hd E a]) i p row (j + 1) := by
  have up : ∀ x, x ∈ keys F → x ∈ keys (F ++ [(hd E a, some a)]) := fun x hx => by rw [keys_snoc]; exact List.mem_append_left _ hx
  refine ⟨.more h.tree hn hN hE hl rfl (by rw [ht]; exact hp), by rw [List.length_append, List.length_append, h.len]; simp; omega, fun x hx => up x (h.sub x hx), fun x hx => ?_, fun x h1 h2 h3 h4 => ?_, fun b hb hlb => ?_⟩
  · rcases List.mem_append.mp hx with z | z
    · exact up x (h.sub2 x z)
    · have e : x = hd E a := by simpa using z
      rw [keys_snoc, e]; simp
  · rw [keys_snoc] at h1
    have h3' : x ∉ later ∧ x ≠ hd E a := by simpa [not_or] using h3
    rcases List.mem_append.mp h1 with z | z
    · exact (h.cl x z h2 h3'.1 h4).snoc
    · exact absurd (by simpa using z) h3'.2
  · rw [take_snoc ha] at hb
    rcases List.mem_append.mp hb with z | z
    · exact up _ (h.here b z hlb)
    · have e : b = a := by simpa using z
      rw [e, keys_snoc]; simp
theorem Inner.mid (h : Inner E L N s F0 F wait later i p row row.length) (hr : ∀ a, a < E.length → tl E a = p → a ∈ row) : Mid E L N s F0 F wait later (i + 1) := by
  refine ⟨h.tree, h.len, h.sub, h.sub2, fun x h1 h2 h3 => ?_⟩
  by_cases e : x = p
  · subst e
    intro a ha1 ha2 ha3
    exact h.here a (by rw [List.take_length]; exact hr a ha1 ha2) ha3
  · exact h.cl x h1 h2 h3 e
theorem Mid.outer (h : Mid E L N s F0 F wait later wait.length) : Outer E L N s F later :=
  ⟨h.tree, h.sub2, fun x h1 h2 => h.cl x h1 (by simp) h2⟩

/-! ### the way back -/
structure WayAt (E : List Nat) (L : List Int) (F : List (Nat × Option Nat)) (rk : Nat → Nat) (t : Nat) (way : List Nat) (cur : Nat) : Prop where
  key : cur ∈ keys F
  nodup : way.Nodup
  ok : ∀ a ∈ way, a < E.length ∧ 0 < gi L a ∧ rk cur < rk (hd E a)
  sum : ∀ x, pathEx E way x = ind (cur = x) - ind (t = x)
  ne : cur = t ∨ way ≠ []
variable {rk : Nat → Nat} {t cur : Nat} {way : List Nat}
theorem WayAt.begin (h : t ∈ keys F) : WayAt E L F rk t [] t := ⟨h, .nil, by simp, fun x => by show (0 : Int) = _; omega, .inl rfl⟩
theorem WayAt.step (T : Tree E L N s F) (hrk : ∀ x a, (x, some a) ∈ F → rk (tl E a) < rk x) (h : WayAt E L F rk t way cur) {a : Nat} (ha : (cur, some a) ∈ F) : WayAt E L F rk t (way ++ [a]) (tl E a) ∧ rk (tl E a) < rk cur := by
  obtain ⟨h1, h2, h3, h4⟩ := T.arc ha
  have hr := hrk cur a ha
  refine ⟨⟨h4, nodup_snoc h.nodup fun z => ?_, fun b hb => ?_, fun x => ?_, .inr (by simp)⟩, hr⟩
  · have q := (h.ok a z).2.2
    rw [h3] at q
    omega
  · rcases List.mem_append.mp hb with z | z
    · obtain ⟨q1, q2, q3⟩ := h.ok b z
      exact ⟨q1, q2, by omega⟩
    · have e : b = a := by simpa using z
      subst e
      exact ⟨h1, h2, by rw [h3]; exact hr⟩
  · unfold pathEx
    rw [List.map_append, List.sum_append]
    have q := h.sum x
    unfold pathEx at q
    rw [q]
    show _ + ((ind (tl E a = x) - ind (hd E a = x)) + 0) = _
    rw [h3]
    omega
end

/-! ### sending -/
/-- what stands on the arcs is a flow below cap; s and t apart every place passes on what comes -/
structure Sent (E : List Nat) (N m s t : Nat) (cap : Nat → Int) (L : List Int) (total : Int) : Prop where
  el : E.length = 2 * m
  ll : L.length = 2 * m
  pos : ∀ a, a < 2 * m → 0 ≤ gi L a
  sum : ∀ i, i < m → gi L (2 * i) + gi L (2 * i + 1) = cap i
  keep : ∀ x, x < N → x ≠ s → x ≠ t → exL E L m x = 0
  out : exL E L m s = total
section
variable {E : List Nat} {L : List Int} {N m s t : Nat} {cap : Nat → Int} {total d : Int} {way : List Nat} {F : List (Nat × Option Nat)}
theorem Sent.send (h : Sent E N m s t cap L total) (hst : s ≠ t) (hd0 : 0 ≤ d) (hw : ∀ a ∈ way, a < 2 * m ∧ d ≤ gi L a) (hn : way.Nodup) (hp : ∀ x, pathEx E way x = ind (s = x) - ind (t = x)) : Sent E N m s t cap (pushes d L way) (total + d) := by
  have hw1 : ∀ a ∈ way, a < 2 * m := fun a ha => (hw a ha).1
  refine ⟨h.el, by rw [pushes_len]; exact h.ll, pushes_nonneg hd0 h.ll hw hn h.pos, fun i hi => by rw [pushes_sum hi way h.ll hw1]; exact h.sum i hi, fun x hx h1 h2 => ?_, ?_⟩
  · rw [pushes_ex way h.ll hw1, h.keep x hx h1 h2, hp]
    unfold ind
    rw [if_neg (Ne.symm h1), if_neg (Ne.symm h2)]; simp
  · rw [pushes_ex way h.ll hw1, h.out, hp]
    unfold ind
    rw [if_pos rfl, if_neg (Ne.symm hst)]; simp
theorem Sent.fl_le (h : Sent E N m s t cap L total) {i : Nat} (hi : i < m) : 0 ≤ fl L i ∧ fl L i ≤ cap i := by
  have a := h.pos (2 * i) (by omega)
  have b := h.pos (2 * i + 1) (by omega)
  have c := h.sum i hi
  exact ⟨b, by show gi L (2 * i + 1) ≤ cap i; omega⟩
/-- a bound of what can be sent -/
def room (E : List Nat) (m s : Nat) (cap : Nat → Int) : Int := sumTo m fun i => if us E i = s then cap i else 0
theorem Sent.le (h : Sent E N m s t cap L total) : total ≤ room E m s cap := by
  rw [← h.out]
  refine sumTo_le fun i hi => ?_
  have := h.fl_le hi
  split <;> split <;> omega
/-- where t can't be come to, no flow brings more -/
theorem Sent.most (h : Sent E N m s t cap L total) (hs : s < N) (hE : ∀ a, a < 2 * m → gn E a < N) (T : Tree E L N s F) (hcl : ∀ x ∈ keys F, Closed E L F x) (ht : t ∉ keys F)
    {g : Nat → Int} (hg : ∀ i, i < m → 0 ≤ g i ∧ g i ≤ cap i) (hc : ∀ x, x < N → x ≠ s → x ≠ t → 0 ≤ ex m (us E) (vs E) g x) : ex m (us E) (vs E) g s ≤ total := by
  rw [← h.out]
  have dt : ∀ {x : Nat}, decide (x ∈ keys F) = true → x ≠ t := fun q e => ht (e ▸ of_decide_eq_true q)
  refine NM.most (N := N) (cap := cap) (S := fun x => decide (x ∈ keys F)) (fun i hi => hE _ (by omega)) (fun i hi => hE _ (by omega)) hs (decide_eq_true T.skey) hg (fun x hx h1 h2 => hc x hx h2 (dt h1)) (fun x hx h1 h2 => h.keep x hx h2 (dt h1)) (fun i hi h1 h2 => ?_) (fun i hi h1 h2 => ?_)
  · have a := h.pos (2 * i) (by omega)
    have c := h.sum i hi
    have h1 := of_decide_eq_true h1
    have h2 := of_decide_eq_false h2
    have z : ¬ 0 < gi L (2 * i) := fun z => h2 (hcl _ h1 (2 * i) (by rw [h.el]; omega) (by show gn E (mate (2 * i)) = _; rw [mate_even]) z)
    show gi L (2 * i + 1) = cap i
    omega
  · have b := h.pos (2 * i + 1) (by omega)
    have h1 := of_decide_eq_false h1
    have h2 := of_decide_eq_true h2
    have z : ¬ 0 < gi L (2 * i + 1) := fun z => h1 (hcl _ h2 (2 * i + 1) (by rw [h.el]; omega) (by show gn E (mate (2 * i + 1)) = _; rw [mate_odd]) z)
    show gi L (2 * i + 1) = 0
    omega
end
end NM
end
section
set_option autoImplicit false
/-! Plain mathematics of a yard's net: its arcs by labels, its rows, what is a filling. -/
namespace NM
structure Gu where
  line : Nat
  first : Nat
  last : Nat
  want : Int
  most : Int
deriving Inhabited
structure Ln where
  above : Option Nat
  bounds : List Int
deriving Inhabited
structure YaOk (T : Nat) (ls : List Ln) : Prop where
  t1 : 1 ≤ T
  t8 : T ≤ 8
  l5 : ls.length ≤ 5
  len : ∀ k, k < ls.length → ls[k]!.bounds.length = T
  pos : ∀ k, k < ls.length → ∀ b ∈ ls[k]!.bounds, 0 ≤ b
  abv : ∀ k, k < ls.length → ∀ a, ls[k]!.above = some a → a < k
structure GuOk (T nl : Nat) (gs : List Gu) : Prop where
  n8 : gs.length ≤ 8
  line : ∀ i, i < gs.length → gs[i]!.line < nl
  fl : ∀ i, i < gs.length → gs[i]!.first ≤ gs[i]!.last
  lt : ∀ i, i < gs.length → gs[i]!.last < T
  want : ∀ i, i < gs.length → 0 ≤ gs[i]!.want
  most : ∀ i, i < gs.length → 0 ≤ gs[i]!.most
inductive Lab where
  | src (i : Nat)
  | gst (i t : Nat)
  | lin (l t : Nat)
deriving DecidableEq, Inhabited
def place (n T l t : Nat) : Nat := 1 + n + l * T + t
def goalN (n T nl : Nat) : Nat := 1 + n + T * nl
def bnd (ls : List Ln) (l t : Nat) : Int := ls[l]!.bounds.getD t 0
section
variable (T : Nat) (ls : List Ln) (gs : List Gu)
def lu : Lab → Nat
  | .src _ => 0
  | .gst i _ => 1 + i
  | .lin l t => place gs.length T l t
def lv : Lab → Nat
  | .src i => 1 + i
  | .gst i t => place gs.length T gs[i]!.line t
  | .lin l t => match ls[l]!.above with
    | none => goalN gs.length T ls.length
    | some a => place gs.length T a t
def lc : Lab → Int
  | .src i => gs[i]!.want
  | .gst i _ => gs[i]!.most
  | .lin l t => bnd ls l t
/-- turns that a guest stays -/
def stay (i : Nat) : Nat := gs[i]!.last + 1 - gs[i]!.first
def labG (i : Nat) : List Lab := .src i :: (List.range (stay gs i)).map fun k => .gst i (gs[i]!.first + k)
def labGs (k : Nat) : List Lab := (List.range k).flatMap (labG gs)
def labLs (k : Nat) : List Lab := (List.range k).flatMap fun l => (List.range T).map (Lab.lin l)
def labs : List Lab := labGs gs gs.length ++ labLs T ls.length
def endsOf (bs : List Lab) : List Nat := bs.flatMap fun b => [lv T ls gs b, lu T gs b]
def leftOf (bs : List Lab) : List Int := bs.flatMap fun b => [lc ls gs b, 0]
end
theorem flat2_len {α β : Type} (f g : α → β) : ∀ l : List α, (l.flatMap fun b => [f b, g b]).length = 2 * l.length
  | [] => rfl
  | b :: r => by
    rw [List.flatMap_cons, List.length_append, flat2_len f g r]
    show 2 + _ = 2 * (r.length + 1); omega
theorem flat2_even {α β : Type} [Inhabited α] (f g : α → β) (d : β) : ∀ (l : List α) (i : Nat), i < l.length → (l.flatMap fun b => [f b, g b]).getD (2 * i) d = f l[i]!
  | [], i, h => absurd h (Nat.not_lt_zero i)
  | b :: r, 0, _ => rfl
  | b :: r, i + 1, h => by
    rw [List.flatMap_cons]
    show (f b :: g b :: r.flatMap fun b => [f b, g b]).getD (2 * i + 2) d = f r[i]!
    exact flat2_even f g d r i (by simpa using h)
theorem flat2_odd {α β : Type} [Inhabited α] (f g : α → β) (d : β) : ∀ (l : List α) (i : Nat), i < l.length → (l.flatMap fun b => [f b, g b]).getD (2 * i + 1) d = g l[i]!
  | [], i, h => absurd h (Nat.not_lt_zero i)
  | b :: r, 0, _ => rfl
  | b :: r, i + 1, h => by
    rw [List.flatMap_cons]
    show (f b :: g b :: r.flatMap fun b => [f b, g b]).getD (2 * i + 1 + 2) d = g r[i]!
    exact flat2_odd f g d r i (by simpa using h)

/-! ### rows -/
structure RowOk (E : List Nat) (R : List (List Nat)) (N : Nat) : Prop where
  rn : R.length = N
  le : ∀ r ∈ R, r.length ≤ E.length
  row : ∀ x, x < N → ∀ a, a ∈ R.getD x [] ↔ (a < E.length ∧ tl E a = x)
def addRow (R : List (List Nat)) (x a : Nat) : List (List Nat) := R.set x (R.getD x [] ++ [a])
theorem addRow_len (R : List (List Nat)) (x a : Nat) : (addRow R x a).length = R.length := by unfold addRow; simp
theorem addRow_get {R : List (List Nat)} {x a y : Nat} (h : x < R.length) : (addRow R x a).getD y [] = if x = y then R.getD y [] ++ [a] else R.getD y [] := by
  unfold addRow
  rw [List.getD_eq_getElem?_getD, List.getElem?_set]
  by_cases e : x = y
  · subst e; rw [if_pos rfl, if_pos h, if_pos rfl]; rfl
  · rw [if_neg e, if_neg e, List.getD_eq_getElem?_getD]
theorem addRow_mem {R : List (List Nat)} {x a : Nat} {B : Nat} (h : x < R.length) (hb : ∀ r ∈ R, r.length ≤ B) : ∀ r ∈ addRow R x a, r.length ≤ B + 1 := fun r hr => by
  unfold addRow at hr
  rcases List.mem_or_eq_of_mem_set hr with z | z
  · have := hb r z; omega
  · rw [z, List.length_append, List.length_singleton, List.getD_eq_getElem?_getD, List.getElem?_eq_getElem h]
    have := hb _ (List.getElem_mem h)
    show R[x].length + 1 ≤ B + 1
    omega
theorem RowOk.nil (N : Nat) : RowOk [] (List.replicate N []) N := by
  refine ⟨List.length_replicate, fun r hr => ?_, fun x hx a => ?_⟩
  · rw [(List.mem_replicate.mp hr).2]; exact Nat.le_refl _
  · rw [List.getD_eq_getElem?_getD, List.getElem?_replicate, if_pos hx]
    simp
theorem gn_app {E : List Nat} {u v a : Nat} : gn (E ++ [v, u]) a = if a < E.length then gn E a else if a = E.length then v else if a = E.length + 1 then u else 0 := by
  show (E ++ [v, u]).getD a 0 = _
  rw [List.getD_eq_getElem?_getD]
  by_cases h : a < E.length
  · rw [if_pos h, List.getElem?_append_left h]
    exact (List.getD_eq_getElem?_getD ..).symm
  · rw [if_neg h, List.getElem?_append_right (by omega)]
    by_cases h1 : a = E.length
    · rw [if_pos h1, h1, Nat.sub_self]; rfl
    · rw [if_neg h1]
      by_cases h2 : a = E.length + 1
      · rw [if_pos h2, h2, show E.length + 1 - E.length = 1 by omega]; rfl
      · rw [if_neg h2]
        have : 2 ≤ a - E.length := by omega
        rw [List.getElem?_eq_none (by simpa using this)]; rfl
theorem RowOk.lay {E : List Nat} {R : List (List Nat)} {N m u v : Nat} (h : RowOk E R N) (hm : E.length = 2 * m) (hu : u < N) (hv : v < N) : RowOk (E ++ [v, u]) (addRow (addRow R u E.length) v (E.length + 1)) N := by
  have hu' : u < R.length := by rw [h.rn]; exact hu
  have hv' : v < (addRow R u E.length).length := by rw [addRow_len, h.rn]; exact hv
  refine ⟨by rw [addRow_len, addRow_len]; exact h.rn, fun r hr => ?_, fun x hx a => ?_⟩
  · have := addRow_mem hv' (addRow_mem hu' h.le) r hr
    rw [List.length_append]; exact this
  · have old := h.row x hx a
    have hl : (E ++ [v, u]).length = E.length + 2 := by simp
    have ht : tl (E ++ [v, u]) a = if a < E.length then tl E a else if a = E.length then u else if a = E.length + 1 then v else tl (E ++ [v, u]) a := by
      by_cases c : a < E.length
      · rw [if_pos c]
        show gn (E ++ [v, u]) (mate a) = gn E (mate a)
        rw [gn_app, if_pos (by rw [hm] at c ⊢; exact mate_lt c)]
      · rw [if_neg c]
        by_cases c1 : a = E.length
        · rw [if_pos c1]
          show gn (E ++ [v, u]) (mate a) = u
          rw [c1, hm, mate_even, ← hm, gn_app, if_neg (by omega), if_neg (by omega), if_pos rfl]
        · rw [if_neg c1]
          by_cases c2 : a = E.length + 1
          · rw [if_pos c2]
            show gn (E ++ [v, u]) (mate a) = v
            rw [c2, hm, mate_odd, ← hm, gn_app, if_neg (by omega), if_pos rfl]
          · rw [if_neg c2]
    rw [hl, addRow_get hv', addRow_get hu']
    generalize tl (E ++ [v, u]) a = tn at ht ⊢
    generalize tl E a = te at ht old
    generalize R.getD x [] = rx at old ⊢
    generalize E.length = k at ht old ⊢
    by_cases c : a < k
    · rw [if_pos c] at ht
      subst ht
      have : a < k + 2 := by omega
      have n1 : ¬ a = k := by omega
      have n2 : ¬ a = k + 1 := by omega
      by_cases e1 : v = x <;> by_cases e2 : u = x <;> simp [e1, e2, old, this, n1, n2, c]
    · have no : a ∉ rx := fun z => c (old.mp z).1
      rw [if_neg c] at ht
      by_cases c1 : a = k
      · rw [if_pos c1] at ht
        subst ht c1
        have n2 : ¬ a = a + 1 := by omega
        by_cases e1 : v = x <;> by_cases e2 : tn = x <;> simp [e1, e2, no]
      · rw [if_neg c1] at ht
        by_cases c2 : a = k + 1
        · rw [if_pos c2] at ht
          subst ht c2
          by_cases e1 : tn = x <;> by_cases e2 : u = x <;> simp [e1, e2, no]
        · have : ¬ a < k + 2 := by omega
          by_cases e1 : v = x <;> by_cases e2 : u = x <;> simp [e1, e2, no, this, c1, c2]
end NM
end
section
set_option autoImplicit false
/-! Plain mathematics: sums over a yard's arcs, fillings, and what a greatest flow tells of them. -/
namespace NM
theorem sum_app (l r : List Int) : (l ++ r).sum = l.sum + r.sum := List.sum_append
theorem sum_flatMap {α β : Type} (F : β → Int) (f : α → List β) : ∀ l : List α, ((l.flatMap f).map F).sum = (l.map fun x => ((f x).map F).sum).sum
  | [] => rfl
  | x :: r => by
    rw [List.flatMap_cons, List.map_append, sum_app, sum_flatMap F f r, List.map_cons, List.sum_cons]
theorem sum_range (G : Nat → Int) : ∀ n, ((List.range n).map G).sum = sumTo n G
  | 0 => rfl
  | n + 1 => by
    rw [List.range_succ, List.map_append, sum_app, sum_range G n]
    show _ + (G n + 0) = sumTo n G + G n
    omega
theorem sumTo_cons (f : Nat → Int) : ∀ n, sumTo (n + 1) f = f 0 + sumTo n fun i => f (i + 1)
  | 0 => by show (0 : Int) + f 0 = f 0 + 0; omega
  | n + 1 => by
    show sumTo (n + 1) f + f (n + 1) = f 0 + (sumTo n _ + f (n + 1))
    rw [sumTo_cons f n]; omega
theorem sumTo_list {α : Type} [Inhabited α] (F : α → Int) : ∀ l : List α, sumTo l.length (fun i => F l[i]!) = (l.map F).sum
  | [] => rfl
  | x :: r => by
    rw [List.length_cons, sumTo_cons, List.map_cons, List.sum_cons, ← sumTo_list F r]
    rfl
section
variable {T : Nat} {ls : List Ln} {gs : List Gu}
theorem sum_labs (F : Lab → Int) : ((labs T ls gs).map F).sum = (sumTo gs.length fun i => F (.src i) + sumTo (stay gs i) fun k => F (.gst i (gs[i]!.first + k))) + sumTo ls.length fun l => sumTo T fun t => F (.lin l t) := by
  unfold labs labGs labLs
  rw [List.map_append, sum_app, sum_flatMap, sum_flatMap, sum_range, sum_range]
  congr 1
  · refine sumTo_congr fun i _ => ?_
    unfold labG
    rw [List.map_cons, List.sum_cons, List.map_map, ← sum_range]
    rfl
  · refine sumTo_congr fun l _ => ?_
    rw [List.map_map, ← sum_range]
    rfl
theorem nodup_map {α β : Type} {f : α → β} (hf : ∀ a b, f a = f b → a = b) : ∀ {l : List α}, l.Nodup → (l.map f).Nodup
  | [], _ => .nil
  | x :: r, h => by
    obtain ⟨h1, h2⟩ := List.nodup_cons.mp h
    refine List.nodup_cons.mpr ⟨fun z => ?_, nodup_map hf h2⟩
    obtain ⟨y, hy, e⟩ := List.mem_map.mp z
    exact h1 (hf _ _ e ▸ hy)
theorem nodup_flatMap {α β : Type} {f : α → List β} (key : β → α) (hk : ∀ a, ∀ b ∈ f a, key b = a) (hn : ∀ a, (f a).Nodup) : ∀ {l : List α}, l.Nodup → (l.flatMap f).Nodup
  | [], _ => .nil
  | x :: r, h => by
    obtain ⟨h1, h2⟩ := List.nodup_cons.mp h
    rw [List.flatMap_cons, List.nodup_append]
    refine ⟨hn x, nodup_flatMap key hk hn h2, fun a ha b hb e => ?_⟩
    obtain ⟨y, hy, hb⟩ := List.mem_flatMap.mp hb
    have e1 := hk x a ha
    have e2 := hk y b hb
    rw [e] at e1
    rw [e1] at e2
    exact h1 (e2 ▸ hy)
theorem labs_nodup : (labs T ls gs).Nodup := by
  unfold labs labGs labLs
  rw [List.nodup_append]
  refine ⟨nodup_flatMap (fun | .src i => i | .gst i _ => i | .lin _ _ => 0) (fun a b hb => ?_) (fun a => ?_) List.nodup_range, nodup_flatMap (fun | .src _ => 0 | .gst _ _ => 0 | .lin l _ => l) (fun a b hb => ?_) (fun a => ?_) List.nodup_range, fun a ha b hb e => ?_⟩
  · unfold labG at hb
    rcases List.mem_cons.mp hb with rfl | hb
    · rfl
    · obtain ⟨k, _, rfl⟩ := List.mem_map.mp hb
      rfl
  · unfold labG
    refine List.nodup_cons.mpr ⟨fun z => ?_, nodup_map (fun k j e => ?_) List.nodup_range⟩
    · obtain ⟨k, _, e⟩ := List.mem_map.mp z
      cases e
    · injection e with e1 e2; omega
  · obtain ⟨t, _, rfl⟩ := List.mem_map.mp hb
    rfl
  · exact nodup_map (fun k j e => by injection e) List.nodup_range
  · obtain ⟨i, _, ha⟩ := List.mem_flatMap.mp ha
    obtain ⟨l, _, hb⟩ := List.mem_flatMap.mp hb
    obtain ⟨t, _, rfl⟩ := List.mem_map.mp hb
    unfold labG at ha
    rcases List.mem_cons.mp ha with rfl | ha
    · cases e
    · obtain ⟨k, _, rfl⟩ := List.mem_map.mp ha
      cases e
/-- the flow of a label -/
def exLab (T : Nat) (ls : List Ln) (gs : List Gu) (φ : Lab → Int) (x : Nat) : Int := ((labs T ls gs).map fun b => (if lu T gs b = x then φ b else 0) - (if lv T ls gs b = x then φ b else 0)).sum
theorem place_inj {n T l t l' t' : Nat} (ht : t < T) (ht' : t' < T) (h : place n T l t = place n T l' t') : l = l' ∧ t = t' := by
  unfold place at h
  have h : T * l + t = T * l' + t' := by rw [Nat.mul_comm T l, Nat.mul_comm T l']; omega
  have hT : 0 < T := by omega
  have a : (T * l + t) / T = l := by rw [Nat.mul_add_div hT, Nat.div_eq_of_lt ht]; rfl
  have b : (T * l' + t') / T = l' := by rw [Nat.mul_add_div hT, Nat.div_eq_of_lt ht']; rfl
  have e : l = l' := by rw [← a, ← b, h]
  subst e
  exact ⟨rfl, by omega⟩
theorem place_lt {n T nl l t : Nat} (hl : l < nl) (ht : t < T) : place n T l t < goalN n T nl := by
  unfold place goalN
  have : l * T + T ≤ nl * T := by
    rw [← Nat.succ_mul]
    exact Nat.mul_le_mul_right T hl
  rw [Nat.mul_comm T nl]
  omega
theorem lt_place {n T l t : Nat} : n < place n T l t := by unfold place; omega
theorem lt_goal {n T nl : Nat} : n < goalN n T nl := by
  unfold goalN
  generalize T * nl = q
  omega
theorem sumTo_neg (f : Nat → Int) (n : Nat) : sumTo n (fun i => 0 - f i) = 0 - sumTo n f := by
  rw [sumTo_sub, sumTo_zero fun _ _ => rfl]
variable (φ : Lab → Int)
theorem ex_src : exLab T ls gs φ 0 = sumTo gs.length fun i => φ (.src i) := by
  unfold exLab
  rw [sum_labs]
  have h2 : (sumTo ls.length fun l => sumTo T fun t => (if lu T gs (.lin l t) = 0 then φ (.lin l t) else 0) - (if lv T ls gs (.lin l t) = 0 then φ (.lin l t) else 0)) = 0 := by
    refine sumTo_zero fun l _ => sumTo_zero fun t _ => ?_
    have a : ¬ lu T gs (.lin l t) = 0 := by have := lt_place (n := gs.length) (T := T) (l := l) (t := t); show ¬ place _ _ _ _ = 0; omega
    have b : ¬ lv T ls gs (.lin l t) = 0 := by
      show ¬ (match ls[l]!.above with | none => goalN gs.length T ls.length | some a => place gs.length T a t) = 0
      split
      · have := lt_goal (n := gs.length) (T := T) (nl := ls.length); omega
      · rename_i a _
        have := lt_place (n := gs.length) (T := T) (l := a) (t := t); omega
    rw [if_neg a, if_neg b]; rfl
  rw [h2, Int.add_zero]
  refine sumTo_congr fun i _ => ?_
  have h1 : (sumTo (stay gs i) fun k => (if lu T gs (.gst i (gs[i]!.first + k)) = 0 then φ (.gst i (gs[i]!.first + k)) else 0) - (if lv T ls gs (.gst i (gs[i]!.first + k)) = 0 then φ (.gst i (gs[i]!.first + k)) else 0)) = 0 := by
    refine sumTo_zero fun k _ => ?_
    have a : ¬ lu T gs (.gst i (gs[i]!.first + k)) = 0 := by show ¬ 1 + i = 0; omega
    have b : ¬ lv T ls gs (.gst i (gs[i]!.first + k)) = 0 := by show ¬ place _ _ _ _ = 0; have := lt_place (n := gs.length) (T := T) (l := gs[i]!.line) (t := gs[i]!.first + k); omega
    rw [if_neg a, if_neg b]; rfl
  rw [h1]
  show (if (0 : Nat) = 0 then φ (.src i) else 0) - (if 1 + i = 0 then φ (.src i) else 0) + 0 = φ (.src i)
  rw [if_pos rfl, if_neg (by omega)]; omega
theorem ex_gst {g : Nat} (hg : g < gs.length) : exLab T ls gs φ (1 + g) = (sumTo (stay gs g) fun k => φ (.gst g (gs[g]!.first + k))) - φ (.src g) := by
  unfold exLab
  rw [sum_labs]
  have h2 : (sumTo ls.length fun l => sumTo T fun t => (if lu T gs (.lin l t) = 1 + g then φ (.lin l t) else 0) - (if lv T ls gs (.lin l t) = 1 + g then φ (.lin l t) else 0)) = 0 := by
    refine sumTo_zero fun l _ => sumTo_zero fun t _ => ?_
    have a : ¬ lu T gs (.lin l t) = 1 + g := by have := lt_place (n := gs.length) (T := T) (l := l) (t := t); show ¬ place _ _ _ _ = 1 + g; omega
    have b : ¬ lv T ls gs (.lin l t) = 1 + g := by
      show ¬ (match ls[l]!.above with | none => goalN gs.length T ls.length | some a => place gs.length T a t) = 1 + g
      split
      · have := lt_goal (n := gs.length) (T := T) (nl := ls.length); omega
      · rename_i a _
        have := lt_place (n := gs.length) (T := T) (l := a) (t := t); omega
    rw [if_neg a, if_neg b]; rfl
  rw [h2, Int.add_zero, sumTo_single (k := g) (fun i _ hne => ?_) hg]
  · have h1 : (sumTo (stay gs g) fun k => (if lu T gs (.gst g (gs[g]!.first + k)) = 1 + g then φ (.gst g (gs[g]!.first + k)) else 0) - (if lv T ls gs (.gst g (gs[g]!.first + k)) = 1 + g then φ (.gst g (gs[g]!.first + k)) else 0)) = sumTo (stay gs g) fun k => φ (.gst g (gs[g]!.first + k)) := by
      refine sumTo_congr fun k _ => ?_
      have a : lu T gs (.gst g (gs[g]!.first + k)) = 1 + g := rfl
      have b : ¬ lv T ls gs (.gst g (gs[g]!.first + k)) = 1 + g := by have := lt_place (n := gs.length) (T := T) (l := gs[g]!.line) (t := gs[g]!.first + k); show ¬ place _ _ _ _ = 1 + g; omega
      rw [if_pos a, if_neg b]; omega
    rw [h1]
    show (if (0 : Nat) = 1 + g then φ (.src g) else 0) - (if 1 + g = 1 + g then φ (.src g) else 0) + _ = _
    rw [if_neg (by omega), if_pos rfl]; omega
  · have h1 : (sumTo (stay gs i) fun k => (if lu T gs (.gst i (gs[i]!.first + k)) = 1 + g then φ (.gst i (gs[i]!.first + k)) else 0) - (if lv T ls gs (.gst i (gs[i]!.first + k)) = 1 + g then φ (.gst i (gs[i]!.first + k)) else 0)) = 0 := by
      refine sumTo_zero fun k _ => ?_
      have a : ¬ lu T gs (.gst i (gs[i]!.first + k)) = 1 + g := by show ¬ 1 + i = 1 + g; omega
      have b : ¬ lv T ls gs (.gst i (gs[i]!.first + k)) = 1 + g := by have := lt_place (n := gs.length) (T := T) (l := gs[i]!.line) (t := gs[i]!.first + k); show ¬ place _ _ _ _ = 1 + g; omega
      rw [if_neg a, if_neg b]; rfl
    rw [h1]
    show (if (0 : Nat) = 1 + g then φ (.src i) else 0) - (if 1 + i = 1 + g then φ (.src i) else 0) + 0 = 0
    rw [if_neg (by omega), if_neg (by omega)]; rfl
theorem ex_lin (G : GuOk T ls.length gs) (Y : YaOk T ls) {l t : Nat} (hl : l < ls.length) (ht : t < T) : exLab T ls gs φ (place gs.length T l t) =
    φ (.lin l t) - (sumTo gs.length fun i => if gs[i]!.line = l ∧ gs[i]!.first ≤ t ∧ t ≤ gs[i]!.last then φ (.gst i t) else 0) - (sumTo ls.length fun j => if ls[j]!.above = some l then φ (.lin j t) else 0) := by
  unfold exLab
  rw [sum_labs]
  generalize hp : place gs.length T l t = p
  have np : gs.length < p := by rw [← hp]; exact lt_place
  have h1 : (sumTo gs.length fun i => ((if lu T gs (.src i) = p then φ (.src i) else 0) - (if lv T ls gs (.src i) = p then φ (.src i) else 0)) + sumTo (stay gs i) fun k => (if lu T gs (.gst i (gs[i]!.first + k)) = p then φ (.gst i (gs[i]!.first + k)) else 0) - (if lv T ls gs (.gst i (gs[i]!.first + k)) = p then φ (.gst i (gs[i]!.first + k)) else 0)) =
      0 - sumTo gs.length fun i => if gs[i]!.line = l ∧ gs[i]!.first ≤ t ∧ t ≤ gs[i]!.last then φ (.gst i t) else 0 := by
    rw [← sumTo_neg]
    refine sumTo_congr fun i hi => ?_
    have a : ¬ lu T gs (.src i) = p := by show ¬ 0 = p; omega
    have b : ¬ lv T ls gs (.src i) = p := by show ¬ 1 + i = p; omega
    rw [if_neg a, if_neg b]
    have c : (sumTo (stay gs i) fun k => (if lu T gs (.gst i (gs[i]!.first + k)) = p then φ (.gst i (gs[i]!.first + k)) else 0) - (if lv T ls gs (.gst i (gs[i]!.first + k)) = p then φ (.gst i (gs[i]!.first + k)) else 0)) =
        sumTo (stay gs i) fun k => 0 - (if gs[i]!.line = l ∧ gs[i]!.first + k = t then φ (.gst i (gs[i]!.first + k)) else 0) := by
      refine sumTo_congr fun k hk => ?_
      have a : ¬ lu T gs (.gst i (gs[i]!.first + k)) = p := by show ¬ 1 + i = p; omega
      rw [if_neg a]
      have lt := G.lt i hi
      have hk : k < gs[i]!.last + 1 - gs[i]!.first := hk
      have iff : lv T ls gs (.gst i (gs[i]!.first + k)) = p ↔ gs[i]!.line = l ∧ gs[i]!.first + k = t := by
        show place gs.length T gs[i]!.line (gs[i]!.first + k) = p ↔ _
        rw [← hp]
        refine ⟨fun e => place_inj (by omega) ht e, fun ⟨e1, e2⟩ => by rw [e1, e2]⟩
      by_cases q : gs[i]!.line = l ∧ gs[i]!.first + k = t
      · rw [if_pos (iff.mpr q), if_pos q]
      · rw [if_neg (fun z => q (iff.mp z)), if_neg q]
    rw [c]
    have fl := G.fl i hi
    by_cases q : gs[i]!.line = l ∧ gs[i]!.first ≤ t ∧ t ≤ gs[i]!.last
    · obtain ⟨q1, q2, q3⟩ := q
      rw [sumTo_single (k := t - gs[i]!.first) (fun k hk hne => by rw [if_neg (fun z => hne (by have := z.2; omega))]; rfl) (by show t - gs[i]!.first < gs[i]!.last + 1 - gs[i]!.first; omega)]
      have e : gs[i]!.first + (t - gs[i]!.first) = t := by omega
      rw [e, if_pos ⟨q1, rfl⟩, if_pos ⟨q1, q2, q3⟩]; omega
    · rw [if_neg q, sumTo_zero fun k hk => ?_]
      · rfl
      · have hk : k < gs[i]!.last + 1 - gs[i]!.first := hk
        rw [if_neg (fun z => q ⟨z.1, by have := z.2; omega, by have := z.2; omega⟩)]; rfl
  have h2 : (sumTo ls.length fun j => sumTo T fun s => (if lu T gs (.lin j s) = p then φ (.lin j s) else 0) - (if lv T ls gs (.lin j s) = p then φ (.lin j s) else 0)) =
      φ (.lin l t) - sumTo ls.length fun j => if ls[j]!.above = some l then φ (.lin j t) else 0 := by
    have c : (sumTo ls.length fun j => sumTo T fun s => (if lu T gs (.lin j s) = p then φ (.lin j s) else 0) - (if lv T ls gs (.lin j s) = p then φ (.lin j s) else 0)) =
        sumTo ls.length fun j => (if j = l then φ (.lin j t) else 0) - (if ls[j]!.above = some l then φ (.lin j t) else 0) := by
      refine sumTo_congr fun j hj => ?_
      rw [sumTo_sub]
      congr 1
      · by_cases e : j = l
        · rw [if_pos e, sumTo_single (k := t) (fun s hs hne => if_neg fun z => hne (place_inj hs ht (z.trans hp.symm)).2) ht]
          exact if_pos (show place gs.length T j t = p by rw [e, hp])
        · rw [if_neg e]
          exact sumTo_zero fun s hs => if_neg fun z => e (place_inj hs ht (z.trans hp.symm)).1
      · cases ha : ls[j]!.above with
        | none =>
          rw [if_neg (by simp)]
          refine sumTo_zero fun s hs => if_neg ?_
          show ¬ (match ls[j]!.above with | none => goalN gs.length T ls.length | some a => place gs.length T a s) = p
          rw [ha]
          show ¬ goalN gs.length T ls.length = p
          have := place_lt (n := gs.length) hl ht
          omega
        | some a =>
          have key : ∀ s, (lv T ls gs (.lin j s)) = place gs.length T a s := fun s => by
            show (match ls[j]!.above with | none => goalN gs.length T ls.length | some a => place gs.length T a s) = _
            rw [ha]
          by_cases e : a = l
          · rw [if_pos (by rw [e]), sumTo_single (k := t) (fun s hs hne => if_neg fun z => hne (place_inj hs ht ((key s).symm.trans (z.trans hp.symm))).2) ht]
            rw [if_pos ((key t).trans (by rw [e, hp]))]
          · rw [if_neg (by simpa using e)]
            exact sumTo_zero fun s hs => if_neg fun z => e (place_inj hs ht ((key s).symm.trans (z.trans hp.symm))).1
    rw [c, sumTo_sub, sumTo_single (k := l) (fun i _ hne => if_neg hne) hl, if_pos rfl]
  rw [h1, h2]
  omega

/-! ### fillings -/
/-- x: what each guest takes at each turn; y: what each line lets through -/
structure Fill (T : Nat) (ls : List Ln) (gs : List Gu) (x y : Nat → Nat → Int) : Prop where
  pos : ∀ i, i < gs.length → ∀ t, t < T → 0 ≤ x i t ∧ x i t ≤ gs[i]!.most
  away : ∀ i, i < gs.length → ∀ t, t < T → ¬ (gs[i]!.first ≤ t ∧ t ≤ gs[i]!.last) → x i t = 0
  tot : ∀ i, i < gs.length → sumTo T (x i) = gs[i]!.want
  line : ∀ l, l < ls.length → ∀ t, t < T → 0 ≤ y l t ∧ y l t ≤ bnd ls l t
  load : ∀ l, l < ls.length → ∀ t, t < T → (sumTo gs.length fun i => if gs[i]!.line = l then x i t else 0) + (sumTo ls.length fun j => if ls[j]!.above = some l then y j t else 0) ≤ y l t
/-- a flow over the labels -/
structure Flow (T : Nat) (ls : List Ln) (gs : List Gu) (φ : Lab → Int) : Prop where
  cap : ∀ b ∈ labs T ls gs, 0 ≤ φ b ∧ φ b ≤ lc ls gs b
variable {φ : Lab → Int} {x y : Nat → Nat → Int}
theorem mem_src {i : Nat} (hi : i < gs.length) : Lab.src i ∈ labs T ls gs := by
  unfold labs labGs labG
  exact List.mem_append_left _ (List.mem_flatMap.mpr ⟨i, List.mem_range.mpr hi, List.mem_cons_self⟩)
theorem mem_gst {i t : Nat} (hi : i < gs.length) (h1 : gs[i]!.first ≤ t) (h2 : t ≤ gs[i]!.last) : Lab.gst i t ∈ labs T ls gs := by
  unfold labs labGs labG stay
  refine List.mem_append_left _ (List.mem_flatMap.mpr ⟨i, List.mem_range.mpr hi, List.mem_cons_of_mem _ (List.mem_map.mpr ⟨t - gs[i]!.first, List.mem_range.mpr (by omega), ?_⟩)⟩)
  rw [show gs[i]!.first + (t - gs[i]!.first) = t by omega]
theorem mem_lin {l t : Nat} (hl : l < ls.length) (ht : t < T) : Lab.lin l t ∈ labs T ls gs := by
  unfold labs labLs
  exact List.mem_append_right _ (List.mem_flatMap.mpr ⟨l, List.mem_range.mpr hl, List.mem_map.mpr ⟨t, List.mem_range.mpr ht, rfl⟩⟩)
theorem labs_cases {b : Lab} (h : b ∈ labs T ls gs) : (∃ i, i < gs.length ∧ b = .src i) ∨ (∃ i t, i < gs.length ∧ gs[i]!.first ≤ t ∧ t ≤ gs[i]!.last ∧ b = .gst i t) ∨ (∃ l t, l < ls.length ∧ t < T ∧ b = .lin l t) := by
  unfold labs labGs labLs labG stay at h
  rcases List.mem_append.mp h with h | h
  · obtain ⟨i, hi, h⟩ := List.mem_flatMap.mp h
    have hi := List.mem_range.mp hi
    rcases List.mem_cons.mp h with rfl | h
    · exact .inl ⟨i, hi, rfl⟩
    · obtain ⟨k, hk, rfl⟩ := List.mem_map.mp h
      have hk := List.mem_range.mp hk
      exact .inr (.inl ⟨i, _, hi, by omega, by omega, rfl⟩)
  · obtain ⟨l, hl, h⟩ := List.mem_flatMap.mp h
    obtain ⟨t, ht, rfl⟩ := List.mem_map.mp h
    exact .inr (.inr ⟨l, t, List.mem_range.mp hl, List.mem_range.mp ht, rfl⟩)
/-- a stay's sum, turn by turn or from its first turn -/
theorem sum_stay (G : GuOk T ls.length gs) {i : Nat} (hi : i < gs.length) {f : Nat → Int} (h0 : ∀ t, t < T → ¬ (gs[i]!.first ≤ t ∧ t ≤ gs[i]!.last) → f t = 0) : sumTo T f = sumTo (stay gs i) fun k => f (gs[i]!.first + k) := by
  have h1 := G.fl i hi
  have h2 := G.lt i hi
  have e : T = gs[i]!.first + (stay gs i + (T - (gs[i]!.last + 1))) := by unfold stay; omega
  rw [e, sumTo_split, sumTo_split, sumTo_zero (n := gs[i]!.first) fun t ht => h0 t (by omega) (by omega), sumTo_zero (n := T - (gs[i]!.last + 1)) fun t ht => h0 _ (by unfold stay; omega) (by unfold stay; omega)]
  omega
/-- the flow of a filling -/
def phiOf (gs : List Gu) (x y : Nat → Nat → Int) : Lab → Int
  | .src i => gs[i]!.want
  | .gst i t => x i t
  | .lin l t => y l t
theorem Fill.cap (h : Fill T ls gs x y) (G : GuOk T ls.length gs) {b : Lab} (hb : b ∈ labs T ls gs) : 0 ≤ phiOf gs x y b ∧ phiOf gs x y b ≤ lc ls gs b := by
  rcases labs_cases hb with ⟨i, hi, rfl⟩ | ⟨i, t, hi, h1, h2, rfl⟩ | ⟨l, t, hl, ht, rfl⟩
  · exact ⟨G.want i hi, Int.le_refl _⟩
  · exact h.pos i hi t (by have := G.lt i hi; omega)
  · exact h.line l hl t ht
theorem Fill.gst (h : Fill T ls gs x y) (G : GuOk T ls.length gs) {i : Nat} (hi : i < gs.length) : exLab T ls gs (phiOf gs x y) (1 + i) = 0 := by
  rw [ex_gst _ hi]
  show sumTo (stay gs i) (fun k => x i (gs[i]!.first + k)) - gs[i]!.want = 0
  rw [← sum_stay G hi (h.away i hi), h.tot i hi]; omega
theorem Fill.lin (h : Fill T ls gs x y) (G : GuOk T ls.length gs) (Y : YaOk T ls) {l t : Nat} (hl : l < ls.length) (ht : t < T) : 0 ≤ exLab T ls gs (phiOf gs x y) (place gs.length T l t) := by
  rw [ex_lin _ G Y hl ht]
  have q := h.load l hl t ht
  have e : (sumTo gs.length fun i => if gs[i]!.line = l ∧ gs[i]!.first ≤ t ∧ t ≤ gs[i]!.last then phiOf gs x y (.gst i t) else 0) = sumTo gs.length fun i => if gs[i]!.line = l then x i t else 0 := by
    refine sumTo_congr fun i hi => ?_
    show (if gs[i]!.line = l ∧ gs[i]!.first ≤ t ∧ t ≤ gs[i]!.last then x i t else 0) = _
    by_cases a : gs[i]!.line = l
    · by_cases b : gs[i]!.first ≤ t ∧ t ≤ gs[i]!.last
      · rw [if_pos ⟨a, b⟩, if_pos a]
      · rw [if_neg (fun z => b z.2), if_pos a, h.away i hi t ht b]
    · rw [if_neg (fun z => a z.1), if_neg a]
  rw [e]
  show 0 ≤ y l t - _ - (sumTo ls.length fun j => if ls[j]!.above = some l then y j t else 0)
  omega
/-- the filling of a flow that fills all wants -/
theorem fill_of (G : GuOk T ls.length gs) (Y : YaOk T ls) (hc : ∀ b ∈ labs T ls gs, 0 ≤ φ b ∧ φ b ≤ lc ls gs b) (hg : ∀ i, i < gs.length → exLab T ls gs φ (1 + i) = 0) (hl : ∀ l, l < ls.length → ∀ t, t < T → exLab T ls gs φ (place gs.length T l t) = 0)
    (hw : ∀ i, i < gs.length → φ (.src i) = gs[i]!.want) : Fill T ls gs (fun i t => if gs[i]!.first ≤ t ∧ t ≤ gs[i]!.last then φ (.gst i t) else 0) (fun l t => φ (.lin l t)) := by
  have away : ∀ i, ∀ t, ¬ (gs[i]!.first ≤ t ∧ t ≤ gs[i]!.last) → (if gs[i]!.first ≤ t ∧ t ≤ gs[i]!.last then φ (.gst i t) else 0) = 0 := fun i t h => if_neg h
  refine ⟨fun i hi t ht => ?_, fun i hi t ht h => away i t h, fun i hi => ?_, fun l h t ht => hc _ (mem_lin h ht), fun l h t ht => ?_⟩
  · show 0 ≤ (if gs[i]!.first ≤ t ∧ t ≤ gs[i]!.last then φ (.gst i t) else 0) ∧ (if gs[i]!.first ≤ t ∧ t ≤ gs[i]!.last then φ (.gst i t) else 0) ≤ _
    by_cases b : gs[i]!.first ≤ t ∧ t ≤ gs[i]!.last
    · rw [if_pos b]; exact hc _ (mem_gst hi b.1 b.2)
    · rw [if_neg b]; exact ⟨Int.le_refl _, G.most i hi⟩
  · rw [sum_stay G hi fun t _ h => away i t h]
    have q := hg i hi
    rw [ex_gst _ hi, hw i hi] at q
    have e : (sumTo (stay gs i) fun k => (if gs[i]!.first ≤ gs[i]!.first + k ∧ gs[i]!.first + k ≤ gs[i]!.last then φ (.gst i (gs[i]!.first + k)) else 0)) = sumTo (stay gs i) fun k => φ (.gst i (gs[i]!.first + k)) := by
      refine sumTo_congr fun k hk => if_pos ⟨by omega, ?_⟩
      have hk : k < gs[i]!.last + 1 - gs[i]!.first := hk
      omega
    rw [e]; omega
  · have q := hl l h t ht
    rw [ex_lin _ G Y h ht] at q
    have e : (sumTo gs.length fun i => if gs[i]!.line = l then (if gs[i]!.first ≤ t ∧ t ≤ gs[i]!.last then φ (.gst i t) else 0) else 0) = sumTo gs.length fun i => if gs[i]!.line = l ∧ gs[i]!.first ≤ t ∧ t ≤ gs[i]!.last then φ (.gst i t) else 0 := by
      refine sumTo_congr fun i hi => ?_
      by_cases a : gs[i]!.line = l
      · by_cases b : gs[i]!.first ≤ t ∧ t ≤ gs[i]!.last
        · rw [if_pos a, if_pos b, if_pos ⟨a, b⟩]
        · rw [if_pos a, if_neg b, if_neg (fun z => b z.2)]
      · rw [if_neg a, if_neg (fun z => a z.1)]
    show (sumTo gs.length fun i => if gs[i]!.line = l then (if gs[i]!.first ≤ t ∧ t ≤ gs[i]!.last then φ (.gst i t) else 0) else 0) + _ ≤ φ (.lin l t)
    rw [e]; omega
theorem sumTo_eq_of_le {f g : Nat → Int} : ∀ {n : Nat}, (∀ i, i < n → f i ≤ g i) → sumTo n g ≤ sumTo n f → ∀ i, i < n → f i = g i
  | 0, _, _, i, h => absurd h (Nat.not_lt_zero i)
  | n + 1, h, e, i, hi => by
    have h1 := sumTo_le (n := n) fun j hj => h j (Nat.lt_succ_of_lt hj)
    have h2 := h n (Nat.lt_succ_self n)
    have e : sumTo n g + g n ≤ sumTo n f + f n := e
    by_cases c : i = n
    · subst c; omega
    · exact sumTo_eq_of_le (n := n) (fun j hj => h j (Nat.lt_succ_of_lt hj)) (by omega) i (by omega)

/-! ### the course's net -/
variable (T ls gs)
abbrev cE : List Nat := endsOf T ls gs (labs T ls gs)
abbrev cN : Nat := goalN gs.length T ls.length + 1
abbrev cM : Nat := (labs T ls gs).length
def cCap (i : Nat) : Int := lc ls gs (labs T ls gs)[i]!
/-- what flows over a label -/
def phiL (L : List Int) (b : Lab) : Int := fl L ((labs T ls gs).idxOf b)
variable {T ls gs}
variable {L : List Int} {tot : Int} {F : List (Nat × Option Nat)}
theorem us_cE {i : Nat} (h : i < cM T ls gs) : us (cE T ls gs) i = lu T gs (labs T ls gs)[i]! := flat2_odd _ _ 0 _ i h
theorem vs_cE {i : Nat} (h : i < cM T ls gs) : vs (cE T ls gs) i = lv T ls gs (labs T ls gs)[i]! := flat2_even _ _ 0 _ i h
theorem ex_cE (g : Nat → Int) (φ : Lab → Int) (h : ∀ i, i < cM T ls gs → g i = φ (labs T ls gs)[i]!) (x : Nat) : ex (cM T ls gs) (us (cE T ls gs)) (vs (cE T ls gs)) g x = exLab T ls gs φ x := by
  unfold ex exLab
  rw [← sumTo_list]
  refine sumTo_congr fun i hi => ?_
  rw [us_cE hi, vs_cE hi, h i hi]
theorem getE {i : Nat} (h : i < cM T ls gs) : (labs T ls gs)[i]? = some (labs T ls gs)[i]! := by
  rw [List.getElem?_eq_getElem h, getElem!_pos (labs T ls gs) i h]
theorem phiL_at {i : Nat} {b : Lab} (h : (labs T ls gs)[i]? = some b) : phiL T ls gs L b = fl L i := by
  obtain ⟨hi, e⟩ := List.getElem?_eq_some_iff.mp h
  unfold phiL
  have q := List.Nodup.idxOf_getElem (labs_nodup (T := T) (ls := ls) (gs := gs)) i hi
  rw [e] at q
  rw [q]
theorem phiL_ex (x : Nat) : exL (cE T ls gs) L (cM T ls gs) x = exLab T ls gs (phiL T ls gs L) x := ex_cE _ _ (fun i hi => (phiL_at (getE hi)).symm) x
/-- a node that is neither the beginning nor the end -/
theorem node_cases (Y : YaOk T ls) {x : Nat} (hx : x < cN T ls gs) (h0 : x ≠ 0) (ht : x ≠ goalN gs.length T ls.length) : (∃ i, i < gs.length ∧ x = 1 + i) ∨ ∃ l t, l < ls.length ∧ t < T ∧ x = place gs.length T l t := by
  by_cases c : x ≤ gs.length
  · exact .inl ⟨x - 1, by omega, by omega⟩
  · have hx : x < 1 + gs.length + T * ls.length + 1 := hx
    have ht : x ≠ 1 + gs.length + T * ls.length := ht
    have hT := Y.t1
    have hq : x - (1 + gs.length) < T * ls.length := by
      generalize T * ls.length = q at *
      omega
    refine .inr ⟨(x - (1 + gs.length)) / T, (x - (1 + gs.length)) % T, (Nat.div_lt_iff_lt_mul (by omega)).mpr (by rw [Nat.mul_comm]; exact hq), Nat.mod_lt _ (by omega), ?_⟩
    have e := Nat.div_add_mod (x - (1 + gs.length)) T
    unfold place
    rw [Nat.mul_comm] at e
    generalize (x - (1 + gs.length)) / T * T = a at *
    generalize (x - (1 + gs.length)) % T = b at *
    omega
/-- what a course's net holds when all is sent -/
structure Done (T : Nat) (ls : List Ln) (gs : List Gu) (L : List Int) (tot : Int) (F : List (Nat × Option Nat)) : Prop where
  sent : Sent (cE T ls gs) (cN T ls gs) (cM T ls gs) 0 (goalN gs.length T ls.length) (cCap T ls gs) L tot
  out : Outer (cE T ls gs) L (cN T ls gs) 0 F []
  goal : goalN gs.length T ls.length ∉ keys F
def wants (gs : List Gu) : Int := sumTo gs.length fun i => gs[i]!.want
theorem lv_lt (G : GuOk T ls.length gs) (Y : YaOk T ls) {b : Lab} (hb : b ∈ labs T ls gs) : lv T ls gs b < cN T ls gs := by
  rcases labs_cases hb with ⟨i, hi, rfl⟩ | ⟨i, t, hi, h1, h2, rfl⟩ | ⟨l, t, hl, ht, rfl⟩
  · show 1 + i < goalN _ _ _ + 1
    have := lt_goal (n := gs.length) (T := T) (nl := ls.length); omega
  · show place _ _ _ _ < goalN _ _ _ + 1
    have := place_lt (n := gs.length) (G.line i hi) (show t < T by have := G.lt i hi; omega); omega
  · show (match ls[l]!.above with | none => goalN gs.length T ls.length | some a => place gs.length T a t) < goalN _ _ _ + 1
    split
    · omega
    · rename_i a ha
      have := place_lt (n := gs.length) (show a < ls.length by have := Y.abv l hl a ha; omega) ht; omega
theorem lu_lt (G : GuOk T ls.length gs) {b : Lab} (hb : b ∈ labs T ls gs) : lu T gs b < cN T ls gs := by
  rcases labs_cases hb with ⟨i, hi, rfl⟩ | ⟨i, t, hi, h1, h2, rfl⟩ | ⟨l, t, hl, ht, rfl⟩
  · show 0 < goalN _ _ _ + 1; omega
  · show 1 + i < goalN _ _ _ + 1
    have := lt_goal (n := gs.length) (T := T) (nl := ls.length); omega
  · show place _ _ _ _ < goalN _ _ _ + 1
    have := place_lt (n := gs.length) hl ht; omega
theorem mem_get {i : Nat} (h : i < cM T ls gs) : (labs T ls gs)[i]! ∈ labs T ls gs := by
  rw [getElem!_pos (labs T ls gs) i h]; exact List.getElem_mem h
theorem cE_len : (cE T ls gs).length = 2 * cM T ls gs := flat2_len _ _ _
theorem cE_lt (G : GuOk T ls.length gs) (Y : YaOk T ls) : ∀ a, a < 2 * cM T ls gs → gn (cE T ls gs) a < cN T ls gs := fun a ha => by
  rcases arc_cases a with e | e
  · rw [e]
    have hi : a / 2 < cM T ls gs := by omega
    show vs (cE T ls gs) (a / 2) < _
    rw [vs_cE hi]; exact lv_lt G Y (mem_get hi)
  · rw [e]
    have hi : a / 2 < cM T ls gs := by omega
    show us (cE T ls gs) (a / 2) < _
    rw [us_cE hi]; exact lu_lt G (mem_get hi)
/-- all can be filled: nothing lacks -/
theorem Done.full (D : Done T ls gs L tot F) (G : GuOk T ls.length gs) (Y : YaOk T ls) (h : Fill T ls gs x y) : wants gs ≤ tot := by
  have q := D.sent.most (show 0 < cN T ls gs by show 0 < goalN _ _ _ + 1; omega) (cE_lt G Y) D.out.tree (fun z hz => D.out.cl z hz (by simp)) D.goal (g := fun i => phiOf gs x y (labs T ls gs)[i]!) (fun i hi => h.cap G (mem_get hi)) (fun z hz h0 ht => by
    rw [ex_cE _ _ fun _ _ => rfl]
    rcases node_cases Y hz h0 ht with ⟨i, hi, rfl⟩ | ⟨l, t, hl, htt, rfl⟩
    · rw [h.gst G hi]; exact Int.le_refl _
    · exact h.lin G Y hl htt)
  rw [ex_cE _ _ fun _ _ => rfl, ex_src] at q
  exact q
/-- nothing lacks: a filling -/
theorem Done.fill (D : Done T ls gs L tot F) (G : GuOk T ls.length gs) (Y : YaOk T ls) (h : wants gs ≤ tot) : Fill T ls gs (fun i t => if gs[i]!.first ≤ t ∧ t ≤ gs[i]!.last then phiL T ls gs L (.gst i t) else 0) (fun l t => phiL T ls gs L (.lin l t)) := by
  have cap : ∀ b ∈ labs T ls gs, 0 ≤ phiL T ls gs L b ∧ phiL T ls gs L b ≤ lc ls gs b := fun b hb => by
    obtain ⟨i, hi, e⟩ := List.getElem_of_mem hb
    have e1 : (labs T ls gs)[i]? = some b := by rw [List.getElem?_eq_getElem hi, e]
    rw [phiL_at e1]
    have q := D.sent.fl_le hi
    have e2 : cCap T ls gs i = lc ls gs b := by
      unfold cCap
      rw [getElem!_pos (labs T ls gs) i hi, e]
    rw [e2] at q
    exact q
  have g0 := lt_goal (n := gs.length) (T := T) (nl := ls.length)
  have src : ∀ i, i < gs.length → phiL T ls gs L (.src i) = gs[i]!.want := by
    refine sumTo_eq_of_le (fun i hi => (cap _ (mem_src hi)).2) ?_
    rw [← ex_src (T := T) (ls := ls), ← phiL_ex, D.sent.out]
    exact h
  refine fill_of G Y cap (fun i hi => ?_) (fun l hl t ht => ?_) src
  · rw [← phiL_ex]
    exact D.sent.keep (1 + i) (by show 1 + i < goalN _ _ _ + 1; omega) (by omega) (by omega)
  · rw [← phiL_ex]
    have p1 := place_lt (n := gs.length) hl ht
    have p2 := lt_place (n := gs.length) (T := T) (l := l) (t := t)
    exact D.sent.keep _ (by show _ < goalN _ _ _ + 1; omega) (by omega) (by omega)
end
end NM
end
section
set_option autoImplicit false
/-! Plain mathematics: how a yard's arcs are laid one after another, and what is sent at the beginning. -/
namespace NM
section
variable {T : Nat} {ls : List Ln} {gs : List Gu}
theorem labGs_succ (gs : List Gu) (k : Nat) : labGs gs (k + 1) = labGs gs k ++ labG gs k := by
  unfold labGs
  rw [List.range_succ, List.flatMap_append, List.flatMap_cons, List.flatMap_nil, List.append_nil]
theorem labLs_succ (T k : Nat) : labLs T (k + 1) = labLs T k ++ (List.range T).map (Lab.lin k) := by
  unfold labLs
  rw [List.range_succ, List.flatMap_append, List.flatMap_cons, List.flatMap_nil, List.append_nil]
theorem labG_len (gs : List Gu) (i : Nat) : (labG gs i).length = 1 + stay gs i := by
  unfold labG
  rw [List.length_cons, List.length_map, List.length_range]; omega
theorem stay_le (G : GuOk T ls.length gs) (Y : YaOk T ls) {i : Nat} (hi : i < gs.length) : stay gs i ≤ 8 := by
  have h1 := G.lt i hi
  have h2 := Y.t8
  unfold stay; omega
theorem labGs_le (G : GuOk T ls.length gs) (Y : YaOk T ls) : ∀ {k : Nat}, k ≤ gs.length → (labGs gs k).length ≤ 9 * k
  | 0, _ => Nat.le_refl 0
  | k + 1, h => by
    rw [labGs_succ, List.length_append, labG_len]
    have h1 := labGs_le G Y (k := k) (by omega)
    have h2 := stay_le G Y (i := k) (by omega)
    omega
theorem labLs_len (T : Nat) : ∀ k, (labLs T k).length = T * k
  | 0 => rfl
  | k + 1 => by
    rw [labLs_succ, List.length_append, labLs_len T k, List.length_map, List.length_range, Nat.mul_succ]
theorem mul_le_of {T k : Nat} (h1 : T ≤ 8) (h2 : k ≤ 5) : T * k ≤ 40 := Nat.le_trans (Nat.mul_le_mul h1 h2) (by decide)
theorem labs_le (G : GuOk T ls.length gs) (Y : YaOk T ls) : (labs T ls gs).length ≤ 112 := by
  unfold labs
  rw [List.length_append, labLs_len]
  have h1 := labGs_le G Y (Nat.le_refl gs.length)
  have h2 := G.n8
  have h3 := mul_le_of Y.t8 Y.l5
  omega
theorem cN_le (G : GuOk T ls.length gs) (Y : YaOk T ls) : cN T ls gs ≤ 50 := by
  show 1 + gs.length + T * ls.length + 1 ≤ 50
  have h2 := G.n8
  have h3 := mul_le_of Y.t8 Y.l5
  omega
theorem labGs_take (gs : List Gu) {j : Nat} : ∀ {k : Nat}, j ≤ k → ∃ r, labGs gs k = labGs gs j ++ r
  | 0, h => ⟨[], by rw [show j = 0 by omega, List.append_nil]⟩
  | k + 1, h => by
    by_cases e : j = k + 1
    · exact ⟨[], by rw [e, List.append_nil]⟩
    · obtain ⟨r, hr⟩ := labGs_take gs (j := j) (k := k) (by omega)
      exact ⟨r ++ labG gs k, by rw [labGs_succ, hr, List.append_assoc]⟩
/-- the numbers of a guest's arcs -/
def arcsOf (gs : List Gu) (j : Nat) : List Nat := (List.range (stay gs j)).map fun k => 2 * ((labGs gs j).length + 1 + k)
theorem arc_at {j k : Nat} (hj : j < gs.length) (hk : k < stay gs j) : (labs T ls gs)[(labGs gs j).length + 1 + k]? = some (.gst j (gs[j]!.first + k)) := by
  obtain ⟨r, hr⟩ := labGs_take gs (j := j + 1) (k := gs.length) hj
  unfold labs
  rw [hr, labGs_succ, List.append_assoc, List.append_assoc, List.getElem?_append_right (by omega), List.getElem?_append_left (by rw [labG_len]; omega)]
  rw [show (labGs gs j).length + 1 + k - (labGs gs j).length = k + 1 by omega]
  unfold labG
  rw [List.getElem?_cons_succ, List.getElem?_map, List.getElem?_range hk]
  rfl
theorem lc_nonneg (G : GuOk T ls.length gs) (Y : YaOk T ls) {b : Lab} (hb : b ∈ labs T ls gs) : 0 ≤ lc ls gs b := by
  rcases labs_cases hb with ⟨i, hi, rfl⟩ | ⟨i, t, hi, h1, h2, rfl⟩ | ⟨l, t, hl, ht, rfl⟩
  · exact G.want i hi
  · exact G.most i hi
  · show 0 ≤ ls[l]!.bounds.getD t 0
    rw [List.getD_eq_getElem?_getD]
    cases e : ls[l]!.bounds[t]? with
    | none => exact Int.le_refl 0
    | some b => exact Y.pos l hl b (List.mem_of_getElem? e)
abbrev cL (T : Nat) (ls : List Ln) (gs : List Gu) : List Int := leftOf ls gs (labs T ls gs)
theorem cL_len : (cL T ls gs).length = 2 * cM T ls gs := flat2_len _ _ _
theorem cL_even {i : Nat} (h : i < cM T ls gs) : gi (cL T ls gs) (2 * i) = cCap T ls gs i := flat2_even (lc ls gs) (fun _ => 0) 0 _ i h
theorem cL_odd {i : Nat} (h : i < cM T ls gs) : gi (cL T ls gs) (2 * i + 1) = 0 := flat2_odd (lc ls gs) (fun _ => 0) 0 _ i h
theorem sent_begin (G : GuOk T ls.length gs) (Y : YaOk T ls) : Sent (cE T ls gs) (cN T ls gs) (cM T ls gs) 0 (goalN gs.length T ls.length) (cCap T ls gs) (cL T ls gs) 0 := by
  have z : ∀ x, exL (cE T ls gs) (cL T ls gs) (cM T ls gs) x = 0 := fun x => sumTo_zero fun i hi => by
    rw [show fl (cL T ls gs) i = 0 from cL_odd hi]
    split <;> split <;> rfl
  refine ⟨cE_len, cL_len, fun a ha => ?_, fun i hi => by rw [cL_even hi, cL_odd hi]; omega, fun x _ _ _ => z x, z 0⟩
  rcases arc_cases a with e | e
  · rw [e, cL_even (by omega)]
    exact lc_nonneg G Y (mem_get (by omega))
  · rw [e, cL_odd (by omega)]; exact Int.le_refl 0
end
end NM
end
section
set_option autoImplicit false
/-! Plain mathematics of a hand: what is promised can be kept, turn by turn. -/
namespace NM
structure Sy where
  g : Gu
  given : Int
  gone : Bool
deriving Inhabited
def rest (s : Sy) : Int := if s.gone = true then 0 else s.g.want - s.given
def opens (ss : List Sy) : List Nat := (List.range ss.length).filter fun i => decide (0 < rest ss[i]!)
def asG (p : Nat) (s : Sy) : Gu := ⟨s.g.line, max s.g.first p - p, s.g.last - p, rest s, s.g.most⟩
def red (p : Nat) (ss : List Sy) : List Gu := (opens ss).map fun i => asG p ss[i]!
def dropL (p : Nat) (ls : List Ln) : List Ln := ls.map fun ln => ⟨ln.above, ln.bounds.drop p⟩
structure SyOk (T nl : Nat) (ss : List Sy) : Prop where
  n8 : ss.length ≤ 8
  line : ∀ i, i < ss.length → ss[i]!.g.line < nl
  fl : ∀ i, i < ss.length → ss[i]!.g.first ≤ ss[i]!.g.last
  lt : ∀ i, i < ss.length → ss[i]!.g.last < T
  most : ∀ i, i < ss.length → 0 ≤ ss[i]!.g.most
/-- the promises can be kept from turn p on: x what each gets, y what each line lets through -/
structure Prom (T : Nat) (ls : List Ln) (p : Nat) (ss : List Sy) (x y : Nat → Nat → Int) : Prop where
  pos : ∀ i, i < ss.length → ∀ t, p ≤ t → t < T → 0 ≤ x i t ∧ x i t ≤ ss[i]!.g.most
  away : ∀ i, i < ss.length → ∀ t, p ≤ t → t < T → ¬ (ss[i]!.g.first ≤ t ∧ t ≤ ss[i]!.g.last) → x i t = 0
  tot : ∀ i, i < ss.length → sumTo (T - p) (fun k => x i (p + k)) = rest ss[i]!
  line : ∀ l, l < ls.length → ∀ t, p ≤ t → t < T → 0 ≤ y l t ∧ y l t ≤ bnd ls l t
  load : ∀ l, l < ls.length → ∀ t, p ≤ t → t < T → (sumTo ss.length fun i => if ss[i]!.g.line = l then x i t else 0) + (sumTo ls.length fun j => if ls[j]!.above = some l then y j t else 0) ≤ y l t
def Can (T : Nat) (ls : List Ln) (p : Nat) (ss : List Sy) : Prop := ∃ x y, Prom T ls p ss x y
section
variable {T p : Nat} {ls : List Ln} {ss : List Sy} {x y : Nat → Nat → Int}
theorem Prom.rest_nonneg (h : Prom T ls p ss x y) {i : Nat} (hi : i < ss.length) : 0 ≤ rest ss[i]! := by
  rw [← h.tot i hi]
  exact sumTo_nonneg fun k hk => (h.pos i hi (p + k) (by omega) (by omega)).1
/-- who has not got all is still there -/
theorem Prom.late (h : Prom T ls p ss x y) {i : Nat} (hi : i < ss.length) (hr : 0 < rest ss[i]!) : p ≤ ss[i]!.g.last := by
  refine Decidable.byContradiction fun c => ?_
  have z := h.tot i hi
  rw [sumTo_zero fun k hk => h.away i hi (p + k) (by omega) (by omega) (by omega)] at z
  omega
/-- .. so behind its last turn its rest is 0 -/
theorem Prom.over (h : Prom T ls p ss x y) {i : Nat} (hi : i < ss.length) (hl : ss[i]!.g.last < p) : rest ss[i]! = 0 := by
  have a := h.rest_nonneg hi
  refine Decidable.byContradiction fun c => ?_
  have := h.late hi (by omega)
  omega
theorem mem_opens {i : Nat} : i ∈ opens ss ↔ i < ss.length ∧ 0 < rest ss[i]! := by
  unfold opens
  rw [List.mem_filter, List.mem_range, decide_eq_true_eq]
theorem opens_nodup : (opens ss).Nodup := List.Nodup.sublist List.filter_sublist List.nodup_range
theorem opens_len : (opens ss).length ≤ ss.length := by
  have h := List.length_filter_le (fun i => decide (0 < rest ss[i]!)) (List.range ss.length)
  rw [List.length_range] at h
  exact h
theorem sum_filter (F : Nat → Int) (q : Nat → Bool) : ∀ n, (((List.range n).filter q).map F).sum = sumTo n fun i => if q i = true then F i else 0
  | 0 => rfl
  | n + 1 => by
    rw [List.range_succ, List.filter_append, List.map_append, sum_app, sum_filter F q n]
    show _ = sumTo n _ + (if q n = true then F n else 0)
    congr 1
    by_cases c : q n = true
    · rw [List.filter_cons, if_pos c, if_pos c]
      show F n + 0 = F n; omega
    · rw [List.filter_cons, if_neg c, if_neg c]
      rfl
theorem sum_opens (F : Nat → Int) : (sumTo (opens ss).length fun k => F (opens ss)[k]!) = sumTo ss.length fun i => if 0 < rest ss[i]! then F i else 0 := by
  rw [sumTo_list]
  unfold opens
  rw [sum_filter]
  refine sumTo_congr fun i _ => ?_
  by_cases c : 0 < rest ss[i]!
  · rw [if_pos c, if_pos (decide_eq_true c)]
  · rw [if_neg c, if_neg (fun z => c (of_decide_eq_true z))]
theorem red_len (p : Nat) (ss : List Sy) : (red p ss).length = (opens ss).length := by unfold red; rw [List.length_map]
theorem red_at {k : Nat} (h : k < (opens ss).length) : (red p ss)[k]! = asG p ss[(opens ss)[k]!]! := by
  unfold red
  rw [getElem!_pos _ k (by rw [List.length_map]; exact h), List.getElem_map, getElem!_pos (opens ss) k h]
theorem opens_at {k : Nat} (h : k < (opens ss).length) : (opens ss)[k]! < ss.length ∧ 0 < rest ss[(opens ss)[k]!]! := by
  have m : (opens ss)[k]! ∈ opens ss := by rw [getElem!_pos (opens ss) k h]; exact List.getElem_mem h
  exact mem_opens.mp m
theorem dropL_len (p : Nat) (ls : List Ln) : (dropL p ls).length = ls.length := by unfold dropL; rw [List.length_map]
theorem dropL_at {l : Nat} (h : l < ls.length) : (dropL p ls)[l]! = ⟨ls[l]!.above, ls[l]!.bounds.drop p⟩ := by
  unfold dropL
  rw [getElem!_pos _ l (by rw [List.length_map]; exact h), List.getElem_map, getElem!_pos ls l h]
theorem bnd_drop {l t : Nat} (h : l < ls.length) : bnd (dropL p ls) l t = bnd ls l (p + t) := by
  unfold bnd
  rw [dropL_at h]
  show (ls[l]!.bounds.drop p).getD t 0 = _
  rw [List.getD_eq_getElem?_getD, List.getD_eq_getElem?_getD, List.getElem?_drop]
theorem dropL_ok (Y : YaOk T ls) (hp : p < T) : YaOk (T - p) (dropL p ls) := by
  refine ⟨by omega, by have := Y.t8; omega, by rw [dropL_len]; exact Y.l5, fun k hk => ?_, fun k hk b hb => ?_, fun k hk a ha => ?_⟩
  · rw [dropL_len] at hk
    rw [dropL_at hk]
    show (ls[k]!.bounds.drop p).length = _
    rw [List.length_drop, Y.len k hk]
  · rw [dropL_len] at hk
    rw [dropL_at hk] at hb
    exact Y.pos k hk b (List.mem_of_mem_drop hb)
  · rw [dropL_len] at hk
    rw [dropL_at hk] at ha
    exact Y.abv k hk a ha
/-- those still open, seen from turn p on -/
theorem red_ok (S : SyOk T ls.length ss) (hl : ∀ i, i < ss.length → 0 < rest ss[i]! → p ≤ ss[i]!.g.last) : GuOk (T - p) (dropL p ls).length (red p ss) := by
  rw [dropL_len]
  refine ⟨by rw [red_len]; have := opens_len (ss := ss); have := S.n8; omega, fun k hk => ?_, fun k hk => ?_, fun k hk => ?_, fun k hk => ?_, fun k hk => ?_⟩
  all_goals
    rw [red_len] at hk
    obtain ⟨o1, o2⟩ := opens_at hk
    rw [red_at hk]
  · exact S.line _ o1
  · show max ss[(opens ss)[k]!]!.g.first p - p ≤ ss[(opens ss)[k]!]!.g.last - p
    have := S.fl _ o1
    have := hl _ o1 o2
    omega
  · show ss[(opens ss)[k]!]!.g.last - p < T - p
    have := S.lt _ o1
    have := hl _ o1 o2
    omega
  · show 0 ≤ rest ss[(opens ss)[k]!]!; omega
  · exact S.most _ o1
/-- what can be kept is a filling of those still open -/
theorem Prom.fill (h : Prom T ls p ss x y) : Fill (T - p) (dropL p ls) (red p ss) (fun k t => x (opens ss)[k]! (p + t)) (fun l t => y l (p + t)) := by
  refine ⟨fun k hk t ht => ?_, fun k hk t ht ha => ?_, fun k hk => ?_, fun l hl t ht => ?_, fun l hl t ht => ?_⟩
  · rw [red_len] at hk
    obtain ⟨o1, o2⟩ := opens_at hk
    rw [red_at hk]
    exact h.pos _ o1 (p + t) (by omega) (by omega)
  · rw [red_len] at hk
    obtain ⟨o1, o2⟩ := opens_at hk
    rw [red_at hk] at ha
    have ha : ¬ (max ss[(opens ss)[k]!]!.g.first p - p ≤ t ∧ t ≤ ss[(opens ss)[k]!]!.g.last - p) := ha
    exact h.away _ o1 (p + t) (by omega) (by omega) (by omega)
  · rw [red_len] at hk
    obtain ⟨o1, o2⟩ := opens_at hk
    rw [red_at hk]
    exact h.tot _ o1
  · rw [dropL_len] at hl
    rw [bnd_drop hl]
    exact h.line l hl (p + t) (by omega) (by omega)
  · rw [dropL_len] at hl
    have q := h.load l hl (p + t) (by omega) (by omega)
    have e1 : (sumTo (dropL p ls).length fun j => if (dropL p ls)[j]!.above = some l then y j (p + t) else 0) = sumTo ls.length fun j => if ls[j]!.above = some l then y j (p + t) else 0 := by
      rw [dropL_len]
      exact sumTo_congr fun j hj => by rw [dropL_at hj]
    have e2 : (sumTo (red p ss).length fun k => if (red p ss)[k]!.line = l then x (opens ss)[k]! (p + t) else 0) = sumTo ss.length fun i => if 0 < rest ss[i]! then (if ss[i]!.g.line = l then x i (p + t) else 0) else 0 := by
      rw [← sum_opens (fun i => if ss[i]!.g.line = l then x i (p + t) else 0), red_len]
      exact sumTo_congr fun k hk => by rw [red_at hk]; rfl
    rw [e1, e2]
    have e3 : (sumTo ss.length fun i => if 0 < rest ss[i]! then (if ss[i]!.g.line = l then x i (p + t) else 0) else 0) ≤ sumTo ss.length fun i => if ss[i]!.g.line = l then x i (p + t) else 0 := by
      refine sumTo_le fun i hi => ?_
      have := (h.pos i hi (p + t) (by omega) (by omega)).1
      split <;> split <;> omega
    omega
/-- a filling of those still open keeps the promises -/
def xFrom (p : Nat) (ss : List Sy) (x : Nat → Nat → Int) (i t : Nat) : Int := if 0 < rest ss[i]! then x ((opens ss).idxOf i) (t - p) else 0
theorem idx_opens {k : Nat} (h : k < (opens ss).length) : (opens ss).idxOf (opens ss)[k]! = k := by
  rw [getElem!_pos (opens ss) k h]
  exact List.Nodup.idxOf_getElem opens_nodup k h
theorem at_idx {i : Nat} (h : i ∈ opens ss) : (opens ss).idxOf i < (opens ss).length ∧ (opens ss)[(opens ss).idxOf i]! = i := by
  have h1 := List.idxOf_lt_length_of_mem h
  refine ⟨h1, ?_⟩
  rw [getElem!_pos (opens ss) _ h1]
  exact List.getElem_idxOf h1
theorem Fill.prom (h : Fill (T - p) (dropL p ls) (red p ss) x y) (h0 : ∀ i, i < ss.length → 0 ≤ rest ss[i]!) (hm : ∀ i, i < ss.length → 0 ≤ ss[i]!.g.most) (hl : ∀ i, i < ss.length → 0 < rest ss[i]! → p ≤ ss[i]!.g.last) : Prom T ls p ss (xFrom p ss x) (fun l t => y l (t - p)) := by
  refine ⟨fun i hi t hp ht => ?_, fun i hi t hp ht ha => ?_, fun i hi => ?_, fun l hl t hp ht => ?_, fun l hl t hp ht => ?_⟩
  · unfold xFrom
    by_cases c : 0 < rest ss[i]!
    · rw [if_pos c]
      obtain ⟨a1, a2⟩ := at_idx (mem_opens.mpr ⟨hi, c⟩)
      have q := h.pos ((opens ss).idxOf i) (by rw [red_len]; exact a1) (t - p) (by omega)
      rw [red_at a1, a2] at q
      exact q
    · rw [if_neg c]; exact ⟨Int.le_refl 0, hm i hi⟩
  · unfold xFrom
    by_cases c : 0 < rest ss[i]!
    · rw [if_pos c]
      obtain ⟨a1, a2⟩ := at_idx (mem_opens.mpr ⟨hi, c⟩)
      refine h.away ((opens ss).idxOf i) (by rw [red_len]; exact a1) (t - p) (by omega) ?_
      rw [red_at a1, a2]
      show ¬ (max ss[i]!.g.first p - p ≤ t - p ∧ t - p ≤ ss[i]!.g.last - p)
      have := hl i hi c
      omega
    · rw [if_neg c]
  · unfold xFrom
    by_cases c : 0 < rest ss[i]!
    · obtain ⟨a1, a2⟩ := at_idx (mem_opens.mpr ⟨hi, c⟩)
      have q := h.tot ((opens ss).idxOf i) (by rw [red_len]; exact a1)
      rw [red_at a1, a2] at q
      have q : sumTo (T - p) (x ((opens ss).idxOf i)) = rest ss[i]! := q
      refine Eq.trans ?_ q
      refine sumTo_congr fun k hk => ?_
      rw [if_pos c, show p + k - p = k by omega]
    · have z := h0 i hi
      rw [sumTo_zero fun k hk => if_neg c]; omega
  · have q := h.line l (by rw [dropL_len]; exact hl) (t - p) (by omega)
    rw [bnd_drop hl, show p + (t - p) = t by omega] at q
    exact q
  · have q := h.load l (by rw [dropL_len]; exact hl) (t - p) (by omega)
    have e1 : (sumTo (dropL p ls).length fun j => if (dropL p ls)[j]!.above = some l then y j (t - p) else 0) = sumTo ls.length fun j => if ls[j]!.above = some l then y j (t - p) else 0 := by
      rw [dropL_len]
      exact sumTo_congr fun j hj => by rw [dropL_at hj]
    have e2 : (sumTo (red p ss).length fun k => if (red p ss)[k]!.line = l then x k (t - p) else 0) = sumTo ss.length fun i => if ss[i]!.g.line = l then xFrom p ss x i t else 0 := by
      have e3 : (sumTo ss.length fun i => if ss[i]!.g.line = l then xFrom p ss x i t else 0) = sumTo ss.length fun i => if 0 < rest ss[i]! then (if ss[i]!.g.line = l then x ((opens ss).idxOf i) (t - p) else 0) else 0 := by
        refine sumTo_congr fun i hi => ?_
        unfold xFrom
        split <;> split <;> rfl
      rw [e3, ← sum_opens (fun i => if ss[i]!.g.line = l then x ((opens ss).idxOf i) (t - p) else 0), red_len]
      refine sumTo_congr fun k hk => ?_
      rw [red_at hk, idx_opens hk]; rfl
    rw [e1, e2] at q
    exact q
/-- nothing is open -/
theorem can_none (Y : YaOk T ls) (h : ∀ i, i < ss.length → rest ss[i]! = 0) (hm : ∀ i, i < ss.length → 0 ≤ ss[i]!.g.most) : Can T ls p ss := by
  refine ⟨fun _ _ => 0, fun _ _ => 0, fun i hi t _ _ => ⟨Int.le_refl 0, hm i hi⟩, fun _ _ _ _ _ _ => rfl, fun i hi => ?_, fun l hl t _ ht => ⟨Int.le_refl 0, ?_⟩, fun l hl t _ _ => ?_⟩
  · rw [sumTo_zero fun _ _ => rfl, h i hi]
  · unfold bnd
    rw [List.getD_eq_getElem?_getD]
    cases e : ls[l]!.bounds[t]? with
    | none => exact Int.le_refl 0
    | some b => exact Y.pos l hl b (List.mem_of_getElem? e)
  · rw [sumTo_zero fun _ _ => by split <;> rfl, sumTo_zero fun _ _ => by split <;> rfl]
    exact Int.le_refl 0
/-- one leaves -/
theorem Prom.leave (h : Prom T ls p ss x y) {n : Nat} (ss' : List Sy) (hlen : ss'.length = ss.length) (hg : ∀ i, i < ss.length → ss'[i]!.g = ss[i]!.g) (hn : rest ss'[n]! = 0) (ho : ∀ i, i < ss.length → i ≠ n → rest ss'[i]! = rest ss[i]!) : Prom T ls p ss' (fun i t => if i = n then 0 else x i t) y := by
  refine ⟨fun i hi t hp ht => ?_, fun i hi t hp ht ha => ?_, fun i hi => ?_, h.line, fun l hl t hp ht => ?_⟩
  · rw [hlen] at hi
    have q := h.pos i hi t hp ht
    rw [hg i hi]
    by_cases c : i = n
    · rw [if_pos c]; omega
    · rw [if_neg c]; exact q
  · rw [hlen] at hi
    rw [hg i hi] at ha
    by_cases c : i = n
    · exact if_pos c
    · exact (if_neg c).trans (h.away i hi t hp ht ha)
  · rw [hlen] at hi
    by_cases c : i = n
    · rw [sumTo_zero fun k _ => if_pos c, c, hn]
    · rw [ho i hi c, ← h.tot i hi]
      exact sumTo_congr fun k _ => if_neg c
  · have q := h.load l hl t hp ht
    have e : (sumTo ss'.length fun i => if ss'[i]!.g.line = l then (if i = n then 0 else x i t) else 0) ≤ sumTo ss.length fun i => if ss[i]!.g.line = l then x i t else 0 := by
      rw [hlen]
      refine sumTo_le fun i hi => ?_
      rw [hg i hi]
      have := (h.pos i hi t hp ht).1
      by_cases c1 : ss[i]!.g.line = l
      · rw [if_pos c1, if_pos c1]
        split <;> omega
      · rw [if_neg c1, if_neg c1]
        exact Int.le_refl 0
    omega
/-- a turn is made -/
theorem Prom.turn (h : Prom T ls p ss x y) (hp : p < T) (ss' : List Sy) (hlen : ss'.length = ss.length) (hg : ∀ i, i < ss.length → ss'[i]!.g = ss[i]!.g) (hr : ∀ i, i < ss.length → rest ss'[i]! = rest ss[i]! - x i p) : Prom T ls (p + 1) ss' x y := by
  refine ⟨fun i hi t hp ht => ?_, fun i hi t hp ht ha => ?_, fun i hi => ?_, fun l hl t hp ht => h.line l hl t (by omega) ht, fun l hl t hp ht => ?_⟩
  · rw [hlen] at hi
    rw [hg i hi]
    exact h.pos i hi t (by omega) ht
  · rw [hlen] at hi
    rw [hg i hi] at ha
    exact h.away i hi t (by omega) ht ha
  · rw [hlen] at hi
    have q := h.tot i hi
    rw [show T - p = (T - (p + 1)) + 1 by omega, sumTo_cons] at q
    rw [hr i hi, ← q]
    have e : (sumTo (T - (p + 1)) fun k => x i (p + 1 + k)) = sumTo (T - (p + 1)) fun k => x i (p + (k + 1)) := sumTo_congr fun k _ => by rw [show p + 1 + k = p + (k + 1) by omega]
    rw [e]
    show _ = x i p + _ - x i p
    omega
  · have q := h.load l hl t (by omega) ht
    have e : (sumTo ss'.length fun i => if ss'[i]!.g.line = l then x i t else 0) = sumTo ss.length fun i => if ss[i]!.g.line = l then x i t else 0 := by
      rw [hlen]
      exact sumTo_congr fun i hi => by rw [hg i hi]
    rw [e]
    exact q
end
end NM
end
section
set_option autoImplicit false
/-! what a turn gives -/
namespace NM
def giveS (ss : List Sy) (X : Nat → Int) : List Sy := (List.range ss.length).map fun i => { ss[i]! with given := ss[i]!.given + X i }
theorem giveS_len (ss : List Sy) (X : Nat → Int) : (giveS ss X).length = ss.length := by unfold giveS; rw [List.length_map, List.length_range]
theorem giveS_at {ss : List Sy} {X : Nat → Int} {i : Nat} (h : i < ss.length) : (giveS ss X)[i]! = { ss[i]! with given := ss[i]!.given + X i } := by
  rw [getElem!_pos _ i (by rw [giveS_len]; exact h)]
  unfold giveS
  rw [List.getElem_map, List.getElem_range]
theorem giveS_congr {ss : List Sy} {X Y : Nat → Int} (h : ∀ i, i < ss.length → X i = Y i) : giveS ss X = giveS ss Y := by
  unfold giveS
  refine List.map_congr_left fun i hi => ?_
  rw [h i (List.mem_range.mp hi)]
theorem giveS_zero {ss : List Sy} {X : Nat → Int} (h : ∀ i, i < ss.length → X i = 0) : giveS ss X = ss := by
  apply List.ext_getElem
  · exact giveS_len ss X
  · intro i h1 h2
    have e := giveS_at (X := X) h2
    rw [getElem!_pos _ i h1, h i h2, Int.add_zero, getElem!_pos ss i h2] at e
    exact e
theorem giveS_set {ss : List Sy} {X : Nat → Int} {n : Nat} {d : Int} (h : n < ss.length) : (giveS ss X).set n { (giveS ss X)[n]! with given := (giveS ss X)[n]!.given + d } = giveS ss fun j => if j = n then X j + d else X j := by
  apply List.ext_getElem
  · rw [List.length_set, giveS_len, giveS_len]
  · intro i h1 h2
    have h3 : i < ss.length := by rw [giveS_len] at h2; exact h2
    have e := giveS_at (X := fun j => if j = n then X j + d else X j) h3
    rw [getElem!_pos _ i h2] at e
    rw [e, List.getElem_set]
    by_cases c : n = i
    · subst c
      rw [if_pos rfl, if_pos rfl, giveS_at h]
      show (⟨ss[n]!.g, ss[n]!.given + X n + d, ss[n]!.gone⟩ : Sy) = ⟨ss[n]!.g, ss[n]!.given + (X n + d), ss[n]!.gone⟩
      rw [Int.add_assoc]
    · have e2 := giveS_at (X := X) h3
      rw [getElem!_pos _ i (by rw [giveS_len]; exact h3)] at e2
      rw [if_neg c, e2, if_neg (fun z => c z.symm)]
/-- who is not open gets nothing -/
theorem Prom.zero {T p : Nat} {ls : List Ln} {ss : List Sy} {x y : Nat → Nat → Int} (h : Prom T ls p ss x y) {i : Nat} (hi : i < ss.length) (hp : p < T) (hr : rest ss[i]! = 0) : x i p = 0 := by
  have q := h.tot i hi
  rw [show T - p = (T - (p + 1)) + 1 by omega, sumTo_cons, hr] at q
  have a : 0 ≤ sumTo (T - (p + 1)) fun k => x i (p + (k + 1)) := sumTo_nonneg fun k hk => (h.pos i hi (p + (k + 1)) (by omega) (by omega)).1
  have b := (h.pos i hi p (Nat.le_refl _) hp).1
  have q : x i p + sumTo (T - (p + 1)) (fun k => x i (p + (k + 1))) = 0 := q
  omega
theorem Prom.pay {T p : Nat} {ls : List Ln} {ss : List Sy} {x y : Nat → Nat → Int} (h : Prom T ls p ss x y) {i : Nat} (hi : i < ss.length) (hp : p < T) (hr : 0 < x i p) : 0 < rest ss[i]! := by
  have := h.rest_nonneg hi
  refine Decidable.byContradiction fun c => ?_
  have := h.zero hi hp (by omega)
  omega
theorem Prom.give {T p : Nat} {ls : List Ln} {ss : List Sy} {x y : Nat → Nat → Int} (h : Prom T ls p ss x y) (hp : p < T) : Prom T ls (p + 1) (giveS ss fun i => x i p) x y := by
  refine h.turn hp _ (giveS_len _ _) (fun i hi => by rw [giveS_at hi]) fun i hi => ?_
  rw [giveS_at hi]
  by_cases c : ss[i]!.gone = true
  · have z : rest ss[i]! = 0 := if_pos c
    rw [h.zero hi hp z, z]
    exact if_pos c
  · show (if ss[i]!.gone = true then 0 else ss[i]!.g.want - (ss[i]!.given + x i p)) = (if ss[i]!.gone = true then 0 else ss[i]!.g.want - ss[i]!.given) - x i p
    rw [if_neg c, if_neg c]
    omega
/-- what the numbers of a list get, where they get something -/
def giftL (X : Nat → Int) (l : List Nat) : List (Nat × Int) := (l.filter fun i => decide (0 < X i)).map fun i => (i, X i)
theorem giftL_snoc (X : Nat → Int) (l : List Nat) (n : Nat) : giftL X (l ++ [n]) = if 0 < X n then giftL X l ++ [(n, X n)] else giftL X l := by
  unfold giftL
  rw [List.filter_append, List.map_append, List.filter_cons]
  by_cases c : 0 < X n
  · rw [if_pos c, if_pos (decide_eq_true c)]; rfl
  · rw [if_neg c, if_neg (fun z => c (of_decide_eq_true z))]; simp
theorem giftL_keys {X : Nat → Int} {l : List Nat} {n : Nat} {v : Int} (h : (n, v) ∈ giftL X l) : n ∈ l ∧ v = X n ∧ 0 < X n := by
  unfold giftL at h
  obtain ⟨i, hi, e⟩ := List.mem_map.mp h
  obtain ⟨h1, h2⟩ := List.mem_filter.mp hi
  cases e
  exact ⟨h1, rfl, of_decide_eq_true h2⟩
theorem giftL_len (X : Nat → Int) (l : List Nat) : (giftL X l).length ≤ l.length := by
  unfold giftL
  rw [List.length_map]
  exact List.length_filter_le _ _
theorem giftL_opens {X : Nat → Int} {ss : List Sy} (h : ∀ i, i < ss.length → 0 < X i → 0 < rest ss[i]!) : giftL X (opens ss) = giftL X (List.range ss.length) := by
  unfold giftL opens
  rw [List.filter_filter]
  congr 1
  refine List.filter_congr fun i hi => ?_
  by_cases c : 0 < X i
  · rw [decide_eq_true c, decide_eq_true (h i (List.mem_range.mp hi) c)]; rfl
  · rw [decide_eq_false c]; rfl
end NM
end
section
/-! The program's text by places. -/
namespace Cy
open PySem L2
def top (i : Nat) : Stmt := PySem.Challenge.pw_chargeyard_k63_who_leaves.main.body.getD i (.Pass ⟨0, 0, 0, 0⟩)
abbrev sNetInit : Stmt := inClass (top 8) 0
abbrev sNetLay : Stmt := inClass (top 8) 1
abbrev sNetComeBy : Stmt := inClass (top 8) 2
abbrev sNetWayTo : Stmt := inClass (top 8) 3
abbrev sNetSend : Stmt := inClass (top 8) 4
abbrev sNetSentBy : Stmt := inClass (top 8) 5
example (v1 v2 : V) : List.lookup ("left":Str) [("ends", v1), ("left", v2)] = some v2 := by rfl
theorem scNetInit : FnScope ["self", "places", "place"] ["self", "places"] (defScope sNetInit) := ⟨rfl, rfl, rfl, by decide +kernel, rfl, by decide +kernel, by decide +kernel⟩
theorem scNetComeBy : FnScope ["self", "start", "found", "waiting", "later", "place", "arc"] ["self", "start"] (defScope sNetComeBy) := ⟨rfl, rfl, rfl, by decide +kernel, rfl, by decide +kernel, by decide +kernel⟩
theorem scNetWayTo : FnScope ["self", "found", "goal", "way"] ["self", "found", "goal"] (defScope sNetWayTo) := ⟨rfl, rfl, rfl, by decide +kernel, rfl, by decide +kernel, by decide +kernel⟩
theorem scNetSend : FnScope ["self", "start", "goal", "total", "found", "way", "arc", "more"] ["self", "start", "goal"] (defScope sNetSend) := ⟨rfl, rfl, rfl, by decide +kernel, rfl, by decide +kernel, by decide +kernel⟩
theorem scNetSentBy : FnScope ["self", "arc"] ["self", "arc"] (defScope sNetSentBy) := ⟨rfl, rfl, rfl, by decide +kernel, rfl, by decide +kernel, by decide +kernel⟩
theorem scNetLay : FnScope ["self", "one", "other", "most", "number"] ["self", "one", "other", "most"] (defScope sNetLay) := ⟨rfl, rfl, rfl, by decide +kernel, rfl, by decide +kernel, by decide +kernel⟩
abbrev sCrsInit : Stmt := inClass (top 10) 0
abbrev sCrsPlace : Stmt := inClass (top 10) 1
abbrev sCrsLaid : Stmt := inClass (top 10) 2
abbrev sCrsLack : Stmt := inClass (top 10) 3
abbrev sCrsFilling : Stmt := inClass (top 10) 4
abbrev sCrsReached : Stmt := inClass (top 10) 5
theorem scCrsInit : FnScope ["self", "yard", "guests", "number", "line", "above", "bounds", "turn", "end"] ["self", "yard", "guests"] (defScope sCrsInit) := ⟨rfl, rfl, rfl, by decide +kernel, rfl, by decide +kernel, by decide +kernel⟩
theorem scCrsPlace : FnScope ["self", "line", "turn"] ["self", "line", "turn"] (defScope sCrsPlace) := ⟨rfl, rfl, rfl, by decide +kernel, rfl, by decide +kernel, by decide +kernel⟩
theorem scCrsLaid : FnScope ["self", "number", "line", "first", "last", "want", "most", "turn"] ["self", "number"] (defScope sCrsLaid) := ⟨rfl, rfl, rfl, by decide +kernel, rfl, by decide +kernel, by decide +kernel⟩
theorem scCrsLack : FnScope ["self", "guest"] ["self"] (defScope sCrsLack) := ⟨rfl, rfl, rfl, by decide +kernel, rfl, by decide +kernel, by decide +kernel⟩
theorem scCrsFilling : FnScope ["self", "found", "guest", "arcs", "row", "k", "arc"] ["self"] (defScope sCrsFilling) := ⟨rfl, rfl, rfl, by decide +kernel, rfl, by decide +kernel, by decide +kernel⟩
theorem scCrsReached : FnScope ["self", "found", "number"] ["self"] (defScope sCrsReached) := ⟨rfl, rfl, rfl, by decide +kernel, rfl, by decide +kernel, by decide +kernel⟩
abbrev sLeast : Stmt := top 11
abbrev sBest : Stmt := top 12
abbrev sLacking : Stmt := top 13
theorem scLeast : FnScope ["yard", "guests"] ["yard", "guests"] (defScope sLeast) := ⟨rfl, rfl, rfl, by decide +kernel, rfl, by decide +kernel, by decide +kernel⟩
theorem scBest : FnScope ["yard", "guests"] ["yard", "guests"] (defScope sBest) := ⟨rfl, rfl, rfl, by decide +kernel, rfl, by decide +kernel, by decide +kernel⟩
theorem scLacking : FnScope ["yard", "guests"] ["yard", "guests"] (defScope sLacking) := ⟨rfl, rfl, rfl, by decide +kernel, rfl, by decide +kernel, by decide +kernel⟩
end Cy
end
section
namespace Cy
open PySem L2
/-! ### heaps -/
theorem _root_.L2.Same.put {H0 H : Hp} {a : Addr} {o : HO} (s : Same H0 H) (h : H0 a = none) : Same H0 (upd H a o) := fun b u e => by
  rw [upd_ne (ne_of_none e h)]
  exact s b u e
theorem _root_.L2.Same.new {H : Hp} {a : Addr} {o : HO} (h : H a = none) : Same H (upd H a o) := (Same.refl H).put h
theorem nm {l : List Addr} {a b : Addr} (h : a ∉ l) (hb : b ∈ l) : a ≠ b := fun e => h (e ▸ hb)
theorem none_ne {H : Hp} {a b : Addr} {o : HO} (h : H a = none) (h' : H b = some o) : a ≠ b := fun e => ne_of_none h' h e.symm
theorem upd_new {H : Hp} {p a : Addr} {o u : HO} (hp : H p = none) (h : H a = some u) : upd H p o a = some u := (upd_ne (ne_of_none h hp)).trans h
theorem seqT {K : PySem.W.Frag} {H H' : Hp} {a : Addr} {xs : List V} (e : Same H H') (h : SqT K H a xs) : SqT K H' a xs := by
  rcases h with (h | ⟨o, h⟩) | h
  · exact .inl (.inl (e _ _ h))
  · exact .inl (.inr ⟨o, e _ _ h⟩)
  · exact .inr h
theorem small {n : Nat} (h : n ≤ 100000) : n ≤ sizeLine := Nat.le_trans h (by decide)
theorem small' {n : Nat} (h : n ≤ 100000) : n < sizeLine := Nat.lt_of_le_of_lt h (by decide)
/-! ### what the top has written -/
structure TxNet (K : PySem.W.Frag) (mg : Str → Option Value) (C : Addr) : Prop where
  cl : Cls K C
  nE : NoAttr K C "ends"
  nL : NoAttr K C "left"
  nR : NoAttr K C "rows"
  mgC : mg "Net" = some (.ref C)
  len : mg "len" = none
  range : mg "range" = none
  min : mg "min" = none
/-! ### a net in the heap -/
abbrev nV (n : Nat) : V := .int (n : Int)
abbrev netF (ae al ar : Addr) : List (Str × V) := [("ends", .ref ae), ("left", .ref al), ("rows", .ref ar)]
structure NetRaw (C : Addr) (H : Hp) (n ae al ar : Addr) (ra : List Addr) (E : List Nat) (L : List Int) (R : List (List Nat)) : Prop where
  obj : ∃ dx, H n = some (.ins C dx (netF ae al ar))
  he : H ae = some (.lst (E.map nV))
  hl : H al = some (.lst (L.map V.int))
  hr : H ar = some (.lst (ra.map V.ref))
  rl : ra.length = R.length
  row : ∀ (i : Nat) a r, ra[i]? = some a → R[i]? = some r → H a = some (.lst (r.map nV))
  nd : (ae :: al :: ar :: ra).Nodup
section
variable {C : Addr} {H H' : Hp} {n ae al ar : Addr} {ra : List Addr} {E E' : List Nat} {L L' : List Int} {R : List (List Nat)}
theorem NetRaw.nds (N : NetRaw C H n ae al ar ra E L R) : ae ≠ al ∧ ae ≠ ar ∧ al ≠ ar ∧ ae ∉ ra ∧ al ∉ ra ∧ ar ∉ ra ∧ ra.Nodup := by
  have h1 := List.nodup_cons.mp N.nd
  have h2 := List.nodup_cons.mp h1.2
  have h3 := List.nodup_cons.mp h2.2
  exact ⟨fun e => h1.1 (e ▸ List.mem_cons_self), fun e => h1.1 (e ▸ List.mem_cons_of_mem _ List.mem_cons_self), fun e => h2.1 (e ▸ List.mem_cons_self),
    fun e => h1.1 (List.mem_cons_of_mem _ (List.mem_cons_of_mem _ e)), fun e => h2.1 (List.mem_cons_of_mem _ e), h3.1, h3.2⟩
theorem NetRaw.at_row (N : NetRaw C H n ae al ar ra E L R) {a : Addr} (ha : a ∈ ra) : ∃ r : List Nat, H a = some (.lst (r.map nV)) := by
  obtain ⟨i, hi, e⟩ := List.getElem_of_mem ha
  have h2 : i < R.length := by rw [← N.rl]; exact hi
  exact ⟨R[i], N.row i a R[i] (by rw [List.getElem?_eq_getElem hi, e]) (List.getElem?_eq_getElem h2)⟩
theorem NetRaw.n_ne (N : NetRaw C H n ae al ar ra E L R) : n ≠ ae ∧ n ≠ al ∧ n ≠ ar ∧ ∀ a ∈ ra, n ≠ a := by
  obtain ⟨dx, ob⟩ := N.obj
  refine ⟨ne_of ob N.he (by intro z; cases z), ne_of ob N.hl (by intro z; cases z), ne_of ob N.hr (by intro z; cases z), fun a ha => ?_⟩
  obtain ⟨r, h⟩ := N.at_row ha
  exact ne_of ob h (by intro z; cases z)
/-- all its objects kept -/
theorem NetRaw.keep (N : NetRaw C H n ae al ar ra E L R) (s : Same H H') : NetRaw C H' n ae al ar ra E L R :=
  ⟨N.obj.imp fun _ h => s _ _ h, s _ _ N.he, s _ _ N.hl, s _ _ N.hr, N.rl, fun i a r h1 h2 => s _ _ (N.row i a r h1 h2), N.nd⟩
theorem NetRaw.setE (N : NetRaw C H n ae al ar ra E L R) : NetRaw C (upd H ae (.lst (E'.map nV))) n ae al ar ra E' L R := by
  obtain ⟨d1, d2, d3, d4, d5, d6, d7⟩ := N.nds
  obtain ⟨m1, m2, m3, m4⟩ := N.n_ne
  exact ⟨N.obj.imp fun _ h => (upd_ne m1).trans h, upd_same, (upd_ne d1.symm).trans N.hl, (upd_ne d2.symm).trans N.hr, N.rl, fun i a r h1 h2 => (upd_ne (nm d4 (List.mem_of_getElem? h1)).symm).trans (N.row i a r h1 h2), N.nd⟩
theorem NetRaw.setL (N : NetRaw C H n ae al ar ra E L R) : NetRaw C (upd H al (.lst (L'.map V.int))) n ae al ar ra E L' R := by
  obtain ⟨d1, d2, d3, d4, d5, d6, d7⟩ := N.nds
  obtain ⟨m1, m2, m3, m4⟩ := N.n_ne
  exact ⟨N.obj.imp fun _ h => (upd_ne m2).trans h, (upd_ne d1).trans N.he, upd_same, (upd_ne d3.symm).trans N.hr, N.rl, fun i a r h1 h2 => (upd_ne (nm d5 (List.mem_of_getElem? h1)).symm).trans (N.row i a r h1 h2), N.nd⟩
theorem NetRaw.setR (N : NetRaw C H n ae al ar ra E L R) {i : Nat} {a : Addr} {r : List Nat} (ha : ra[i]? = some a) : NetRaw C (upd H a (.lst (r.map nV))) n ae al ar ra E L (R.set i r) := by
  obtain ⟨d1, d2, d3, d4, d5, d6, d7⟩ := N.nds
  obtain ⟨m1, m2, m3, m4⟩ := N.n_ne
  have am := List.mem_of_getElem? ha
  refine ⟨N.obj.imp fun _ h => (upd_ne (m4 a am)).trans h, (upd_ne (nm d4 am)).trans N.he, (upd_ne (nm d5 am)).trans N.hl, (upd_ne (nm d6 am)).trans N.hr, by rw [List.length_set]; exact N.rl, fun j b q h1 h2 => ?_, N.nd⟩
  by_cases e : i = j
  · subst e
    have eb : a = b := Option.some.inj (ha.symm.trans h1)
    subst eb
    have hi : i < R.length := by rw [← N.rl]; exact (List.getElem?_eq_some_iff.mp ha).1
    rw [List.getElem?_set_self hi] at h2
    rw [← Option.some.inj h2]
    exact upd_same
  · rw [List.getElem?_set_ne e] at h2
    exact (upd_ne fun z : b = a => e (nd_ix d7 ha (by rw [← z]; exact h1))).trans (N.row j b q h1 h2)
theorem NetRaw.get (N : NetRaw C H n ae al ar ra E L R) {i : Nat} (hi : i < R.length) : ∃ a, ra[i]? = some a ∧ a ∈ ra ∧ H a = some (.lst ((R.getD i []).map nV)) := by
  have h2 : i < ra.length := by rw [N.rl]; exact hi
  have e1 : ra[i]? = some ra[i] := List.getElem?_eq_getElem h2
  refine ⟨ra[i], e1, List.getElem_mem h2, ?_⟩
  have e2 : R[i]? = some R[i] := List.getElem?_eq_getElem hi
  rw [List.getD_eq_getElem?_getD, e2]
  exact N.row i _ _ e1 e2
end
/-- beside H0 (all kept) a net stands at n -/
def NetAt (C : Addr) (H0 H : Hp) (n : Addr) (E : List Nat) (L : List Int) (R : List (List Nat)) : Prop :=
  Same H0 H ∧ H0 n = none ∧ ∃ ae al ar ra, NetRaw C H n ae al ar ra E L R ∧ ∀ a ∈ ae :: al :: ar :: ra, H0 a = none
abbrev addR (R : List (List Nat)) (x a : Nat) : List (List Nat) := NM.addRow R x a
def spLay (C : Addr) : Sp := fun vs H Q _ => ∃ (H0 : Hp) (n : Addr) (u v : Nat) (c : Int) (E : List Nat) (L : List Int) (R : List (List Nat)), vs = [.ref n, nV u, nV v, .int c] ∧ NetAt C H0 H n E L R ∧
  u < R.length ∧ v < R.length ∧ E.length ≤ 1000 ∧ L.length = E.length ∧ (∀ r ∈ R, r.length ≤ E.length) ∧
  ∀ H', NetAt C H0 H' n (E ++ [v, u]) (L ++ [c, 0]) (addR (addR R u E.length) v (E.length + 1)) → Q (nV E.length) H'
section
variable {P : Program} {w : World} {K : PySem.W.Frag} {mg : Str → Option Value} {base : Heap}
theorem ok_lay {f C : Addr} {fd : FuncData} (F : Fun K "lay" "Net.lay" sNetLay f fd) (T : TxNet K mg C) : FnOk P w K mg base CX0 1 f fd ["self", "one", "other", "most"] (spLay C) := by
  refine F.ok scNetLay (fun vs H Q E h => ?_) (fun cdv A outer s H vs Q E hr h => ?_)
  · obtain ⟨H0, n, u, v, c, E, L, R, rfl, _⟩ := h
    rfl
  · obtain ⟨H0, n, u, v, c, E, L, R, rfl, ⟨s0, n0, ae, al, ar, ra, N, fr⟩, hu, hv, hE, hL, hR, k⟩ := h
    refine ⟨_, pss_cons (ps_set (i := 4) scNetLay.nd rfl (.inl rfl) (pe_callB call_len_seq (by rfl) T.len boot_len (pa_cons (pe_fld (pv 0) rfl) pa_nil)))
      (pss_cons (ps_expr (pe_bm PySem.F.plainAttrs_list PySem.F.slot_list_extend PySem.F.type_list_extend mt_extend (pe_fld (pv 0) rfl) (pa_cons (pe_lst (pa_cons (pv 2) (pa_cons (pv 1) pa_nil))) pa_nil)))
      (pss_cons (ps_expr (pe_bm PySem.F.plainAttrs_list PySem.F.slot_list_extend PySem.F.type_list_extend mt_extend (pe_fld (pv 0) rfl) (pa_cons (pe_lst (pa_cons (pv 3) (pa_cons pe_int pa_nil))) pa_nil)))
      (pss_cons (ps_expr (pe_bm PySem.F.plainAttrs_list PySem.F.slot_list_append PySem.F.type_list_append mt_append (pe_ix ix_list (pe_fld (pv 0) rfl) (pv 1) (fun _ _ => rfl)) (pa_cons (pv 4) pa_nil)))
      (pss_cons (ps_expr (pe_bm PySem.F.plainAttrs_list PySem.F.slot_list_append PySem.F.type_list_append mt_append (pe_ix ix_list (pe_fld (pv 0) rfl) (pv 2) (fun _ _ => rfl)) (pa_cons (pe_op op_add (pv 4) pe_int) pa_nil)))
      (pss_one (ps_ret (pv 4))))))), ?_⟩
    obtain ⟨dx, ob⟩ := N.obj
    -- number = len(self.ends)
    refine ⟨_, rfl, n, C, dx, _, _, rfl, ob, T.cl, T.nE, rfl, ae, _, rfl, .inl (SqL.of N.he), ?_⟩
    -- self.ends.extend([other, one])
    refine ⟨_, rfl, n, C, dx, _, _, rfl, ob, T.cl, T.nE, rfl, .inl ⟨rfl, _, SqL.of N.he⟩, _, rfl, _, rfl, (by show 2 ≤ sizeLine; decide), fun p hp => ?_⟩
    have N1 := N.keep (Same.new (o := .lst [nV v, nV u]) hp)
    have s1 := s0.put (o := .lst [nV v, nV u]) (s0.free hp)
    refine ⟨ae, p, E.map nV, _, rfl, rfl, N1.he, upd_same, (by rw [List.length_map]; exact small (by show E.length + 2 ≤ _; omega)), ?_⟩
    have N2 := N1.setE (E' := E ++ [v, u])
    have s2 := s1.put (o := .lst ((E ++ [v, u]).map nV)) (fr ae (by simp))
    rw [List.map_append] at N2 s2
    change NetRaw C (upd (upd H p (.lst [nV v, nV u])) ae (.lst (E.map nV ++ [nV v, nV u]))) n ae al ar ra (E ++ [v, u]) L R at N2
    change Same H0 (upd (upd H p (.lst [nV v, nV u])) ae (.lst (E.map nV ++ [nV v, nV u]))) at s2
    generalize upd (upd H p (.lst [nV v, nV u])) ae (.lst (E.map nV ++ [nV v, nV u])) = H2 at N2 s2
    -- self.left.extend([most, 0])
    obtain ⟨dx2, ob2⟩ := N2.obj
    refine ⟨_, rfl, n, C, dx2, _, _, rfl, ob2, T.cl, T.nL, rfl, .inl ⟨rfl, _, SqL.of N2.hl⟩, _, rfl, (by show 2 ≤ sizeLine; decide), fun q hq => ?_⟩
    have N3 := N2.keep (Same.new (o := .lst [.int c, .int 0]) hq)
    have s3 := s2.put (o := .lst [.int c, .int 0]) (s2.free hq)
    refine ⟨al, q, L.map V.int, _, rfl, rfl, N3.hl, upd_same, (by rw [List.length_map]; exact small (by show L.length + 2 ≤ _; omega)), ?_⟩
    have N4 := N3.setL (L' := L ++ [c, 0])
    have s4 := s3.put (o := .lst ((L ++ [c, 0]).map V.int)) (fr al (by simp))
    rw [List.map_append] at N4 s4
    change NetRaw C (upd (upd H2 q (.lst [.int c, .int 0])) al (.lst (L.map V.int ++ [.int c, .int 0]))) n ae al ar ra (E ++ [v, u]) (L ++ [c, 0]) R at N4
    change Same H0 (upd (upd H2 q (.lst [.int c, .int 0])) al (.lst (L.map V.int ++ [.int c, .int 0]))) at s4
    generalize upd (upd H2 q (.lst [.int c, .int 0])) al (.lst (L.map V.int ++ [.int c, .int 0])) = H4 at N4 s4
    -- self.rows[one].append(number)
    obtain ⟨dx4, ob4⟩ := N4.obj
    obtain ⟨a, ha, am, hra⟩ := N4.get hu
    refine ⟨_, rfl, n, C, dx4, _, _, rfl, ob4, T.cl, T.nR, rfl, _, rfl, ar, _, _, .ref a, rfl, rfl, SqL.of N4.hr, atI_nat (by rw [List.getElem?_map, ha]; rfl), .inl ⟨rfl, _, SqL.of hra⟩, _, rfl, ?_⟩
    have hlen : (R.getD u []).length ≤ E.length := by
      rw [List.getD_eq_getElem?_getD, List.getElem?_eq_getElem hu]
      exact hR _ (List.getElem_mem hu)
    refine ⟨a, _, _, rfl, rfl, hra, (by rw [List.length_map]; exact small' (by omega)), ?_⟩
    have N5 := N4.setR (r := R.getD u [] ++ [E.length]) ha
    have s5 := s4.put (o := .lst ((R.getD u [] ++ [E.length]).map nV)) (fr a (by simp [am]))
    rw [List.map_append] at N5 s5
    rw [List.length_map]
    change NetRaw C (upd H4 a (.lst ((R.getD u []).map nV ++ [nV E.length]))) n ae al ar ra (E ++ [v, u]) (L ++ [c, 0]) (addR R u E.length) at N5
    change Same H0 (upd H4 a (.lst ((R.getD u []).map nV ++ [nV E.length]))) at s5
    generalize upd H4 a (.lst ((R.getD u []).map nV ++ [nV E.length])) = H5 at N5 s5 ⊢
    -- self.rows[other].append(number + 1)
    have hv' : v < (addR R u E.length).length := by unfold addR NM.addRow; rw [List.length_set]; exact hv
    obtain ⟨dx5, ob5⟩ := N5.obj
    obtain ⟨b, hb, bm, hrb⟩ := N5.get hv'
    refine ⟨_, rfl, n, C, dx5, _, _, rfl, ob5, T.cl, T.nR, rfl, _, rfl, ar, _, _, .ref b, rfl, rfl, SqL.of N5.hr, atI_nat (by rw [List.getElem?_map, hb]; rfl), .inl ⟨rfl, _, SqL.of hrb⟩, _, rfl, _, _, rfl, rfl, ?_⟩
    have hlen2 : ((addR R u E.length).getD v []).length ≤ E.length + 1 := by
      unfold addR NM.addRow
      rw [List.getD_eq_getElem?_getD, List.getElem?_set]
      by_cases e : u = v
      · rw [if_pos e, if_pos (by omega)]
        show (R.getD u [] ++ [E.length]).length ≤ _
        rw [List.length_append, List.length_singleton]; omega
      · rw [if_neg e, List.getElem?_eq_getElem hv]
        have := hR _ (List.getElem_mem hv)
        show R[v].length ≤ _
        omega
    refine ⟨b, _, _, rfl, rfl, hrb, (by rw [List.length_map]; exact small' (by omega)), ?_⟩
    have N6 := N5.setR (r := (addR R u E.length).getD v [] ++ [E.length + 1]) hb
    have s6 := s5.put (o := .lst (((addR R u E.length).getD v [] ++ [E.length + 1]).map nV)) (fr b (by simp [bm]))
    rw [List.map_append] at N6 s6
    refine ⟨_, rfl, ?_⟩
    exact k _ ⟨s6, n0, ae, al, ar, ra, N6, fr⟩
end
end Cy
end
section
namespace Cy
open PySem L2 NM
/-! ### small rules -/
theorem xor_mate (a : Nat) : Builtin.bitXor (a : Int) 1 = ((mate a : Nat) : Int) := by
  rw [Bits.bitXor_pp (by omega) (by omega)]
  have e : ((a : Int)).toNat ^^^ (1 : Int).toNat = mate a := by
    show a ^^^ 1 = mate a
    have h1 : (a ^^^ 1) % 2 = 1 ↔ ¬(a % 2 = 1 ↔ 1 % 2 = 1) := Nat.xor_mod_two_eq_one
    have h2 : (a ^^^ 1) / 2 = a / 2 := by
      rw [Nat.xor_div_two]
      show a / 2 ^^^ 0 = a / 2
      rw [Nat.xor_zero]
    unfold mate
    split <;> omega
  rw [e]
theorem pget_list {X : Cx} : PGet X (rIxL X.K) := by
  intro pins s σ H x y v u Q I rx ry h
  obtain ⟨p, xs, i, z, rfl, rfl, hq, he, q⟩ := h
  obtain rfl : v = .ref p := rx
  obtain ⟨t, rfl⟩ := ry
  obtain ⟨its, r, pl, hz⟩ := I.list hq
  obtain ⟨j, g1, g2, g3, g4, g5⟩ := atI_get he
  obtain ⟨c, ec, rc⟩ := r.get g2
  have hl := r.length
  have hn := line63
  have goal : EP X pins σ Q c s := ⟨z, H, I, rc, q⟩
  by_cases h0 : 0 ≤ i
  · have hj : i.toNat = j := by
      rw [seqIndex_of h0 g5] at g1
      exact Option.some.inj g1
    exact wpAny_getItem_list pl.isList h0 (by omega) (by rw [hj]; simpa using ec) goal
  · have hj : (i + (its.toArray.size : Int)).toNat = j := by
      rw [seqIndex_neg (by omega) g4] at g1
      rw [List.size_toArray, ← hl]
      exact Option.some.inj g1
    exact wpAny_getItem_list_neg (Q := EP X pins σ Q) pl.isList (by omega) (by rw [List.size_toArray] <;> omega) (by omega) (by rw [hj]; simpa using ec) goal
/-! ### two lists of ints compared -/
theorem dp_ints {K : PySem.W.Frag} {H : Hp} : ∀ ns : List Int, DpAll K H (ns.map V.int) (ns.map PyData.int)
  | [] => .nil
  | n :: r => .cons (.int n) (dp_ints r)
section
variable {K : PySem.W.Frag} {H : Hp} {a b : Addr} {ns ms : List Int} {Q : VK}
theorem eqI (ha : SqL K H a (ns.map V.int)) (hb : SqL K H b (ms.map V.int)) (q : Q (.bl (decide (ns = ms))) H) : rEqD K (.ref a) (.ref b) H Q := by
  refine ⟨_, _, .lst ha (dp_ints ns), .lst hb (dp_ints ms), PySem.W.ke_shaped_ints ns, PySem.W.ke_shaped_ints ms, ?_⟩
  rw [PyData.eqv, PySem.W.ked_eqvAll]
  exact q
theorem neI (ha : SqL K H a (ns.map V.int)) (hb : SqL K H b (ms.map V.int)) (q : Q (.bl (!decide (ns = ms))) H) : rNeD K (.ref a) (.ref b) H Q := by
  refine ⟨_, _, .lst ha (dp_ints ns), .lst hb (dp_ints ms), PySem.W.ke_shaped_ints ns, PySem.W.ke_shaped_ints ms, ?_⟩
  rw [PyData.eqv, PySem.W.ked_eqvAll]
  exact q
end
theorem mapN (l : List Nat) : l.map nV = (l.map Int.ofNat).map V.int := by rw [List.map_map]; rfl
theorem at_gi {L : List Int} {b : Nat} (h : b < L.length) : (L.map V.int)[b]? = some (.int (gi L b)) := by
  rw [List.getElem?_map, List.getElem?_eq_getElem h]
  show some (V.int L[b]) = some (.int (L.getD b 0))
  rw [List.getD_eq_getElem?_getD, List.getElem?_eq_getElem h]
  rfl
theorem at_gn {E : List Nat} {b : Nat} (h : b < E.length) : (E.map nV)[b]? = some (nV (gn E b)) := by
  rw [List.getElem?_map, List.getElem?_eq_getElem h]
  show some (nV E[b]) = some (nV (E.getD b 0))
  rw [List.getD_eq_getElem?_getD, List.getElem?_eq_getElem h]
  rfl
theorem nV_at {l : List Nat} {i : Nat} {x : V} (h : (l.map nV)[i]? = some x) : ∃ p, l[i]? = some p ∧ x = nV p := by
  rw [List.getElem?_map] at h
  cases e : l[i]? with
  | none => rw [e] at h; cases h
  | some p => rw [e] at h; exact ⟨p, rfl, (Option.some.inj h).symm⟩
theorem tYes_on {σ : St} {H : Hp} {Q : Bool → Hp → Prop} (h : Q true H) : tYes σ H Q := h
theorem tNil_on {σ : St} {H : Hp} {Q : List V → Hp → Prop} (h : Q [] H) : tNil σ H Q := h
def optV : Option Nat → V
  | none => .non
  | some a => nV a
/-- found, as a dict's pairs -/
def kvF (F : List (Nat × Option Nat)) : List (Key × V) := F.map fun p => (Sum.inl (p.1 : Int), optV p.2)
theorem kvF_none {F : List (Nat × Option Nat)} {x : Nat} (h : x ∉ keys F) : valV (kvF F) (Sum.inl (x : Int)) = none := by
  unfold valV kvF
  rw [Option.map_eq_none_iff, List.find?_eq_none]
  intro p hp e
  obtain ⟨q, hq, rfl⟩ := List.mem_map.mp hp
  have e1 := of_decide_eq_true e
  have e2 : (q.1 : Int) = (x : Int) := Sum.inl.inj e1
  exact h (List.mem_map.mpr ⟨q, hq, by omega⟩)
theorem kvF_some : ∀ {F : List (Nat × Option Nat)} {x : Nat} {o : Option Nat}, (keys F).Nodup → (x, o) ∈ F → valV (kvF F) (Sum.inl (x : Int)) = some (optV o)
  | [], x, o, _, h => by simp at h
  | (y, u) :: r, x, o, hn, h => by
    have hn' : (y :: keys r).Nodup := hn
    obtain ⟨h1, h2⟩ := List.nodup_cons.mp hn'
    unfold valV kvF
    rw [List.map_cons, List.find?_cons]
    rcases List.mem_cons.mp h with e | e
    · cases e
      simp
    · have ne : ¬ y = x := fun z => h1 (z ▸ List.mem_map.mpr ⟨_, e, rfl⟩)
      have ne' : ¬ ((Sum.inl (y : Int) : Key) = Sum.inl (x : Int)) := fun z => ne (by have := Sum.inl.inj z; omega)
      rw [decide_eq_false ne']
      exact kvF_some h2 e
theorem kvF_put {F : List (Nat × Option Nat)} {x : Nat} (h : x ∉ keys F) (a : Nat) : putK (kvF F) (Sum.inl (x : Int)) (nV a) = kvF (F ++ [(x, some a)]) := by
  rw [putK_new _ (kvF_none h)]
  unfold kvF
  rw [List.map_append]
  rfl
theorem kvF_len (F : List (Nat × Option Nat)) : (kvF F).length = F.length := by unfold kvF; rw [List.length_map]
end Cy
end
section
namespace Cy
open PySem L2 NM
/-- the net's lists fit together -/
structure Wf (E : List Nat) (L : List Int) (R : List (List Nat)) (N : Nat) : Prop where
  rn : R.length = N
  ll : L.length = E.length
  el : E.length ≤ 1000
  nl : N ≤ 1000
  lt : ∀ a, a < E.length → gn E a < N
  mt : ∀ a, a < E.length → mate a < E.length
  row : ∀ x, x < N → ∀ a, a ∈ R.getD x [] ↔ (a < E.length ∧ tl E a = x)
/-- found at d, waiting at w, later at l -/
structure CbH (H H2 : Hp) (d w l : Addr) (F : List (Nat × Option Nat)) (wait later : List Nat) : Prop where
  same : Same H H2
  d0 : H d = none
  l0 : H l = none
  hd : H2 d = some (.dK (kvF F))
  hw : H2 w = some (.lst (wait.map nV))
  hl : H2 l = some (.lst (later.map nV))
  lw : l ≠ w
theorem CbH.add {H H2 : Hp} {d w l : Addr} {F : List (Nat × Option Nat)} {wait later : List Nat} (c : CbH H H2 d w l F wait later) (x a : Nat) :
    CbH H (upd (upd H2 d (.dK (kvF (F ++ [(x, some a)])))) l (.lst ((later ++ [x]).map nV))) d w l (F ++ [(x, some a)]) wait (later ++ [x]) := by
  have dl : d ≠ l := ne_of c.hd c.hl (by intro z; cases z)
  have dw : d ≠ w := ne_of c.hd c.hw (by intro z; cases z)
  exact ⟨(c.same.put c.d0).put c.l0, c.d0, c.l0, (upd_ne dl).trans upd_same, (upd_ne c.lw.symm).trans ((upd_ne dw.symm).trans c.hw), upd_same, c.lw⟩
def spComeBy (C : Addr) : Sp := fun vs H Q _ => ∃ (n ae al ar : Addr) (ra : List Addr) (s N : Nat) (E : List Nat) (L : List Int) (R : List (List Nat)), vs = [.ref n, nV s] ∧ NetRaw C H n ae al ar ra E L R ∧ Wf E L R N ∧ s < N ∧
  ∀ H' d F, Same H H' → H d = none → H' d = some (.dK (kvF F)) → Outer E L N s F [] → Q (.ref d) H'
section
variable {P : Program} {w : World} {K : PySem.W.Frag} {mg : Str → Option Value} {base : Heap}
theorem ok_comeby {f C : Addr} {fd : FuncData} (Fn : Fun K "come_by" "Net.come_by" sNetComeBy f fd) (T : TxNet K mg C) : FnOk P w K mg base CX0 1 f fd ["self", "start"] (spComeBy C) := by
  refine Fn.ok scNetComeBy (fun vs H Q E h => ?_) (fun cdv A outer sh H vs Q Ex hr h => ?_)
  · obtain ⟨n, ae, al, ar, ra, s, N, E, L, R, rfl, _⟩ := h
    rfl
  · obtain ⟨n, ae, al, ar, ra, s, N, E, L, R, rfl, Nr, W, hs, k⟩ := h
    have hu := hu_of hr
    refine ⟨_, pss_cons (ps_set (i := 2) scNetComeBy.nd rfl (.inl rfl) (pe_disp (pps_cons (pv 1) pe_non pps_nil) (by rfl) (by rfl) (fun z => by cases z) (by decide)))
      (pss_cons (ps_set (i := 3) scNetComeBy.nd rfl (.inl rfl) (pe_lst (pa_cons (pv 1) pa_nil)))
      (pss_cons (ps_while PassesOwn.never (pt_cmpR (op_neD hr.units) (pv 3) (pe_lst pa_nil) (nomark _))
        (pss_cons (ps_set (i := 4) scNetComeBy.nd rfl (.inl rfl) (pe_lst pa_nil))
        (pss_cons (ps_for PassesOwn.never rfl (pi_list (pv 3)) (pg_name (i := 5) scNetComeBy.nd rfl (.inl rfl))
          (pss_one (ps_for PassesOwn.never rfl (pi_list (pe_ix ix_list (pe_fld (pv 0) rfl) (pv 5) (fun _ _ => rfl))) (pg_name (i := 6) scNetComeBy.nd rfl (.inl rfl))
            (pss_one (ps_if (PW.pt (pw_and (pt_cmpR op_gt (pe_ix ix_list (pe_fld (pv 0) rfl) (pv 6) (fun _ _ => rfl)) pe_int (nomark _)) (pw_and1 (pt_cmp (pc_dnotin hu (pe_ix ix_list (pe_fld (pv 0) rfl) (pv 6) (fun _ _ => rfl)) (pv 2))))))
              (pss_cons (ps_dput hu (pv 2) (pe_ix ix_list (pe_fld (pv 0) rfl) (pv 6) (fun _ _ => rfl)) (pv 6) rfl)
                (pss_one (ps_expr (pe_bm PySem.F.plainAttrs_list PySem.F.slot_list_append PySem.F.type_list_append mt_append (pv 4) (pa_cons (pe_ix ix_list (pe_fld (pv 0) rfl) (pv 6) (fun _ _ => rfl)) pa_nil)))))
              pss_nil)))))
        (pss_one (ps_set (i := 3) scNetComeBy.nd rfl (.inl rfl) (pv 4))))))
      (pss_one (ps_ret (pv 2))))), ?_⟩
    obtain ⟨dx, ob⟩ := Nr.obj
    -- found = {start: None}
    refine fun d hd => ⟨_, rfl, upd_same, [(Sum.inl (s : Int), .non)], rfl, (by show 1 ≤ 15; decide), ?_⟩
    rw [upd_upd]
    -- waiting = [start]
    refine ⟨_, rfl, (by show 1 ≤ sizeLine; decide), fun w0 hw0 => ?_⟩
    have d0 : H d = none := hd
    -- while
    refine ⟨fun m σ H2 => ∃ (F : List (Nat × Option Nat)) (wait : List Nat) (w1 : Addr) (v4 v5 v6 : Option V), σ = [some (.ref n), some (nV s), some (.ref d), some (.ref w1), v4, v5, v6] ∧ Same H H2 ∧ H2 d = some (.dK (kvF F)) ∧ H2 w1 = some (.lst (wait.map nV)) ∧
      Outer E L N s F wait ∧ m = 2 * (N - F.length) + (if wait = [] then 0 else 1), ⟨_, [(s, none)], [s], w0, none, none, none, rfl, ?_, ?_, upd_same, .begin, rfl⟩, ?_⟩
    · exact ((Same.refl H).put d0).put (by
        have := hw0
        rw [upd_ne (fun e => by rw [e, upd_same] at hw0; cases hw0)] at this
        exact this)
    · exact (upd_ne (fun e => by rw [← e, upd_same] at hw0; cases hw0)).trans upd_same
    rintro m σ H2 ⟨F, wait, w1, v4, v5, v6, rfl, s2, h2d, h2w, O, rfl⟩
    refine ⟨_, rfl, Nat.zero_le _, fun p hp => ?_⟩
    have sp := Same.new (o := .lst []) hp
    refine neI (ns := wait.map Int.ofNat) (ms := []) (by rw [← mapN]; exact SqL.of (sp _ _ h2w)) (SqL.of upd_same) ⟨_, rfl, ?_⟩
    generalize upd H2 p (.lst []) = H3 at sp
    have h3d := sp _ _ h2d
    have h3w := sp _ _ h2w
    have s3 := s2.trans sp
    by_cases hw : wait = []
    · subst hw
      rw [show decide (List.map Int.ofNat [] = []) = true from rfl]
      refine iteF ?_
      -- return found
      exact ⟨_, rfl, k _ _ _ s3 d0 h3d O⟩
    · have hw2 : decide (wait.map Int.ofNat = []) = false := decide_eq_false (by simpa using hw)
      rw [hw2]
      refine iteT ⟨_, fun _ _ z => z, ?_⟩
      -- later = []
      refine ⟨Nat.zero_le _, fun l hl => ?_⟩
      have sl := Same.new (o := .lst []) hl
      have c0 : CbH H (upd H3 l (.lst [])) d w1 l F wait [] := ⟨s3.trans sl, d0, s3.free hl, sl _ _ h3d, sl _ _ h3w, upd_same, none_ne hl h3w⟩
      generalize upd H3 l (.lst []) = H4 at c0
      -- for place in waiting
      refine ⟨_, rfl, w1, rfl, ⟨_, SqL.of c0.hw⟩, for_list (K := K) (a := w1) (xs := wait.map nV) (fun i σ H5 => ∃ (F5 : List (Nat × Option Nat)) (later : List Nat) (v5 v6 : Option V), σ = [some (.ref n), some (nV s), some (.ref d), some (.ref w1), some (.ref l), v5, v6] ∧
        CbH H H5 d w1 l F5 wait later ∧ Mid E L N s F F5 wait later i) ⟨F, [], v5, v6, rfl, c0, O.mid⟩ (fun i σ H5 _ ⟨_, _, _, _, _, c, _⟩ => SqL.of c.hw) ?_ ?_⟩
      · rintro i x σ H5 hi ⟨F5, later, v5, v6, rfl, c5, M5⟩
        obtain ⟨p, hp, rfl⟩ := nV_at hi
        have pk : p ∈ keys F5 := M5.sub p (List.mem_of_getElem? hp)
        have pN : p < N := M5.tree.lt hs p pk
        have N5 := Nr.keep c5.same
        obtain ⟨dx5, ob5⟩ := N5.obj
        have pR : p < R.length := by rw [W.rn]; exact pN
        obtain ⟨a, ha, am, hra⟩ := N5.get pR
        have hrow : ∀ {H6 : Hp}, Same H H6 → H6 a = some (.lst ((R.getD p []).map nV)) := fun {H6} e => by
          obtain ⟨a', ha', _, h'⟩ := (Nr.keep e).get pR
          rw [ha] at ha'
          rw [Option.some.inj ha']
          exact h'
        -- for arc in self.rows[place]
        refine ⟨_, rfl, n, C, dx5, _, _, rfl, ob5, T.cl, T.nR, rfl, _, rfl, ar, _, _, .ref a, rfl, rfl, SqL.of N5.hr, atI_nat (by rw [List.getElem?_map, ha]; rfl), a, rfl, ⟨_, SqL.of hra⟩,
          for_list (K := K) (a := a) (xs := (R.getD p []).map nV) (fun j σ H6 => ∃ (F6 : List (Nat × Option Nat)) (later6 : List Nat) (v6 : Option V), σ = [some (.ref n), some (nV s), some (.ref d), some (.ref w1), some (.ref l), some (nV p), v6] ∧
            CbH H H6 d w1 l F6 wait later6 ∧ Inner E L N s F F6 wait later6 i p (R.getD p []) j) ⟨F5, later, v6, rfl, c5, M5.inner hp⟩ (fun j σ H6 _ ⟨_, _, _, _, c, _⟩ => SqL.of (hrow c.same)) ?_ ?_⟩
        · rintro j x σ H6 hj ⟨F6, later6, v6', rfl, c6, I6⟩
          obtain ⟨b, hb, rfl⟩ := nV_at hj
          obtain ⟨bE, bt⟩ := (W.row p pN b).mp (List.mem_of_getElem? hb)
          have N6 := Nr.keep c6.same
          obtain ⟨dx6, ob6⟩ := N6.obj
          have bL : b < L.length := by rw [W.ll]; exact bE
          -- self.left[arc] > 0
          refine ⟨_, rfl, n, C, dx6, _, _, rfl, ob6, T.cl, T.nL, rfl, _, rfl, al, _, _, _, rfl, rfl, SqL.of N6.hl, atI_nat (at_gi bL), _, _, rfl, rfl, _, rfl, ?_⟩
          refine ite2 (fun hpos => ?_) (fun hpos => ?_)
          · have hpos := of_decide_eq_true hpos
            -- self.ends[arc] not in found
            refine ⟨_, rfl, n, C, dx6, _, _, rfl, ob6, T.cl, T.nE, rfl, _, rfl, ae, _, _, _, rfl, rfl, SqL.of N6.he, atI_nat (at_gn bE), _, rfl, d, _, rfl, DGet.k (k := Sum.inl ((gn E b : Nat) : Int)) c6.hd, _, rfl, ?_⟩
            by_cases hk : gn E b ∈ keys F6
            · obtain ⟨o, ho⟩ := key_get hk
              rw [kvF_some I6.tree.nodup ho]
              refine iteF ?_
              exact ⟨F6, later6, _, rfl, c6, I6.skip hb fun _ => hk⟩
            · rw [kvF_none hk]
              refine iteT ?_
              -- found[self.ends[arc]] = arc
              have kl : F6.length ≤ N := I6.tree.len hs
              have ll : later6.length ≤ N := by have := I6.len; omega
              have hN := W.nl
              refine ⟨_, rfl, _, rfl, _, rfl, n, C, dx6, _, _, rfl, ob6, T.cl, T.nE, rfl, _, rfl, ae, _, _, _, rfl, rfl, SqL.of N6.he, atI_nat (at_gn bE), d, _, rfl, DPut.k (k := Sum.inl ((gn E b : Nat) : Int)) c6.hd (by rw [kvF_len]; exact small' (by omega)), ?_⟩
              rw [kvF_put hk]
              have dl : d ≠ l := ne_of c6.hd c6.hl (by intro z; cases z)
              have same7 : Same H (upd H6 d (.dK (kvF (F6 ++ [(gn E b, some b)])))) := c6.same.put c6.d0
              have hl7 : upd H6 d (.dK (kvF (F6 ++ [(gn E b, some b)]))) l = some (.lst (later6.map nV)) := (upd_ne dl.symm).trans c6.hl
              have N7 := Nr.keep same7
              obtain ⟨dx7, ob7⟩ := N7.obj
              -- later.append(self.ends[arc])
              refine ⟨_, rfl, .inl ⟨rfl, _, SqL.of hl7⟩, _, rfl, n, C, dx7, _, _, rfl, ob7, T.cl, T.nE, rfl, _, rfl, ae, _, _, _, rfl, rfl, SqL.of N7.he, atI_nat (at_gn bE), l, _, _, rfl, rfl, hl7, (by rw [List.length_map]; exact small' (by omega)), ?_⟩
              have c8 := c6.add (gn E b) b
              rw [List.map_append] at c8
              exact ⟨_, _, _, rfl, c8, Inner.add I6 hb hpos hk (W.lt b bE) bE bt (I6.sub p (List.mem_of_getElem? hp))⟩
          · have hpos : ¬ 0 < gi L b := fun z => hpos (decide_eq_true z)
            refine iteF ?_
            exact ⟨F6, later6, _, rfl, c6, I6.skip hb fun z => absurd z hpos⟩
        · rintro σ H6 ⟨F6, later6, v6', rfl, c6, I6⟩
          rw [List.length_map] at I6
          exact ⟨F6, later6, _, _, rfl, c6, I6.mid fun a h1 h2 => (W.row p pN a).mpr ⟨h1, h2⟩⟩
      · rintro σ H5 ⟨F5, later, v5, v6, rfl, c5, M5⟩
        rw [List.length_map] at M5
        -- waiting = later
        refine ⟨_, rfl, _, ?_, F5, later, l, _, _, _, rfl, c5.same, c5.hd, c5.hl, M5.outer, rfl⟩
        have h1 := M5.len
        have h2 := M5.tree.len hs
        rw [if_neg hw]
        by_cases e : later = []
        · rw [if_pos e]
          rw [e] at h1
          simp at h1
          omega
        · rw [if_neg e]
          have : 0 < later.length := List.length_pos_iff.mpr e
          omega
end
end Cy
end
section
namespace Cy
open PySem L2 NM
def spWayTo (C : Addr) : Sp := fun vs H Q _ => ∃ (n ae al ar d : Addr) (ra : List Addr) (s t N : Nat) (E : List Nat) (L : List Int) (R : List (List Nat)) (F : List (Nat × Option Nat)), vs = [.ref n, .ref d, nV t] ∧ NetRaw C H n ae al ar ra E L R ∧ Wf E L R N ∧ s < N ∧
  H d = some (.dK (kvF F)) ∧ Tree E L N s F ∧ t ∈ keys F ∧ ∀ H' l way rk, Same H H' → H l = none → H' l = some (.lst (way.map nV)) → WayAt E L F rk t way s → Q (.ref l) H'
section
variable {P : Program} {w : World} {K : PySem.W.Frag} {mg : Str → Option Value} {base : Heap}
def spSentBy (C : Addr) : Sp := fun vs H Q _ => ∃ (n ae al ar : Addr) (ra : List Addr) (a : Nat) (E : List Nat) (L : List Int) (R : List (List Nat)), vs = [.ref n, nV a] ∧ NetRaw C H n ae al ar ra E L R ∧ mate a < L.length ∧ Q (.int (gi L (mate a))) H
theorem way_len {E : List Nat} {L : List Int} {F : List (Nat × Option Nat)} {rk : Nat → Nat} {t cur : Nat} {way : List Nat} (h : WayAt E L F rk t way cur) : way.length ≤ E.length := nodup_le h.nodup fun x hx => (h.ok x hx).1
theorem ok_wayto {f C : Addr} {fd : FuncData} (Fn : Fun K "way_to" "Net.way_to" sNetWayTo f fd) (T : TxNet K mg C) : FnOk P w K mg base CX0 1 f fd ["self", "found", "goal"] (spWayTo C) := by
  refine Fn.ok scNetWayTo (fun vs H Q E h => ?_) (fun cdv A outer sh H vs Q Ex hr h => ?_)
  · obtain ⟨n, ae, al, ar, d, ra, s, t, N, E, L, R, F, rfl, _⟩ := h
    rfl
  · obtain ⟨n, ae, al, ar, d, ra, s, t, N, E, L, R, F, rfl, Nr, W, hs, hd, Tr, ht, k⟩ := h
    have hu := hu_of hr
    refine ⟨_, pss_cons (ps_set (i := 3) scNetWayTo.nd rfl (.inl rfl) (pe_lst pa_nil))
      (pss_cons (ps_while PassesOwn.never (pt_cmpR op_notN (pe_dget hu (pv 1) (pv 2) (fun _ _ => rfl)) pe_non (nomark _))
        (pss_cons (ps_expr (pe_bm PySem.F.plainAttrs_list PySem.F.slot_list_append PySem.F.type_list_append mt_append (pv 3) (pa_cons (pe_dget hu (pv 1) (pv 2) (fun _ _ => rfl)) pa_nil)))
        (pss_one (ps_set (i := 2) scNetWayTo.nd rfl (.inl rfl) (pe_ix ix_list (pe_fld (pv 0) rfl) (pe_op op_xor (pe_dget hu (pv 1) (pv 2) (fun _ _ => rfl)) pe_int) (fun _ _ => rfl))))))
      (pss_one (ps_ret (pv 3)))), ?_⟩
    obtain ⟨rk, rk1, rk2⟩ := Tr.rank
    refine ⟨Nat.zero_le _, fun l hl => ?_⟩
    refine ⟨fun m σ H2 => ∃ (way : List Nat) (cur : Nat), σ = [some (.ref n), some (.ref d), some (nV cur), some (.ref l)] ∧ Same H H2 ∧ H2 l = some (.lst (way.map nV)) ∧ WayAt E L F rk t way cur ∧ m = rk cur,
      ⟨_, [], t, rfl, Same.new hl, upd_same, .begin ht, rfl⟩, ?_⟩
    rintro m σ H2 ⟨way, cur, rfl, s2, h2l, wa, rfl⟩
    obtain ⟨o, ho⟩ := key_get wa.key
    have hget := kvF_some Tr.nodup ho
    have dget : DGet H2 d (nV cur) (some (optV o)) := by
      have g := DGet.k (k := Sum.inl ((cur : Nat) : Int)) (s2 _ _ hd)
      rw [hget] at g
      exact g
    refine ⟨_, rfl, _, rfl, d, _, rfl, dget, rfl, _, rfl, ?_⟩
    cases o with
    | none =>
      refine iteF ⟨_, rfl, ?_⟩
      have e := Tr.stop ho
      subst e
      exact k _ _ _ _ s2 hl h2l wa
    | some a =>
      obtain ⟨wa2, lt2⟩ := WayAt.step Tr rk2 wa ho
      have wl := way_len wa
      have el := W.el
      have aE := (Tr.arc ho).1
      refine iteT ⟨_, fun _ _ z => z, ?_⟩
      -- way.append(found[goal])
      refine ⟨_, rfl, .inl ⟨rfl, _, SqL.of h2l⟩, _, rfl, _, rfl, d, _, rfl, dget, l, _, _, rfl, rfl, h2l, (by rw [List.length_map]; exact small' (by omega)), ?_⟩
      have s3 : Same H (upd H2 l (.lst (way.map nV ++ [nV a]))) := s2.put hl
      have ld : d ≠ l := ne_of (s2 _ _ hd) h2l (by intro z; cases z)
      have N3 := Nr.keep s3
      obtain ⟨dx3, ob3⟩ := N3.obj
      have dget3 : DGet (upd H2 l (.lst (way.map nV ++ [nV a]))) d (nV cur) (some (nV a)) := by
        have g := DGet.k (k := Sum.inl ((cur : Nat) : Int)) (s3 _ _ hd)
        rw [hget] at g
        exact g
      -- goal = self.ends[found[goal] ^ 1]
      refine ⟨_, rfl, n, C, dx3, _, _, rfl, ob3, T.cl, T.nE, rfl, _, rfl, _, rfl, d, _, rfl, dget3, _, _, rfl, rfl, ae, _, _, nV (tl E a), rfl, rfl, SqL.of N3.he, (by rw [xor_mate]; exact atI_nat (at_gn (W.mt a aE))), ?_⟩
      exact ⟨_, lt2, way ++ [a], tl E a, rfl, s3, by rw [List.map_append]; exact upd_same, wa2, rfl⟩
theorem ok_sentby {f C : Addr} {fd : FuncData} (Fn : Fun K "sent_by" "Net.sent_by" sNetSentBy f fd) (T : TxNet K mg C) : FnOk P w K mg base CX0 1 f fd ["self", "arc"] (spSentBy C) := by
  refine Fn.ok scNetSentBy (fun vs H Q E h => ?_) (fun cdv A outer sh H vs Q Ex hr h => ?_)
  · obtain ⟨n, ae, al, ar, ra, a, E, L, R, rfl, _⟩ := h
    rfl
  · obtain ⟨n, ae, al, ar, ra, a, E, L, R, rfl, Nr, ha, k⟩ := h
    refine ⟨_, pss_one (ps_ret (pe_ix ix_list (pe_fld (pv 0) rfl) (pe_op op_xor (pv 1) pe_int) (fun _ _ => rfl))), ?_⟩
    obtain ⟨dx, ob⟩ := Nr.obj
    exact ⟨_, rfl, n, C, dx, _, _, rfl, ob, T.cl, T.nL, rfl, _, rfl, _, _, rfl, rfl, al, _, _, _, rfl, rfl, SqL.of Nr.hl, (by rw [xor_mate]; exact atI_nat (at_gi ha)), k⟩
def spSend (C : Addr) : Sp := fun vs H Q _ => ∃ (H0 : Hp) (n : Addr) (s t N m : Nat) (cap : Nat → Int) (E : List Nat) (L : List Int) (R : List (List Nat)), vs = [.ref n, nV s, nV t] ∧ NetAt C H0 H n E L R ∧ Wf E L R N ∧ s < N ∧ s ≠ t ∧ Sent E N m s t cap L 0 ∧
  ∀ H' L' tot F, NetAt C H0 H' n E L' R → Sent E N m s t cap L' tot → Outer E L' N s F [] → t ∉ keys F → Q (.int tot) H'
theorem set_map (L : List Int) (b : Nat) (z : Int) : (L.map V.int).set b (.int z) = (L.set b z).map V.int := by rw [List.map_set]
theorem Wf.len {E : List Nat} {L L' : List Int} {R : List (List Nat)} {N : Nat} (W : Wf E L R N) (h : L'.length = L.length) : Wf E L' R N := ⟨W.rn, h.trans W.ll, W.el, W.nl, W.lt, W.mt, W.row⟩
theorem ixN_nat {n j : Nat} (h : j < n) : ixN n (j : Int) = some j := by
  unfold ixN
  rw [if_pos (by omega), if_pos (by omega)]; simp
theorem ok_send {f C : Addr} {fd : FuncData} (Fn : Fun K "send" "Net.send" sNetSend f fd) (T : TxNet K mg C) (MC : C8.Met P w K mg base 1 C "come_by" (spComeBy C) []) (MW : C8.Met P w K mg base 1 C "way_to" (spWayTo C) []) : FnOk P w K mg base CX0 2 f fd ["self", "start", "goal"] (spSend C) := by
  refine Fn.ok scNetSend (fun vs H Q E h => ?_) (fun cdv A outer sh H vs Q Ex hr h => ?_)
  · obtain ⟨H0, n, s, t, N, m, cap, E, L, R, rfl, _⟩ := h
    rfl
  · obtain ⟨H0, n, s, t, N, m, cap, E, L, R, rfl, ⟨s0, n0, ae, al, ar, ra, Nr, fr⟩, W, hs, hst, S, k⟩ := h
    have hu := hu_of hr
    refine ⟨_, pss_cons (ps_set (i := 3) scNetSend.nd rfl (.inl rfl) pe_int)
      (pss_cons (ps_set (i := 4) scNetSend.nd rfl (.inl rfl) (C8.pe_mt MC hr (by decide) (pv 0) (pa_cons (pv 1) pa_nil)))
      (pss_cons (ps_while PassesOwn.never (pt_cmp (pc_din hu (pv 2) (pv 4)))
        (pss_cons (ps_set (i := 5) scNetSend.nd rfl (.inl rfl) (C8.pe_mt MW hr (by decide) (pv 0) (pa_cons (pv 4) (pa_cons (pv 2) pa_nil))))
        (pss_cons (ps_set (i := 7) scNetSend.nd rfl (.inl rfl) (pe_callB (cr_min rfl) (by rfl) T.min (by decide +kernel) (pa_cons (pe_lc (own := [("arc", 6)]) (g := gName 6) (tt := tYes) (te := tOp (rIxL K) (tFld K (tVar 0) "left") (tVar 6)) rfl scNetSend.nd (pi_list (pv 5)) (blkOk_by (N := ["self", "start", "goal", "total", "found", "way", "arc", "more"]) (sc := defScope sNetSend) (by decide +kernel))
            (fun _ _ _ _ _ => pg_name (i := 6) scNetSend.nd rfl (.inl rfl)) (fun _ _ _ _ _ => pts_nil) (fun _ _ _ _ _ => pe_ix ix_list (pe_fld (pv 0) rfl) (pv 6) (fun _ _ => rfl))) pa_nil)))
        (pss_cons (ps_for PassesOwn.never rfl (pi_list (pv 5)) (pg_name (i := 6) scNetSend.nd rfl (.inl rfl))
          (pss_cons (ps_augS (pe_fld (pv 0) rfl) (pv 6) pget_list (pv 7) ip_sub set_list)
            (pss_one (ps_augS (pe_fld (pv 0) rfl) (pe_op op_xor (pv 6) pe_int) pget_list (pv 7) ip_add set_list))))
        (pss_cons (ps_aug (i := 3) scNetSend.nd rfl (.inl rfl) (pv 7) ip_add)
        (pss_one (ps_set (i := 4) scNetSend.nd rfl (.inl rfl) (C8.pe_mt MC hr (by decide) (pv 0) (pa_cons (pv 1) pa_nil)))))))))
      (pss_one (ps_ret (pv 3))))), ?_⟩
    obtain ⟨dx, ob⟩ := Nr.obj
    -- found = self.come_by(start)
    refine ⟨_, rfl, n, dx, _, rfl, ob, rfl, _, rfl, n, ae, al, ar, ra, s, N, E, L, R, rfl, Nr, W, hs, fun H1 d F s1 _ h1d O => ?_⟩
    -- while goal in found
    refine ⟨fun k σ H2 => ∃ (L2 : List Int) (tot : Int) (d : Addr) (F : List (Nat × Option Nat)) (v5 v6 v7 : Option V), σ = [some (.ref n), some (nV s), some (nV t), some (.int tot), some (.ref d), v5, v6, v7] ∧ Same H0 H2 ∧ NetRaw C H2 n ae al ar ra E L2 R ∧
      L2.length = L.length ∧ Sent E N m s t cap L2 tot ∧ Outer E L2 N s F [] ∧ H2 d = some (.dK (kvF F)) ∧ k = (room E m s cap - tot).toNat,
      ⟨_, L, 0, d, F, none, none, none, rfl, s0.trans s1, Nr.keep s1, rfl, S, O, h1d, rfl⟩, ?_⟩
    rintro kk σ H2 ⟨L2, tot, d2, F2, v5, v6, v7, rfl, s2, N2, l2, S2, O2, h2d, rfl⟩
    refine ⟨_, rfl, _, rfl, d2, _, rfl, DGet.k (k := Sum.inl ((t : Nat) : Int)) h2d, _, rfl, ?_⟩
    by_cases ht : t ∈ keys F2
    · obtain ⟨o, ho⟩ := key_get ht
      rw [kvF_some O2.tree.nodup ho]
      refine iteT ⟨_, fun _ _ z => z, ?_⟩
      have W2 := W.len l2
      obtain ⟨dx2, ob2⟩ := N2.obj
      -- way = self.way_to(found, goal)
      refine ⟨_, rfl, n, dx2, _, rfl, ob2, rfl, _, rfl, _, rfl, n, ae, al, ar, d2, ra, s, t, N, E, L2, R, F2, rfl, N2, W2, hs, h2d, O2.tree, ht, fun H3 p way rk s3 p0 h3p wa => ?_⟩
      have N3 := N2.keep s3
      have wne : way ≠ [] := wa.ne.elim (fun e => absurd e hst) id
      have wlen := way_len wa
      have el := W.el
      have wL : ∀ a ∈ way, a < L2.length := fun a ha => by rw [W2.ll]; exact (wa.ok a ha).1
      -- more = min([self.left[arc] for arc in way])
      refine ⟨_, rfl, p, rfl, ⟨_, SqL.of h3p⟩, fun D hD => lc_list (K := K) (a := p) (xs := way.map nV) (fun i H4 => Same H3 H4 ∧ H4 D = some (.lst (((way.take i).map (gi L2)).map V.int))) ⟨Same.new hD, upd_same⟩ (fun i H4 _ h => SqL.of (h.1 _ _ h3p)) ?_ ?_⟩
      · rintro i x H4 hi ⟨s4, h4⟩
        obtain ⟨a, ha, rfl⟩ := nV_at hi
        have N4 := N3.keep s4
        obtain ⟨dx4, ob4⟩ := N4.obj
        refine ⟨rfl, ?_⟩
        refine tYes_on (iteT ?_)
        refine ⟨_, rfl, n, C, dx4, _, _, rfl, ob4, T.cl, T.nL, rfl, _, rfl, al, _, _, _, rfl, rfl, SqL.of N4.hl, atI_nat (at_gi (wL a (List.mem_of_getElem? ha))), _, h4, ?_, s4.put hD, ?_⟩
        · rw [List.length_map, List.length_map, List.length_take]; exact small' (by omega)
        · rw [take_snoc ha, List.map_append, List.map_append]; exact upd_same
      rintro H4 ⟨s4, h4⟩
      rw [List.length_map, List.take_length] at h4
      refine ⟨D, _, rfl, SqL.of h4, ?_, fun more hm hle => ?_⟩
      · rw [List.length_map]; exact List.length_pos_iff.mpr wne
      have h4p := s4 _ _ h3p
      have N4 := N3.keep s4
      have s04 : Same H0 H4 := (s2.trans s3).trans s4
      have hle2 : ∀ a ∈ way, more ≤ gi L2 a := fun a ha => hle _ (List.mem_map.mpr ⟨a, ha, rfl⟩)
      have mpos : 0 < more := by
        obtain ⟨a, ha, e⟩ := List.mem_map.mp hm
        rw [← e]
        exact (wa.ok a ha).2.1
      have pn : p ∉ al :: [] := fun z => by
        have e : p = al := by simpa using z
        have q := N2.hl
        rw [← e, p0] at q
        cases q
      have pal : p ≠ al := fun e => pn (by simp [e])
      have ps2 : ∀ a ∈ way, a < 2 * m := fun a ha => by rw [← S2.el]; exact (wa.ok a ha).1
      -- for arc in way
      refine ⟨_, rfl, p, rfl, ⟨_, SqL.of h4p⟩, for_list (K := K) (a := p) (xs := way.map nV) (fun i σ H5 => ∃ v6 : Option V, σ = [some (.ref n), some (nV s), some (nV t), some (.int tot), some (.ref d2), some (.ref p), v6, some (.int more)] ∧ Same H0 H5 ∧
        NetRaw C H5 n ae al ar ra E (pushes more L2 (way.take i)) R ∧ H5 p = some (.lst (way.map nV))) ⟨_, rfl, s04, N4, h4p⟩ (fun i σ H5 _ ⟨_, _, _, _, h⟩ => SqL.of h) ?_ ?_⟩
      · rintro i x σ H5 hi ⟨v6, rfl, s5, N5, h5p⟩
        obtain ⟨a, ha, rfl⟩ := nV_at hi
        have am := List.mem_of_getElem? ha
        obtain ⟨dx5, ob5⟩ := N5.obj
        have len5 : (pushes more L2 (way.take i)).length = L2.length := pushes_len _ _ _
        have aL : a < (pushes more L2 (way.take i)).length := by rw [len5]; exact wL a am
        -- self.left[arc] -= more
        refine ⟨_, rfl, n, C, dx5, _, _, rfl, ob5, T.cl, T.nL, rfl, _, rfl, al, _, _, _, rfl, rfl, SqL.of N5.hl, atI_nat (at_gi aL), _, rfl, _, _, rfl, rfl, al, _, _, a, rfl, rfl, N5.hl, ixN_nat (by rw [List.length_map]; exact aL), ?_⟩
        rw [set_map]
        have N6 := N5.setL (L' := (pushes more L2 (way.take i)).set a (gi (pushes more L2 (way.take i)) a - more))
        have s6 := s5.put (o := .lst (((pushes more L2 (way.take i)).set a (gi (pushes more L2 (way.take i)) a - more)).map V.int)) (fr al (by simp))
        have h6p : upd H5 al (.lst (((pushes more L2 (way.take i)).set a (gi (pushes more L2 (way.take i)) a - more)).map V.int)) p = some (.lst (way.map nV)) := (upd_ne pal).trans h5p
        generalize upd H5 al (.lst (((pushes more L2 (way.take i)).set a (gi (pushes more L2 (way.take i)) a - more)).map V.int)) = H6 at N6 s6 h6p
        obtain ⟨dx6, ob6⟩ := N6.obj
        have mL : mate a < ((pushes more L2 (way.take i)).set a (gi (pushes more L2 (way.take i)) a - more)).length := by
          rw [List.length_set, len5, W2.ll]
          exact W.mt a (wa.ok a am).1
        -- self.left[arc ^ 1] += more
        refine ⟨_, rfl, n, C, dx6, _, _, rfl, ob6, T.cl, T.nL, rfl, _, rfl, _, _, rfl, rfl, al, _, _, _, rfl, rfl, SqL.of N6.hl, (by rw [xor_mate]; exact atI_nat (at_gi mL)), _, rfl, _, _, rfl, rfl, al, _, _, mate a, rfl, rfl, N6.hl, (by rw [xor_mate]; exact ixN_nat (by rw [List.length_map]; exact mL)), ?_⟩
        rw [set_map]
        refine ⟨_, rfl, s6.put (fr al (by simp)), ?_, (upd_ne pal).trans h6p⟩
        have e : pushes more L2 (way.take (i + 1)) = push more (pushes more L2 (way.take i)) a := by
          rw [take_snoc ha]
          unfold pushes
          rw [List.foldl_append]
          rfl
        rw [e]
        exact N6.setL
      · rintro σ H5 ⟨v6, rfl, s5, N5, h5p⟩
        rw [List.length_map, List.take_length] at N5
        -- total += more
        refine ⟨_, rfl, _, rfl, _, _, rfl, rfl, ?_⟩
        obtain ⟨dx5, ob5⟩ := N5.obj
        have S5 := S2.send hst (Int.le_of_lt mpos) (fun a ha => ⟨ps2 a ha, hle2 a ha⟩) wa.nodup wa.sum
        have len5 : (pushes more L2 way).length = L.length := (pushes_len _ _ _).trans l2
        -- found = self.come_by(start)
        refine ⟨_, rfl, n, dx5, _, rfl, ob5, rfl, _, rfl, n, ae, al, ar, ra, s, N, E, _, R, rfl, N5, W.len len5, hs, fun H6 d6 F6 s6 _ h6d O6 => ?_⟩
        refine ⟨_, ?_, _, tot + more, d6, F6, _, _, _, rfl, s5.trans s6, N5.keep s6, len5, S5, O6, h6d, rfl⟩
        have b1 := S5.le
        omega
    · rw [kvF_none ht]
      refine iteF ⟨_, rfl, ?_⟩
      exact k H2 L2 tot F2 ⟨s2, n0, ae, al, ar, ra, N2, fr⟩ S2 O2 ht
end
end Cy
end
section
namespace Cy
open PySem L2 NM
def spNetInit (C : Addr) : Sp := fun vs H Q _ => ∃ (H0 : Hp) (p dx : Addr) (N : Nat), vs = [.ref p, nV N] ∧ Same H0 H ∧ H0 p = none ∧ H p = some (.ins C dx []) ∧ N ≤ 1000 ∧ ∀ H', NetAt C H0 H' p [] [] (List.replicate N []) → Q .non H'
section
variable {P : Program} {w : World} {K : PySem.W.Frag} {mg : Str → Option Value} {base : Heap}
theorem ok_netinit {f C : Addr} {fd : FuncData} (Fn : Fun K "__init__" "Net.__init__" sNetInit f fd) (T : TxNet K mg C) : FnOk P w K mg base CX0 1 f fd ["self", "places"] (spNetInit C) := by
  refine Fn.ok scNetInit (fun vs H Q E h => ?_) (fun cdv A outer sh H vs Q Ex hr h => ?_)
  · obtain ⟨H0, p, dx, N, rfl, _⟩ := h
    rfl
  · obtain ⟨H0, p, dx, N, rfl, s0, p0, hp, hN, k⟩ := h
    refine ⟨_, pss_cons (ps_fld (pv 0) (pe_lst pa_nil) rfl) (pss_cons (ps_fld (pv 0) (pe_lst pa_nil) rfl)
      (pss_one (ps_fld (pv 0) (pe_lc (own := [("place", 2)]) (g := gName 2) (tt := tYes) (te := tLst tNil) rfl scNetInit.nd (pi_range1 (by rfl) T.range (pa_cons (pv 1) pa_nil)) (blkOk_by (N := ["self", "places", "place"]) (sc := defScope sNetInit) (by decide +kernel))
            (fun _ _ _ _ _ => pg_name (i := 2) scNetInit.nd rfl (.inl rfl)) (fun _ _ _ _ _ => pts_nil) (fun _ _ _ _ _ => pe_lst pa_nil)) rfl))), ?_⟩
    refine ⟨Nat.zero_le _, fun ae hae => ?_⟩
    have npe : p ≠ ae := ne_of_none hp hae
    refine ⟨_, rfl, p, C, dx, [], rfl, upd_new hae hp, T.cl, T.nE, (by show 0 < 1000; decide), ?_⟩
    have s1 : Same H0 (upd (upd H ae (.lst [])) p (.ins C dx [("ends", .ref ae)])) := (s0.put (s0.free hae)).put p0
    have ae0 : H0 ae = none := s0.free hae
    have h1p : upd (upd H ae (.lst [])) p (.ins C dx [("ends", .ref ae)]) p = some (.ins C dx [("ends", .ref ae)]) := upd_same
    have h1e : upd (upd H ae (.lst [])) p (.ins C dx [("ends", .ref ae)]) ae = some (.lst []) := (upd_ne npe.symm).trans upd_same
    have e1 : putF "ends" (V.ref ae) [] = [(("ends" : Str), V.ref ae)] := rfl
    rw [e1]
    generalize upd (upd H ae (.lst [])) p (.ins C dx [("ends", .ref ae)]) = H1 at s1 h1p h1e ⊢
    refine ⟨Nat.zero_le _, fun al hal => ?_⟩
    have npl : p ≠ al := ne_of_none h1p hal
    have nel : ae ≠ al := ne_of_none h1e hal
    refine ⟨_, rfl, p, C, dx, _, rfl, upd_new hal h1p, T.cl, T.nL, (by show 1 < 1000; decide), ?_⟩
    have e2 : putF "left" (V.ref al) [(("ends" : Str), V.ref ae)] = [(("ends" : Str), V.ref ae), ("left", V.ref al)] := rfl
    rw [e2]
    have s2 : Same H0 (upd (upd H1 al (.lst [])) p (.ins C dx [("ends", .ref ae), ("left", .ref al)])) := (s1.put (s1.free hal)).put p0
    have al0 : H0 al = none := s1.free hal
    have h2p : upd (upd H1 al (.lst [])) p (.ins C dx [("ends", .ref ae), ("left", .ref al)]) p = some (.ins C dx [("ends", .ref ae), ("left", .ref al)]) := upd_same
    have h2e : upd (upd H1 al (.lst [])) p (.ins C dx [("ends", .ref ae), ("left", .ref al)]) ae = some (.lst []) := (upd_ne (ne_of h1p h1e (by intro z; cases z)).symm).trans (upd_new hal h1e)
    have h2l : upd (upd H1 al (.lst [])) p (.ins C dx [("ends", .ref ae), ("left", .ref al)]) al = some (.lst []) := (upd_ne npl.symm).trans upd_same
    generalize upd (upd H1 al (.lst [])) p (.ins C dx [("ends", .ref ae), ("left", .ref al)]) = H2 at s2 h2p h2e h2l ⊢
    -- self.rows = [[] for place in range(places)]
    refine ⟨_, rfl, (N : Int), rfl, by omega, by omega, fun D hD => lc_range (lo := 0) (n := ((N : Int)).toNat) (fun i H3 => ∃ ra : List Addr, ra.length = i ∧ Same H2 H3 ∧ H3 D = some (.lst (ra.map V.ref)) ∧ ra.Nodup ∧ ∀ a ∈ ra, H2 a = none ∧ a ≠ D ∧ H3 a = some (.lst []))
      ⟨[], rfl, Same.new hD, upd_same, .nil, by simp⟩ ?_ ?_⟩
    · rintro i H3 hi ⟨ra, rl, s3, h3D, nd, fr⟩
      refine ⟨rfl, ?_⟩
      refine tYes_on (iteT ?_)
      refine ⟨Nat.zero_le _, fun q hq => ?_⟩
      have nDq : D ≠ q := ne_of_none h3D hq
      refine ⟨_, (upd_ne nDq).trans h3D, (by rw [List.length_map]; exact small' (by omega)), ra ++ [q], by simp [rl], (s3.put (s3.free hq)).put hD, by rw [List.map_append]; exact upd_same, nodup_snoc nd fun z => ?_, fun a ha => ?_⟩
      · have := (fr q z).2.2
        rw [hq] at this
        cases this
      · rcases List.mem_append.mp ha with z | z
        · obtain ⟨f1, f2, f3⟩ := fr a z
          exact ⟨f1, f2, (upd_ne f2).trans ((upd_ne (ne_of_none f3 hq)).trans f3)⟩
        · have e : a = q := by simpa using z
          subst e
          exact ⟨s3.free hq, nDq.symm, (upd_ne nDq.symm).trans upd_same⟩
    · rintro H3 ⟨ra, rl, s3, h3D, nd, fr⟩
      have npD : p ≠ D := ne_of_none h2p hD
      refine ⟨_, rfl, p, C, dx, _, rfl, s3 _ _ h2p, T.cl, T.nR, (by show 2 < 1000; decide), ?_⟩
      have e3 : putF "rows" (V.ref D) [(("ends" : Str), V.ref ae), ("left", V.ref al)] = netF ae al D := rfl
      rw [e3]
      have f3 : ∀ a ∈ ra, p ≠ a := fun a ha => ne_of_none h2p (fr a ha).1
      refine k _ ⟨(s2.trans s3).put p0, p0, ae, al, D, ra, ⟨⟨dx, upd_same⟩, (upd_ne (ne_of h2e h2p (by intro z; cases z))).trans (s3 _ _ h2e), (upd_ne npl.symm).trans (s3 _ _ h2l), (upd_ne npD.symm).trans h3D, by rw [List.length_replicate, rl]; omega, fun i a r h1 h2 => ?_, ?_⟩, fun a ha => ?_⟩
      · have hr : r = [] := by
          rw [List.getElem?_replicate] at h2
          split at h2
          · exact (Option.some.inj h2).symm
          · cases h2
        subst hr
        have am := List.mem_of_getElem? h1
        exact (upd_ne (f3 a am).symm).trans (fr a am).2.2
      · have neD : ae ≠ D := ne_of_none h2e hD
        have nlD : al ≠ D := ne_of_none h2l hD
        have ner : ae ∉ ra := fun z => by
          have := (fr ae z).1
          rw [h2e] at this
          cases this
        have nlr : al ∉ ra := fun z => by
          have := (fr al z).1
          rw [h2l] at this
          cases this
        have nDr : D ∉ ra := fun z => (fr D z).2.1 rfl
        simp only [List.nodup_cons, List.mem_cons, not_or]
        exact ⟨⟨nel, neD, ner⟩, ⟨nlD, nlr⟩, nDr, nd⟩
      · rcases List.mem_cons.mp ha with rfl | ha
        · exact ae0
        rcases List.mem_cons.mp ha with rfl | ha
        · exact al0
        rcases List.mem_cons.mp ha with rfl | ha
        · exact s2.free hD
        · exact s2.free (fr a ha).1
end
end Cy
end
section
/-! enumerate over a tuple -/
namespace PySem
open Sem (wp)
/-- enumerate(v): the maker, for anything that is walked by a new object o -/
theorem cy_enum_new {v : Value} {o : Obj} {Hh : Heap → Prop} (B : Begins v o Hh) :
    Meets (Builtin.«enumerate.__new__» ⟨[.type "enumerate", v], []⟩) (fun _ R s => Hh s.heap ∧
      R (.ok (.ret (.ref (s.heap.push o).objs.size))) { s with heap := (s.heap.push o).push { cls := .type "enumerate", data := .fields #[.none, .bool false, .ref s.heap.objs.size, rawInt 0, .none, .none] } }) := by
  refine .of_wp fun prog w A R s hs => ?_
  obtain ⟨heap, gs, dr, tk, os⟩ := s
  obtain ⟨hh, hr⟩ := hs
  have sub := sub_enumerate
  have go : ∀ {A' : Around} {E : Value → Shared → Prop} {Q : Value → Shared → Prop}, Q (.ref heap.objs.size) ⟨heap.push o, gs, dr, tk, os⟩ → wpAny (model prog w) A' (pyIter v) Q E ⟨heap, gs, dr, tk, os⟩ := fun q => B.iter prog w _ _ ⟨heap, gs, dr, tk, os⟩ _ hh q
  wp_walk using go
  refine wpAny_stack_any fun st => wpAny_pure ?_
  split
  · rename_i c _ _ _ _ _
    cases hc : (c == Value.type "enumerate") <;> (wp_walk using go; exact ⟨_, rfl, hr⟩)
  · wp_walk using go
    exact ⟨_, rfl, hr⟩
section
variable {prog : Program} {w : World} {A : Around} {E : Value → Shared → Prop} {s : Shared}
theorem cy_enum_call {v : Value} {o : Obj} {Hh : Heap → Prop} {Q : Value → Shared → Prop} (B : Begins v o Hh) (h1 : Hh s.heap)
    (h : ∀ h', IsEnum h' (s.heap.objs.size + 1) s.heap.objs.size 0 .none → h'.get? s.heap.objs.size = some o → (∀ b u, s.heap.get? b = some u → h'.get? b = some u) → Q (.ref (s.heap.objs.size + 1)) { s with heap := h' }) :
    wpAny (model prog w) A (call (.type "enumerate") [v]) Q E s := by
  have size : (s.heap.push o).objs.size = s.heap.objs.size + 1 := Heap.size_push ..
  refine callType_new F.called_enumerate (by decide) (F.typeCall_enumerate_1 _) (F.newCall_enumerate_1 _) (fun obj => F.args_object_init_2 obj _) F.entry_enumerate_new (cy_enum_new B) ⟨h1, ?_⟩
  show _ ∧ _
  rw [size]
  have there := Heap.get?_push_size (s.heap.push o) (o := { cls := .type "enumerate", data := .fields #[.none, .bool false, .ref s.heap.objs.size, rawInt 0, .none, .none] }) rfl
  rw [size] at there
  exact ⟨⟨_, there, rfl⟩, h _ there (Heap.get?_push_of_some _ (Heap.get?_push_size _ B.free)) fun b u q => Heap.get?_push_of_some _ (Heap.get?_push_of_some _ q)⟩
end
end PySem
namespace Cy
open PySem PySem.Spec PyProof.Rows L2
/-- the tuple at a, item by item, each in a new pair with its number -/
def ItE (K : PySem.W.Frag) (a : Addr) : It where
  go := fun i H => ∃ (xs : List V) (x : V), SqT K H a xs ∧ xs[i]? = some x
  yld := fun i H v H' => ∃ T x, v = .ref T ∧ H T = none ∧ H' = upd H T (.tup [.int (i : Nat), x]) ∧ ∀ xs, SqT K H a xs → xs[i]? = some x
  stop := fun i H => ∃ xs : List V, SqT K H a xs ∧ xs.length = i
theorem turnE {P : Program} {w : World} {K : PySem.W.Frag} {elts : List Expr} {kk : Nat} {tpos : Pos} (a e it : Addr) :
    Turn P w K (.Tuple elts kk tpos) (ItE K a) [e, it] e (fun i h => (∃ old, IsEnum h e it ((i : Nat) : Int) old) ∧ h.IsTupleIter it a i ∧ e ≠ it) := by
  have two : ∀ {b : Addr}, b ∈ [e, it] → b = e ∨ b = it := fun hb => by simpa using hb
  refine { mem := by simp, obj := ?_, keep := ?_, item := ?_, done := ?_, self := ?_ }
  · rintro i h ⟨⟨old, he⟩, ⟨o, ho, hcls, hd⟩, _⟩ b hb
    rcases two hb with rfl | rfl
    · exact ⟨_, he, fun v q => nomatch q⟩
    · exact ⟨o, ho, fun v q => by rw [hd] at q; cases q⟩
  · rintro i h h' ⟨⟨old, he⟩, hit, ne⟩ k
    exact ⟨⟨old, k e (by simp) _ he⟩, hit.at fun o q => k it (by simp) o q, ne⟩
  · intro X hP hw hK hc i pins s σ H E I hf st hg
    subst hP hw hK
    obtain ⟨⟨old, he⟩, hit, ne⟩ := st
    obtain ⟨xs, x, hq, hx⟩ := hg
    obtain ⟨its, rv, tp, _⟩ := I.tuple hq
    obtain ⟨u, hu, ru⟩ := rv.get hx
    have el : e < s.heap.objs.size := Heap.lt_size he
    have il : it < s.heap.objs.size := by obtain ⟨o, ho, _⟩ := hit; exact Heap.lt_size ho
    have ta : a ≠ it := fun z => by
      obtain ⟨o, ho, hcls, _⟩ := hit
      obtain ⟨o', ho', hcls', _⟩ := tp
      rw [z, ho] at ho'
      cases ho'
      exact absurd (hcls.symm.trans hcls') (by simp)
    have ea : e ∉ [it, a] := fun z => by
      have z' : e = it ∨ e = a := by simpa using z
      rcases z' with z' | z'
      · exact ne z'
      · obtain ⟨o', ho', hcls', _⟩ := tp
        have he : s.heap.get? e = some _ := he
        rw [z', ho'] at he
        have := Option.some.inj he
        rw [this] at hcls'
        exact absurd hcls' (by simp)
    have hh : X.A.in1.handled = none := I.ok.hd hc
    have D := Draws.tuple (prog := X.prog) (w := X.w) (A := X.A.in1) hh it a ta its.toArray
    refine wpAny_pyNext_enum_itemD D he ⟨hit, tp⟩ (i := i) (by simpa using (List.getElem?_eq_some_iff.mp hu).1) ne ea fun y h' tk py ho hst hT hsz hk => ?_
    have ey : y = u := by
      have q : its.toArray[i]? = some y := py
      rw [show its.toArray[i]? = its[i]? by simp, hu] at q
      exact (Option.some.inj q).symm
    subst ey
    refine ⟨_, rfl, wpAny_letOwnedTupleGo_enum (s := { s with heap := h', toks := tk + 1 }) ho fun h'' he' sb => ?_⟩
    have hT2 : h''.get? s.heap.objs.size = some { cls := .type "tuple", data := .seq #[.int i tk, y] } := (sb.2 _ (Nat.ne_of_gt el)).trans hT
    have new : ObjOk X.prog X.w (upd H s.heap.objs.size (.tup [.int (i : Nat), x])) h'' s.heap.objs.size (.tup [.int (i : Nat), x]) :=
      ⟨by show 2 ≤ sizeLine; decide, [.int i tk, y], .cons ⟨_, rfl⟩ (.cons ru .nil), ⟨_, hT2, rfl, _, rfl⟩⟩
    have J : Inv X pins σ (upd H s.heap.objs.size (.tup [.int (i : Nat), x])) { s with heap := h'', toks := tk + 1 } :=
      I.turnedNew (ch := [e, it]) (fun b ob hb q => (sb.2 b (fun z => hb (by simp [z]))).trans (hk b ob (fun z => hb (by simp [z])) (fun z => hb (by simp [z])) q)) hf (Nat.le_refl _) new
    refine ⟨.ref s.heap.objs.size, _, J, rfl, ⟨_, x, rfl, I.hok.fresh (Nat.le_refl _), rfl, fun ys hy => by rw [I.tuple_inj hy hq]; exact hx⟩, ⟨⟨y, ?_⟩, hst.1.at fun o q => (sb.2 it (Ne.symm ne)).trans q, ne⟩, fun b hb => ?_⟩
    · rw [show ((i + 1 : Nat) : Int) = (i : Int) + 1 by omega]; exact he'
    · have hb' : b < s.heap.objs.size := by rcases two hb with rfl | rfl <;> assumption
      rw [upd_ne (Nat.ne_of_lt hb')]
      exact (hf b hb).1
  · intro X hP hw hK hc i pins s σ H E I hf st hg
    subst hP hw hK
    obtain ⟨⟨old, he⟩, hit, ne⟩ := st
    obtain ⟨xs, hq, rfl⟩ := hg
    obtain ⟨its, rv, tp, _⟩ := I.tuple hq
    have ta : a ≠ it := fun z => by
      obtain ⟨o, ho, hcls, _⟩ := hit
      obtain ⟨o', ho', hcls', _⟩ := tp
      rw [z, ho] at ho'
      cases ho'
      exact absurd (hcls.symm.trans hcls') (by simp)
    have hh : X.A.in1.handled = none := I.ok.hd hc
    have D := Draws.tuple (prog := X.prog) (w := X.w) (A := X.A.in1) hh it a ta its.toArray
    have hn : its.toArray.size = xs.length := by rw [List.size_toArray, rv.length]
    obtain ⟨f0, f1, f2, f3, f4, f5⟩ := hf it (by simp)
    exact wpAny_pyNext_enum_endD D he (by rw [hn]; exact ⟨hit, tp⟩) fun h' eb => ⟨rfl, I.turned (t' := s.toks) (fun b o hb q => eb b o hb q) f0 f1 f3 f4 f5⟩
  · rintro A i s Q E ⟨⟨_, he⟩, _⟩ h
    exact wpAny_pyIter_enum he h
def iEnT (K : PySem.W.Frag) (ta : TA) : TI := fun σ H R => ta σ H fun vs H1 => ∃ a xs, vs = [.ref a] ∧ SqT K H1 a xs ∧ R (ItE K a) H1
theorem pi_enT {X : Cx} {e : Expr} {ta : TA} {p pos tpos : Pos} {elts : List Expr} {kk : Nat} (hg : Gl X "enumerate") (hm : X.mg "enumerate" = none) (ha : PA X [e] ta) (hs : starEach [e] X.env = [(false, eval e X.env)] := by rfl) :
    PI X (.Tuple elts kk tpos) (.Call (.Name "enumerate" p) [e] [] pos) (iEnT X.K ta) := by
  refine ⟨fun pins s σ H R I h => Call_ (ld_blt I hg hm boot_enumerate (PyProof.Rows.callWith_type1 (thn (ha.run pos pins s σ H _ I h) fun us s1 q => ?_) hs rfl))⟩
  obtain ⟨vs, H1, I1, r1, a, xs, rfl, hq, k⟩ := q
  obtain ⟨u, rfl, ru⟩ := vals1 r1
  obtain rfl : u = .ref a := ru
  obtain ⟨its, rv, tp, _⟩ := I1.tuple hq
  refine cy_enum_call (begins_tuple a its.toArray) tp fun h' he hit hk => wpAny_pyIter_enum he ?_
  have J : Inv X pins σ H1 { s1 with heap := h' } := I1.kept (t' := s1.toks) hk
  refine ⟨s1.heap.objs.size + 1, [s1.heap.objs.size + 1, s1.heap.objs.size], _, _, H1, rfl, J, turnE a (s1.heap.objs.size + 1) s1.heap.objs.size, ⟨⟨.none, he⟩, ⟨_, hit, rfl, rfl⟩, Nat.succ_ne_self _⟩, fun b hb => ?_, k⟩
  have hle : s1.heap.objs.size ≤ b := by
    have z : b = s1.heap.objs.size + 1 ∨ b = s1.heap.objs.size := by simpa using hb
    rcases z with z | z
    · rw [z]; exact Nat.le_add_right _ _
    · rw [z]; exact Nat.le_refl _
  exact I1.fpOk hle (I1.hok.fresh hle)
theorem walk_enT {K : PySem.W.Frag} {a : Addr} {xs : List V} : Walk (ItE K a) xs.length (fun H => SqT K H a xs) (YPair (fun i => some (.int (i : Nat))) (fun i => xs[i]?)) := by
  refine ⟨fun i _ hi q => ⟨xs, xs[i], q, by simp [hi]⟩, fun _ q => ⟨xs, q, rfl⟩, fun i H v H' _ q y => ?_⟩
  obtain ⟨T, x, h1, h2, h3, h4⟩ := y
  exact ⟨T, .int (i : Nat), x, h1, h2, h3, rfl, h4 xs q⟩
end Cy
end
section
namespace Cy
open PySem L2 NM
/-! ### a yard, guests in the heap -/
def YardAt (H : Hp) (y : Addr) (T : Nat) (ls : List Ln) : Prop := ∃ (ly : Addr) (la : List Addr), H y = some (.tup [nV T, .ref ly]) ∧ H ly = some (.tup (la.map V.ref)) ∧ la.length = ls.length ∧
  ∀ i, i < ls.length → ∃ a b : Addr, la[i]? = some a ∧ H a = some (.tup [optV ls[i]!.above, .ref b]) ∧ H b = some (.tup (ls[i]!.bounds.map V.int))
def guV (u : Gu) : List V := [nV u.line, nV u.first, nV u.last, .int u.want, .int u.most]
def GuestsAt (H : Hp) (g : Addr) (gs : List Gu) : Prop := ∃ ga : List Addr, H g = some (.lst (ga.map V.ref)) ∧ ga.length = gs.length ∧ ∀ i, i < gs.length → ∃ a : Addr, ga[i]? = some a ∧ H a = some (.tup (guV gs[i]!))
theorem YardAt.keep {H H' : Hp} {y : Addr} {T : Nat} {ls : List Ln} (h : YardAt H y T ls) (s : Same H H') : YardAt H' y T ls := by
  obtain ⟨ly, la, h1, h2, h3, h4⟩ := h
  exact ⟨ly, la, s _ _ h1, s _ _ h2, h3, fun i hi => let ⟨a, b, e1, e2, e3⟩ := h4 i hi; ⟨a, b, e1, s _ _ e2, s _ _ e3⟩⟩
theorem GuestsAt.keep {H H' : Hp} {g : Addr} {gs : List Gu} (h : GuestsAt H g gs) (s : Same H H') : GuestsAt H' g gs := by
  obtain ⟨ga, h1, h3, h4⟩ := h
  exact ⟨ga, s _ _ h1, h3, fun i hi => let ⟨a, e1, e2⟩ := h4 i hi; ⟨a, e1, s _ _ e2⟩⟩
structure TxCrs (K : PySem.W.Frag) (mg : Str → Option Value) (C : Addr) : Prop where
  cl : Cls K C
  nT : NoAttr K C "turns"
  nG : NoAttr K C "guests"
  nO : NoAttr K C "goal"
  nN : NoAttr K C "net"
  nA : NoAttr K C "arcs"
  nS : NoAttr K C "sent"
  mgC : mg "Course" = some (.ref C)
  len : mg "len" = none
  range : mg "range" = none
  enum : mg "enumerate" = none
  zip : mg "zip" = none
  sum : mg "sum" = none
abbrev crsF (T : Nat) (g : Addr) (goal : Nat) (n aa : Addr) : List (Str × V) := [("turns", nV T), ("guests", .ref g), ("goal", nV goal), ("net", .ref n), ("arcs", .ref aa)]
theorem NetAt.upd {C : Addr} {H0 H : Hp} {n a : Addr} {E : List Nat} {L : List Int} {R : List (List Nat)} {o : HO} (h : NetAt C H0 H n E L R) (ha : (∃ u, H0 a = some u) ∨ H a = none) : NetAt C (upd H0 a o) (upd H a o) n E L R := by
  obtain ⟨s, n0, ae, al, ar, ra, N, fr⟩ := h
  have key : ∀ b u, H0 b = none → H b = some u → b ≠ a := fun b u h0 h1 e => by
    subst e
    rcases ha with ⟨u', z⟩ | z
    · rw [h0] at z; cases z
    · rw [h1] at z; cases z
  obtain ⟨dx, ob⟩ := N.obj
  refine ⟨fun b u e => ?_, (upd_ne (key n _ n0 ob)).trans n0, ae, al, ar, ra, ⟨⟨dx, (upd_ne (key n _ n0 ob)).trans ob⟩, (upd_ne (key ae _ (fr ae (by simp)) N.he)).trans N.he, (upd_ne (key al _ (fr al (by simp)) N.hl)).trans N.hl, (upd_ne (key ar _ (fr ar (by simp)) N.hr)).trans N.hr, N.rl, fun i b r h1 h2 => ?_, N.nd⟩, fun b hb => ?_⟩
  · by_cases e' : b = a
    · rw [e', upd_same] at e; rw [e', upd_same]; exact e
    · rw [upd_ne e'] at e; rw [upd_ne e']; exact s b u e
  · have q := N.row i b r h1 h2
    exact (upd_ne (key b _ (fr b (by have := List.mem_of_getElem? h1; simp [this])) q)).trans q
  · have there : ∃ u, H b = some u := by
      rcases List.mem_cons.mp hb with rfl | hb
      · exact ⟨_, N.he⟩
      rcases List.mem_cons.mp hb with rfl | hb
      · exact ⟨_, N.hl⟩
      rcases List.mem_cons.mp hb with rfl | hb
      · exact ⟨_, N.hr⟩
      · obtain ⟨r, q⟩ := N.at_row hb
        exact ⟨_, q⟩
    obtain ⟨u, hu⟩ := there
    exact (upd_ne (key b u (fr b hb) hu)).trans (fr b hb)
theorem NetAt.same {C : Addr} {H0 H : Hp} {n : Addr} {E : List Nat} {L : List Int} {R : List (List Nat)} (h : NetAt C H0 H n E L R) : Same H0 H := h.1
section
variable {T : Nat} {ls : List Ln} {gs : List Gu}
/-- a net with the arcs of the labels bs, beside H0 -/
def NetLay (CN : Addr) (T : Nat) (ls : List Ln) (gs : List Gu) (H0 H : Hp) (n : Addr) (bs : List Lab) : Prop := ∃ R, NetAt CN H0 H n (endsOf T ls gs bs) (leftOf ls gs bs) R ∧ RowOk (endsOf T ls gs bs) R (cN T ls gs)
theorem NetLay.upd {CN : Addr} {H0 H : Hp} {n a : Addr} {bs : List Lab} {o : HO} (h : NetLay CN T ls gs H0 H n bs) (ha : (∃ u, H0 a = some u) ∨ H a = none) : NetLay CN T ls gs (upd H0 a o) (upd H a o) n bs :=
  let ⟨R, h1, h2⟩ := h; ⟨R, h1.upd ha, h2⟩
theorem NetLay.same {CN : Addr} {H0 H : Hp} {n : Addr} {bs : List Lab} (h : NetLay CN T ls gs H0 H n bs) : Same H0 H := let ⟨_, h1, _⟩ := h; h1.1
theorem NetLay.obj {CN : Addr} {H0 H : Hp} {n : Addr} {bs : List Lab} (h : NetLay CN T ls gs H0 H n bs) : ∃ dx fs, H n = some (.ins CN dx fs) ∧ fs.lookup ("lay" : Str) = none ∧ fs.lookup ("send" : Str) = none := by
  obtain ⟨R, ⟨_, _, ae, al, ar, ra, N, _⟩, _⟩ := h
  obtain ⟨dx, ob⟩ := N.obj
  exact ⟨dx, _, ob, rfl, rfl⟩
theorem lay_step {CN : Addr} {H0 H : Hp} {n : Addr} {bs : List Lab} {b : Lab} {Q : VK} {E : XK} {u v : Int} {c : Int} (h : NetLay CN T ls gs H0 H n bs) (hl : bs.length ≤ 200) (eu : ((lu T gs b : Nat) : Int) = u) (ev : ((lv T ls gs b : Nat) : Int) = v) (ec : lc ls gs b = c) (hu : lu T gs b < cN T ls gs) (hv : lv T ls gs b < cN T ls gs)
    (k : ∀ H', NetLay CN T ls gs H0 H' n (bs ++ [b]) → Q (nV (2 * bs.length)) H') : spLay CN [.ref n, .int u, .int v, .int c] H Q E := by
  obtain ⟨R, h1, h2⟩ := h
  subst eu ev ec
  have le : (endsOf T ls gs bs).length = 2 * bs.length := flat2_len _ _ _
  have ll : (leftOf ls gs bs).length = 2 * bs.length := flat2_len _ _ _
  refine ⟨H0, n, _, _, _, _, _, R, rfl, h1, by rw [h2.rn]; exact hu, by rw [h2.rn]; exact hv, by omega, by omega, h2.le, fun H' h' => ?_⟩
  rw [le]
  refine k H' ⟨addRow (addRow R (lu T gs b) (2 * bs.length)) (lv T ls gs b) (2 * bs.length + 1), ?_, ?_⟩
  · have e1 : endsOf T ls gs (bs ++ [b]) = endsOf T ls gs bs ++ [lv T ls gs b, lu T gs b] := by unfold endsOf; rw [List.flatMap_append]; rfl
    have e2 : leftOf ls gs (bs ++ [b]) = leftOf ls gs bs ++ [lc ls gs b, 0] := by unfold leftOf; rw [List.flatMap_append]; rfl
    rw [e1, e2]
    rw [le] at h'
    exact h'
  · have e1 : endsOf T ls gs (bs ++ [b]) = endsOf T ls gs bs ++ [lv T ls gs b, lu T gs b] := by unfold endsOf; rw [List.flatMap_append]; rfl
    rw [e1]
    have q := h2.lay le hu hv
    rw [le] at q
    exact q
end
def spPlace (CC : Addr) : Sp := fun vs H Q _ => ∃ (c dx g n aa : Addr) (T goal k l t : Nat) (xs : List V), vs = [.ref c, nV l, nV t] ∧ H c = some (.ins CC dx (crsF T g goal n aa)) ∧ H g = some (.lst xs) ∧ xs.length = k ∧ l ≤ 1000 ∧ Q (nV (place k T l t)) H
def spLaid (CN CC : Addr) : Sp := fun vs H Q _ => ∃ (H0 : Hp) (c dx g n aa : Addr) (goal i T : Nat) (ls : List Ln) (gs : List Gu) (bs : List Lab), vs = [.ref c, nV i] ∧ H0 c = some (.ins CC dx (crsF T g goal n aa)) ∧ GuestsAt H0 g gs ∧ i < gs.length ∧ YaOk T ls ∧ GuOk T ls.length gs ∧
  NetLay CN T ls gs H0 H n bs ∧ bs.length ≤ 150 ∧ ∀ H' p, H0 p = none → NetLay CN T ls gs (upd H0 p (.lst ((List.range (stay gs i)).map fun k => nV (2 * (bs.length + 1 + k))))) H' n (bs ++ labG gs i) → Q (.ref p) H'
section
variable {P : Program} {w : World} {K : PySem.W.Frag} {mg : Str → Option Value} {base : Heap}
theorem ok_place {f CC : Addr} {fd : FuncData} (Fn : Fun K "place_of" "Course.place_of" sCrsPlace f fd) (T : TxCrs K mg CC) : FnOk P w K mg base CX0 1 f fd ["self", "line", "turn"] (spPlace CC) := by
  refine Fn.ok scCrsPlace (fun vs H Q E h => ?_) (fun cdv A outer sh H vs Q Ex hr h => ?_)
  · obtain ⟨c, dx, g, n, aa, TT, goal, k, l, t, xs, rfl, _⟩ := h
    rfl
  · obtain ⟨c, dx, g, n, aa, TT, goal, k, l, t, xs, rfl, hc, hg, rfl, hl, q⟩ := h
    refine ⟨_, pss_one (ps_ret (pe_op op_add (pe_op op_add (pe_op op_add pe_int (pe_callB call_len_seq (by rfl) T.len boot_len (pa_cons (pe_fld (pv 0) rfl) pa_nil))) (pe_op op_mul (pv 1) (pe_fld (pv 0) rfl))) (pv 2))), ?_⟩
    refine ⟨_, rfl, c, CC, dx, _, _, rfl, hc, T.cl, T.nG, rfl, g, _, rfl, .inl (SqL.of hg), _, _, rfl, rfl, _, rfl, _, rfl, c, CC, dx, _, _, rfl, hc, T.cl, T.nT, rfl, _, _, rfl, rfl, .inl ⟨by omega, by omega⟩, _, _, rfl, rfl, _, rfl, _, _, rfl, rfl, ?_⟩
    have e : (1 + (xs.length : Int) + (l : Int) * (TT : Int) + (t : Int)) = ((place xs.length TT l t : Nat) : Int) := by
      unfold place
      rw [Int.natCast_add, Int.natCast_add, Int.natCast_add, Int.natCast_mul]; rfl
    show Q (.int (1 + (xs.length : Int) + (l : Int) * (TT : Int) + (t : Int))) H
    rw [e]
    exact q
theorem ok_laid {f CN CC : Addr} {fd : FuncData} (Fn : Fun K "laid_for" "Course.laid_for" sCrsLaid f fd) (T : TxCrs K mg CC) (ML : C8.Met P w K mg base 1 CN "lay" (spLay CN) []) (MP : C8.Met P w K mg base 1 CC "place_of" (spPlace CC) []) :
    FnOk P w K mg base CX0 2 f fd ["self", "number"] (spLaid CN CC) := by
  refine Fn.ok scCrsLaid (fun vs H Q E h => ?_) (fun cdv A outer sh H vs Q Ex hr h => ?_)
  · obtain ⟨H0, c, dx, g, n, aa, goal, i, TT, ls, gs, bs, rfl, _⟩ := h
    rfl
  · obtain ⟨H0, c, dx, g, n, aa, goal, i, TT, ls, gs, bs, rfl, hc, hg, hi, Y, G, NL, hbs, k⟩ := h
    have nd := scCrsLaid.nd
    refine ⟨_, pss_cons (ps_asg (pe_ix ix_list (pe_fld (pv 0) rfl) (pv 1) (fun _ _ => rfl)) (pg_tup rfl (pgs_cons (pg_name (i := 2) nd rfl (.inr rfl)) (pgs_cons (pg_name (i := 3) nd rfl (.inl rfl)) (pgs_cons (pg_name (i := 4) nd rfl (.inl rfl)) (pgs_cons (pg_name (i := 5) nd rfl (.inl rfl)) (pgs_cons (pg_name (i := 6) nd rfl (.inr rfl)) pgs_nil)))))))
      (pss_cons (ps_expr (C8.pe_mt ML hr (by decide) (pe_fld (pv 0) rfl) (pa_cons pe_int (pa_cons (pe_op op_add pe_int (pv 1)) (pa_cons (pv 5) pa_nil)))))
      (pss_one (ps_ret (pe_lc (own := [("turn", 7)]) (g := gName 7) (tt := tYes) (te := tMeth CN "lay" (spLay CN) [] E0 (tFld K (tVar 0) "net") (tCons (tOp (rI0 fun i j => .int (i + j)) (tC (.int 1)) (tVar 1)) (tCons (tMeth CC "place_of" (spPlace CC) [] E0 (tVar 0) (tCons (tVar 2) (tCons (tVar 7) tNil))) (tCons (tVar 6) tNil))))
          rfl nd (pi_range2 (by rfl) T.range (pa_cons (pv 3) (pa_cons (pe_op op_add (pv 4) pe_int) pa_nil))) (blkOk_by (N := ["self", "number", "line", "first", "last", "want", "most", "turn"]) (sc := defScope sCrsLaid) (by decide +kernel))
          (fun _ _ _ _ _ => pg_name (i := 7) nd rfl (.inl rfl)) (fun _ _ _ _ _ => pts_nil)
          (fun _ _ _ _ _ => C8.pe_mt ML hr (by decide) (pe_fld (pv 0) rfl) (pa_cons (pe_op op_add pe_int (pv 1)) (pa_cons (C8.pe_mt MP hr (by decide) (pv 0) (pa_cons (pv 2) (pa_cons (pv 7) pa_nil))) (pa_cons (pv 6) pa_nil)))))))), ?_⟩
    have s0 := NL.same
    obtain ⟨ga, hga, lga, hgu⟩ := hg.keep s0
    obtain ⟨a, ha, hau⟩ := hgu i hi
    -- line, first, last, want, most = self.guests[number]
    refine ⟨_, rfl, c, CC, dx, _, _, rfl, s0 _ _ hc, T.cl, T.nG, rfl, _, rfl, g, _, _, .ref a, rfl, rfl, SqL.of hga, atI_nat (by rw [List.getElem?_map, ha]; rfl), a, _, rfl, SqT.of hau, rfl, _, _, rfl, _, _, rfl, _, _, rfl, _, _, rfl, _, _, rfl, rfl, ?_⟩
    -- self.net.lay(0, 1 + number, want)
    obtain ⟨dxn, fsn, hn, ln, _⟩ := NL.obj
    refine ⟨_, rfl, c, CC, dx, _, _, rfl, s0 _ _ hc, T.cl, T.nN, rfl, n, dxn, fsn, rfl, hn, ln, _, rfl, _, _, rfl, rfl, _, rfl, ?_⟩
    refine tNil_on ?_
    refine lay_step (b := .src i) NL (by omega) rfl rfl rfl (lu_lt G (mem_src hi)) (lv_lt G Y (mem_src hi)) fun H1 NL1 => ?_
    have s1 := NL1.same
    -- return [..]
    have hf := G.fl i hi
    have hlt := G.lt i hi
    have hT := Y.t8
    have est : ((((gs[i]!.last : Nat) : Int) + 1) - ((gs[i]!.first : Nat) : Int)).toNat = stay gs i := by unfold stay; omega
    have st8 : stay gs i ≤ 8 := by unfold stay; omega
    refine ⟨_, rfl, _, rfl, _, _, rfl, rfl, _, _, rfl, ⟨by omega, by omega, by omega, by omega⟩, fun D hD => ?_⟩
    rw [est]
    have D0 : H0 D = none := s1.free hD
    refine lc_range (lo := ((gs[i]!.first : Nat) : Int)) (n := stay gs i) (fun k H2 => NetLay CN TT ls gs (upd H0 D (.lst ((List.range k).map fun j => nV (2 * (bs.length + 1 + j))))) H2 n (bs ++ Lab.src i :: (List.range k).map fun j => Lab.gst i (gs[i]!.first + j))) ?_ ?_ ?_
    · exact NL1.upd (.inr hD)
    · intro k2 H2 hk NL2
      refine ⟨rfl, ?_⟩
      refine tYes_on (iteT ?_)
      have s2 := NL2.same
      have hc2 := s2 _ _ (upd_new D0 hc)
      obtain ⟨ga2, hga2, lga2, _⟩ := (hg.keep (Same.new D0)).keep s2
      obtain ⟨dxn2, fsn2, hn2, ln2, _⟩ := NL2.obj
      refine ⟨_, rfl, c, CC, dx, _, _, rfl, hc2, T.cl, T.nN, rfl, n, dxn2, fsn2, rfl, hn2, ln2, _, rfl, _, _, rfl, rfl, _, rfl, c, dx, _, rfl, hc2, rfl, _, rfl, _, rfl,
        c, dx, g, n, aa, TT, goal, gs.length, gs[i]!.line, gs[i]!.first + k2, _, rfl, hc2, hga2, by rw [List.length_map, lga2], by have := G.line i hi; have := Y.l5; omega, _, rfl, ?_⟩
      have mem : Lab.gst i (gs[i]!.first + k2) ∈ labs TT ls gs := mem_gst hi (by omega) (by unfold stay at hk; omega)
      refine tNil_on ?_
      refine lay_step (b := .gst i (gs[i]!.first + k2)) NL2 (by simp; omega) rfl rfl rfl (lu_lt G mem) (lv_lt G Y mem) fun H3 NL3 => ?_
      have h3D := NL3.same D _ upd_same
      refine ⟨_, h3D, by rw [List.length_map, List.length_range]; exact small' (by omega), ?_⟩
      have e1 : (bs ++ Lab.src i :: (List.range k2).map fun j => Lab.gst i (gs[i]!.first + j)).length = bs.length + 1 + k2 := by simp; omega
      rw [e1]
      have NL4 := NL3.upd (o := .lst (((List.range k2).map fun j => nV (2 * (bs.length + 1 + j))) ++ [nV (2 * (bs.length + 1 + k2))])) (.inl ⟨_, upd_same⟩)
      rw [upd_upd] at NL4
      rw [List.range_succ, List.map_append, List.map_append]
      rw [List.append_assoc] at NL4
      exact NL4
    · intro H2 NL2
      exact k H2 D D0 NL2
end
end Cy
end
section
namespace Cy
open PySem L2 NM
abbrev crsF2 (T : Nat) (g : Addr) (goal : Nat) (n aa : Addr) (tot : Int) : List (Str × V) := [("turns", nV T), ("guests", .ref g), ("goal", nV goal), ("net", .ref n), ("arcs", .ref aa), ("sent", .int tot)]
/-- the guests' arcs, their numbers, at aa, for the first k of them -/
def ArcsAt (H : Hp) (aa : Addr) (gs : List Gu) (k : Nat) : Prop := ∃ as : List Addr, H aa = some (.lst (as.map V.ref)) ∧ as.length = k ∧ ∀ j, j < k → ∃ a : Addr, as[j]? = some a ∧ H a = some (.lst ((arcsOf gs j).map nV)) ∧ a ≠ aa
theorem ArcsAt.keep {H H' : Hp} {aa : Addr} {gs : List Gu} {k : Nat} (h : ArcsAt H aa gs k) (s : Same H H') : ArcsAt H' aa gs k := by
  obtain ⟨as, h1, h2, h3⟩ := h
  exact ⟨as, s _ _ h1, h2, fun j hj => let ⟨a, e1, e2, e3⟩ := h3 j hj; ⟨a, e1, s _ _ e2, e3⟩⟩
theorem ArcsAt.put {H : Hp} {aa c C dx : Addr} {fs : List (Str × V)} {gs : List Gu} {k : Nat} {o : HO} (h : ArcsAt H aa gs k) (hc : H c = some (.ins C dx fs)) : ArcsAt (upd H c o) aa gs k := by
  obtain ⟨as, h1, h2, h3⟩ := h
  refine ⟨as, (upd_ne (ne_of h1 hc (by intro z; cases z))).trans h1, h2, fun j hj => ?_⟩
  obtain ⟨a, e1, e2, e3⟩ := h3 j hj
  exact ⟨a, e1, (upd_ne (ne_of e2 hc (by intro z; cases z))).trans e2, e3⟩
theorem bnd_at {T : Nat} {ls : List Ln} (Y : YaOk T ls) {l t : Nat} (hl : l < ls.length) (ht : t < T) : (ls[l]!.bounds.map V.int)[t]? = some (.int (bnd ls l t)) := by
  have h : t < ls[l]!.bounds.length := by rw [Y.len l hl]; exact ht
  have q := at_gi (L := ls[l]!.bounds) h
  exact q
structure CrsIs (CN CC : Addr) (H : Hp) (c : Addr) (T : Nat) (ls : List Ln) (gs : List Gu) (dx g n aa ae al ar : Addr) (ra : List Addr) (L : List Int) (tot : Int) (R : List (List Nat)) (F : List (Nat × Option Nat)) : Prop where
  obj : H c = some (.ins CC dx (crsF2 T g (goalN gs.length T ls.length) n aa tot))
  gu : GuestsAt H g gs
  arcs : ArcsAt H aa gs gs.length
  net : NetRaw CN H n ae al ar ra (cE T ls gs) L R
  wf : Wf (cE T ls gs) L R (cN T ls gs)
  done : Done T ls gs L tot F
def CrsAt (CN CC : Addr) (H : Hp) (c : Addr) (T : Nat) (ls : List Ln) (gs : List Gu) (L : List Int) (tot : Int) (F : List (Nat × Option Nat)) : Prop := ∃ dx g n aa ae al ar ra R, CrsIs CN CC H c T ls gs dx g n aa ae al ar ra L tot R F
def spCrsInit (CN CC : Addr) : Sp := fun vs H Q _ => ∃ (H0 : Hp) (c dx y g : Addr) (T : Nat) (ls : List Ln) (gs : List Gu), vs = [.ref c, .ref y, .ref g] ∧ Same H0 H ∧ H0 c = none ∧ H c = some (.ins CC dx []) ∧ YardAt H0 y T ls ∧ GuestsAt H0 g gs ∧ YaOk T ls ∧ GuOk T ls.length gs ∧
  ∀ H' L tot F, Same H0 H' → CrsAt CN CC H' c T ls gs L tot F → Q .non H'
section
variable {P : Program} {w : World} {K : PySem.W.Frag} {mg : Str → Option Value} {base : Heap}
theorem ok_crsinit {f CN CC : Addr} {fd : FuncData} (Fn : Fun K "__init__" "Course.__init__" sCrsInit f fd) (T : TxCrs K mg CC) (MN : C8.Mak P w K mg base 1 "Net" CN (spNetInit CN) []) (ML : C8.Met P w K mg base 1 CN "lay" (spLay CN) []) (MS : C8.Met P w K mg base 2 CN "send" (spSend CN) [])
    (MP : C8.Met P w K mg base 1 CC "place_of" (spPlace CC) []) (MF : C8.Met P w K mg base 2 CC "laid_for" (spLaid CN CC) []) : FnOk P w K mg base CX0 3 f fd ["self", "yard", "guests"] (spCrsInit CN CC) := by
  refine Fn.ok scCrsInit (fun vs H Q E h => ?_) (fun cdv A outer sh H vs Q Ex hr h => ?_)
  · obtain ⟨H0, c, dx, y, g, TT, ls, gs, rfl, _⟩ := h
    rfl
  · obtain ⟨H0, c, dx, y, g, TT, ls, gs, rfl, s0, c0, hc, hy, hg, Y, G, k⟩ := h
    have nd := scCrsInit.nd
    refine ⟨_,
      pss_cons (ps_fld (pv 0) (pe_ix ix_tup (pv 1) pe_int (fun _ _ => rfl)) rfl) <|
      pss_cons (ps_fld (pv 0) (pv 2) rfl) <|
      pss_cons (ps_fld (pv 0) (pe_op op_add (pe_op op_add pe_int (pe_callB call_len_seq (by rfl) T.len boot_len (pa_cons (pv 2) pa_nil))) (pe_op op_mul (pe_fld (pv 0) rfl) (pe_callB call_len_seq (by rfl) T.len boot_len (pa_cons (pe_ix ix_tup (pv 1) pe_int (fun _ _ => rfl)) pa_nil)))) rfl) <|
      pss_cons (ps_fld (pv 0) (C8.pe_mk MN hr (by decide) (by rfl) (pa_cons (pe_op op_add (pe_fld (pv 0) rfl) pe_int) pa_nil)) rfl) <|
      pss_cons (ps_fld (pv 0) (pe_lst pa_nil) rfl) <|
      pss_cons (ps_for PassesOwn.never rfl (pi_range1 (by rfl) T.range (pa_cons (pe_callB call_len_seq (by rfl) T.len boot_len (pa_cons (pv 2) pa_nil)) pa_nil)) (pg_name (i := 3) nd rfl (.inl rfl))
        (pss_one (ps_expr (pe_bm PySem.F.plainAttrs_list PySem.F.slot_list_append PySem.F.type_list_append mt_append (pe_fld (pv 0) rfl) (pa_cons (C8.pe_mt MF hr (by decide) (pv 0) (pa_cons (pv 3) pa_nil)) pa_nil))))) <|
      pss_cons (ps_for PassesOwn.never rfl (pi_enT (by rfl) T.enum (pa_cons (pe_ix ix_tup (pv 1) pe_int (fun _ _ => rfl)) pa_nil)) (pg_tup rfl (pgs_cons (pg_name (i := 4) nd rfl (.inl rfl)) (pgs_cons (pg_tup rfl (pgs_cons (pg_name (i := 5) nd rfl (.inl rfl)) (pgs_cons (pg_name (i := 6) nd rfl (.inl rfl)) pgs_nil))) pgs_nil)))
        (pss_one (ps_for PassesOwn.never rfl (pi_range1 (by rfl) T.range (pa_cons (pe_fld (pv 0) rfl) pa_nil)) (pg_name (i := 7) nd rfl (.inl rfl))
          (pss_cons (ps_set (i := 8) nd rfl (.inl rfl) (pe_fld (pv 0) rfl)) <|
          pss_cons (ps_if (pt_cmpR op_notN (pv 5) pe_non (nomark _)) (pss_one (ps_set (i := 8) nd rfl (.inl rfl) (C8.pe_mt MP hr (by decide) (pv 0) (pa_cons (pv 5) (pa_cons (pv 7) pa_nil))))) pss_nil) <|
          pss_one (ps_expr (C8.pe_mt ML hr (by decide) (pe_fld (pv 0) rfl) (pa_cons (C8.pe_mt MP hr (by decide) (pv 0) (pa_cons (pv 4) (pa_cons (pv 7) pa_nil))) (pa_cons (pv 8) (pa_cons (pe_ix ix_tup (pv 6) (pv 7) (fun _ _ => rfl)) pa_nil))))))))) <|
      pss_one (ps_fld (pv 0) (C8.pe_mt MS hr (by decide) (pe_fld (pv 0) rfl) (pa_cons pe_int (pa_cons (pe_fld (pv 0) rfl) pa_nil))) rfl), ?_⟩
    obtain ⟨ly, la, hy1, hy2, hy3, hy4⟩ := hy
    have yc : y ≠ c := ne_of_none hy1 c0
    have lyc : ly ≠ c := ne_of_none hy2 c0
    -- self.turns = yard[0]
    refine ⟨_, rfl, y, _, _, nV TT, rfl, rfl, SqT.of (s0 _ _ hy1), rfl, _, rfl, c, CC, dx, [], rfl, hc, T.cl, T.nT, (by show 0 < 1000; decide), ?_⟩
    rw [show putF "turns" (nV TT) [] = [(("turns" : Str), nV TT)] from rfl]
    -- self.guests = guests
    refine ⟨_, rfl, _, rfl, c, CC, dx, _, rfl, upd_same, T.cl, T.nG, (by show 1 < 1000; decide), ?_⟩
    rw [upd_upd, show putF "guests" (V.ref g) [(("turns" : Str), nV TT)] = [(("turns" : Str), nV TT), ("guests", .ref g)] from rfl]
    -- self.goal = ..
    obtain ⟨ga, hga, lga, hgu⟩ := hg
    have gc : g ≠ c := ne_of_none hga c0
    refine ⟨_, rfl, g, _, rfl, .inl (SqL.of ((upd_ne gc).trans (s0 _ _ hga))), _, _, rfl, rfl, _, rfl, c, CC, dx, _, _, rfl, upd_same, T.cl, T.nT, rfl, _, rfl, y, _, _, .ref ly, rfl, rfl, SqT.of ((upd_ne yc).trans (s0 _ _ hy1)), rfl, ly, _, rfl, .inr (SqT.of ((upd_ne lyc).trans (s0 _ _ hy2))), _, _, rfl, rfl, .inl ⟨by omega, by have := Y.t8; omega⟩, _, _, rfl, rfl, _, rfl, c, CC, dx, _, rfl, upd_same, T.cl, T.nO, (by show 2 < 1000; decide), ?_⟩
    rw [upd_upd, List.length_map, List.length_map, lga, hy3]
    have eg : (1 + (gs.length : Int) + (TT : Int) * (ls.length : Int)) = ((goalN gs.length TT ls.length : Nat) : Int) := by
      unfold goalN
      rw [Int.natCast_add, Int.natCast_add, Int.natCast_mul]; rfl
    dsimp only
    rw [eg, show putF "goal" (nV (goalN gs.length TT ls.length)) [(("turns" : Str), nV TT), ("guests", .ref g)] = [(("turns" : Str), nV TT), ("guests", .ref g), ("goal", nV (goalN gs.length TT ls.length))] from rfl]
    have s1 : Same H0 (upd H c (.ins CC dx [(("turns" : Str), nV TT), ("guests", .ref g), ("goal", nV (goalN gs.length TT ls.length))])) := s0.put c0
    have hc1 : upd H c (.ins CC dx [(("turns" : Str), nV TT), ("guests", .ref g), ("goal", nV (goalN gs.length TT ls.length))]) c = some (.ins CC dx [(("turns" : Str), nV TT), ("guests", .ref g), ("goal", nV (goalN gs.length TT ls.length))]) := upd_same
    generalize upd H c (.ins CC dx [(("turns" : Str), nV TT), ("guests", .ref g), ("goal", nV (goalN gs.length TT ls.length))]) = H1 at s1 hc1 ⊢
    -- self.net = Net(self.goal + 1)
    refine ⟨_, rfl, c, CC, dx, _, _, rfl, hc1, T.cl, T.nO, rfl, _, _, rfl, rfl, fun n dn hn hdn ne => ?_⟩
    have sn : Same H1 (upd (upd H1 dn (.own n)) n (.ins CN dn [])) := fun b o e => by
      rw [upd_ne (ne_of_none e hn), upd_ne (ne_of_none e hdn)]; exact e
    refine ⟨H1, n, dn, cN TT ls gs, rfl, sn, hn, upd_same, by have := cN_le G Y; omega, fun H2 N2 => ⟨rfl, ?_⟩⟩
    have NL2 : NetLay CN TT ls gs H1 H2 n [] := ⟨_, N2, RowOk.nil _⟩
    have hc2 := NL2.same _ _ hc1
    refine ⟨_, rfl, c, CC, dx, _, rfl, hc2, T.cl, T.nN, (by show 3 < 1000; decide), ?_⟩
    rw [show putF "net" (V.ref n) [(("turns" : Str), nV TT), ("guests", .ref g), ("goal", nV (goalN gs.length TT ls.length))] = [(("turns" : Str), nV TT), ("guests", .ref g), ("goal", nV (goalN gs.length TT ls.length)), ("net", .ref n)] from rfl]
    have NL3 := NL2.upd (a := c) (o := .ins CC dx [(("turns" : Str), nV TT), ("guests", .ref g), ("goal", nV (goalN gs.length TT ls.length)), ("net", .ref n)]) (.inl ⟨_, hc1⟩)
    have s3 := s1.put (o := .ins CC dx [(("turns" : Str), nV TT), ("guests", .ref g), ("goal", nV (goalN gs.length TT ls.length)), ("net", .ref n)]) c0
    have hc3 : upd H1 c (.ins CC dx [(("turns" : Str), nV TT), ("guests", .ref g), ("goal", nV (goalN gs.length TT ls.length)), ("net", .ref n)]) c = some (.ins CC dx [(("turns" : Str), nV TT), ("guests", .ref g), ("goal", nV (goalN gs.length TT ls.length)), ("net", .ref n)]) := upd_same
    generalize upd H1 c (.ins CC dx [(("turns" : Str), nV TT), ("guests", .ref g), ("goal", nV (goalN gs.length TT ls.length)), ("net", .ref n)]) = W3 at NL3 s3 hc3
    generalize upd H2 c (.ins CC dx [(("turns" : Str), nV TT), ("guests", .ref g), ("goal", nV (goalN gs.length TT ls.length)), ("net", .ref n)]) = H3 at NL3 ⊢
    -- self.arcs = []
    refine ⟨Nat.zero_le _, fun aa haa => ?_⟩
    have aa3 := NL3.same.free haa
    have aa0 := s3.free aa3
    have NL4 := NL3.upd (a := aa) (o := .lst []) (.inr haa)
    have hc4 : upd W3 aa (.lst []) c = _ := upd_new aa3 hc3
    refine ⟨_, rfl, c, CC, dx, _, rfl, NL4.same _ _ hc4, T.cl, T.nA, (by show 4 < 1000; decide), ?_⟩
    rw [show putF "arcs" (V.ref aa) [(("turns" : Str), nV TT), ("guests", .ref g), ("goal", nV (goalN gs.length TT ls.length)), ("net", .ref n)] = crsF TT g (goalN gs.length TT ls.length) n aa from rfl]
    have NL5 := NL4.upd (a := c) (o := .ins CC dx (crsF TT g (goalN gs.length TT ls.length) n aa)) (.inl ⟨_, hc4⟩)
    have s5 := (s3.put (o := .lst []) aa0).put (o := .ins CC dx (crsF TT g (goalN gs.length TT ls.length) n aa)) c0
    have hc5 : upd (upd W3 aa (.lst [])) c (.ins CC dx (crsF TT g (goalN gs.length TT ls.length) n aa)) c = some (.ins CC dx (crsF TT g (goalN gs.length TT ls.length) n aa)) := upd_same
    have ha5 : upd (upd W3 aa (.lst [])) c (.ins CC dx (crsF TT g (goalN gs.length TT ls.length) n aa)) aa = some (.lst []) := (upd_ne (none_ne aa3 hc3)).trans upd_same
    generalize upd (upd W3 aa (.lst [])) c (.ins CC dx (crsF TT g (goalN gs.length TT ls.length) n aa)) = W5 at NL5 s5 hc5 ha5
    generalize upd (upd H3 aa (.lst [])) c (.ins CC dx (crsF TT g (goalN gs.length TT ls.length) n aa)) = H5 at NL5 ⊢
    have GA : GuestsAt H0 g gs := ⟨ga, hga, lga, hgu⟩
    -- for number in range(len(guests))
    refine ⟨_, rfl, g, _, rfl, .inl (SqL.of (NL5.same _ _ (s5 _ _ hga))), (gs.length : Int), by rw [List.length_map, lga], by omega, by have := G.n8; omega, for_range (lo := 0) (n := ((gs.length : Int)).toNat)
      (fun i σ H6 => ∃ (W : Hp) (v3 : Option V), σ = [some (.ref c), some (.ref y), some (.ref g), v3, none, none, none, none, none] ∧ NetLay CN TT ls gs W H6 n (labGs gs i) ∧ Same H0 W ∧ W c = some (.ins CC dx (crsF TT g (goalN gs.length TT ls.length) n aa)) ∧ ArcsAt W aa gs i)
      ⟨W5, none, rfl, NL5, s5, hc5, [], ha5, rfl, fun j hj => absurd hj (Nat.not_lt_zero j)⟩ ?_ ?_⟩
    · rintro i σ H6 hi ⟨W, v3, rfl, NL6, s6, hc6, as, h6a, las, h6⟩
      have hi' : i < gs.length := by omega
      have e0 : (0 : Int) + (i : Int) = ((i : Nat) : Int) := Int.zero_add _
      rw [e0]
      have hh := NL6.same
      refine ⟨_, rfl, c, CC, dx, _, _, rfl, hh _ _ hc6, T.cl, T.nA, rfl, .inl ⟨rfl, _, SqL.of (hh _ _ h6a)⟩, _, rfl, c, dx, _, rfl, hh _ _ hc6, rfl, _, rfl, tNil_on ?_⟩
      refine ⟨W, c, dx, g, n, aa, _, i, TT, ls, gs, labGs gs i, rfl, hc6, GA.keep s6, hi', Y, G, NL6, by have := labGs_le G Y (k := i) (by omega); have := G.n8; omega, fun H7 p p0 NL7 => ?_⟩
      have h7a : upd W p (.lst ((List.range (stay gs i)).map fun k => nV (2 * ((labGs gs i).length + 1 + k)))) aa = some (.lst (as.map V.ref)) := upd_new p0 h6a
      refine ⟨aa, _, _, rfl, rfl, NL7.same _ _ h7a, (by rw [List.length_map, las]; exact small' (by have := G.n8; omega)), ?_⟩
      have NL8 := NL7.upd (a := aa) (o := .lst (as.map V.ref ++ [.ref p])) (.inl ⟨_, h7a⟩)
      have pa : p ≠ aa := none_ne p0 h6a
      refine ⟨_, _, rfl, by rw [labGs_succ]; exact NL8, (s6.put (s6.free p0)).put aa0, (upd_ne (ne_of hc6 h6a (by intro z; cases z))).trans (upd_new p0 hc6), as ++ [p], by rw [List.map_append]; exact upd_same, by simp [las], fun j hj => ?_⟩
      by_cases ej : j = i
      · subst ej
        refine ⟨p, by rw [List.getElem?_append_right (by omega), las, Nat.sub_self]; rfl, ?_, pa⟩
        refine (upd_ne pa).trans (upd_same.trans ?_)
        unfold arcsOf
        rw [List.map_map]; rfl
      · obtain ⟨a, e1, e2, e3⟩ := h6 j (by omega)
        exact ⟨a, by rw [List.getElem?_append_left (by omega)]; exact e1, (upd_ne e3).trans (upd_new p0 e2), e3⟩
    rintro σ H6 ⟨W, v3, rfl, NL6, s6, hc6, A6⟩
    rw [show ((gs.length : Int)).toNat = gs.length by omega] at NL6 A6
    have hh6 := NL6.same
    -- for line, (above, bounds) in enumerate(yard[1])
    refine ⟨_, rfl, y, _, _, .ref ly, rfl, rfl, SqT.of (hh6 _ _ (s6 _ _ hy1)), rfl, ly, _, rfl, SqT.of (hh6 _ _ (s6 _ _ hy2)), for_it (walk_enT (K := K) (a := ly) (xs := la.map V.ref))
      (fun i σ H7 => ∃ (W : Hp) (v3 v4 v5 v6 v7 v8 : Option V), σ = [some (.ref c), some (.ref y), some (.ref g), v3, v4, v5, v6, v7, v8] ∧ NetLay CN TT ls gs W H7 n (labGs gs gs.length ++ labLs TT i) ∧ Same H0 W ∧ W c = some (.ins CC dx (crsF TT g (goalN gs.length TT ls.length) n aa)) ∧ ArcsAt W aa gs gs.length)
      ⟨W, v3, none, none, none, none, none, rfl, by rw [show labLs TT 0 = [] from rfl, List.append_nil]; exact NL6, s6, hc6, A6⟩ (fun i σ H7 _ ⟨W, _, _, _, _, _, _, _, NL, s, _⟩ => SqT.of (NL.same _ _ (s _ _ hy2))) ?_ ?_⟩
    · rintro i x σ H7 H8 hi ⟨W7, v3, v4, v5, v6, v7, v8, rfl, NL7, s7, hc7, A7⟩ ⟨q, x1, x2, rfl, hq, rfl, hx1, hx2⟩
      have hi' : i < ls.length := by rw [List.length_map, hy3] at hi; exact hi
      cases hx1
      obtain ⟨a, b, ea, hla, hlb⟩ := hy4 i hi'
      have hx2 : (la.map V.ref)[i]? = some x2 := hx2
      rw [List.getElem?_map, ea] at hx2
      cases hx2
      have NL8 := NL7.upd (a := q) (o := .tup [.int (i : Nat), .ref a]) (.inr hq)
      have q7 := NL7.same.free hq
      have s8 := s7.put (o := .tup [.int (i : Nat), .ref a]) (s7.free q7)
      have hc8 : upd W7 q (.tup [.int (i : Nat), .ref a]) c = _ := upd_new q7 hc7
      have A8 := A7.keep (Same.new (o := .tup [.int (i : Nat), .ref a]) q7)
      have hq8 : upd H7 q (.tup [.int (i : Nat), .ref a]) q = some (.tup [.int (i : Nat), .ref a]) := upd_same
      generalize upd W7 q (.tup [.int (i : Nat), .ref a]) = W8 at NL8 s8 hc8 A8
      generalize upd H7 q (.tup [.int (i : Nat), .ref a]) = H8 at NL8 hq8 ⊢
      have hh8 := NL8.same
      refine ⟨q, _, rfl, SqT.of hq8, rfl, _, _, rfl, _, _, rfl, a, _, rfl, SqT.of (hh8 _ _ (s8 _ _ hla)), rfl, _, _, rfl, _, _, rfl, rfl, rfl, ?_⟩
      -- for turn in range(self.turns)
      refine ⟨_, rfl, c, CC, dx, _, _, rfl, hh8 _ _ hc8, T.cl, T.nT, rfl, (TT : Int), rfl, by omega, by have := Y.t8; omega, for_range (lo := 0) (n := ((TT : Int)).toNat)
        (fun t σ H9 => ∃ (W : Hp) (v7 v8 : Option V), σ = [some (.ref c), some (.ref y), some (.ref g), v3, some (nV i), some (optV ls[i]!.above), some (.ref b), v7, v8] ∧ NetLay CN TT ls gs W H9 n (labGs gs gs.length ++ labLs TT i ++ (List.range t).map (Lab.lin i)) ∧ Same H0 W ∧
          W c = some (.ins CC dx (crsF TT g (goalN gs.length TT ls.length) n aa)) ∧ ArcsAt W aa gs gs.length)
        ⟨W8, v7, v8, rfl, by rw [show (List.range 0).map (Lab.lin i) = [] from rfl, List.append_nil]; exact NL8, s8, hc8, A8⟩ ?_ ?_⟩
      · rintro t σ H9 ht ⟨W9, v7, v8, rfl, NL9, s9, hc9, A9⟩
        have ht' : t < TT := by omega
        rw [show (0 : Int) + (t : Int) = ((t : Nat) : Int) from Int.zero_add _]
        have hh9 := NL9.same
        have mem : Lab.lin i t ∈ labs TT ls gs := mem_lin hi' ht'
        have gk := (GA.keep s9).keep hh9
        obtain ⟨ga9, hga9, lga9, _⟩ := gk
        have hl5 := Y.l5
        have llen : (labGs gs gs.length ++ labLs TT i ++ (List.range t).map (Lab.lin i)).length ≤ 200 := by
          rw [List.length_append, List.length_append, labLs_len, List.length_map, List.length_range]
          have := labGs_le G Y (Nat.le_refl gs.length)
          have := G.n8
          have := mul_le_of Y.t8 (show i ≤ 5 by omega)
          have := Y.t8
          omega
        obtain ⟨dxn, fsn, hn9, ln9, _⟩ := NL9.obj
        -- the call of lay, for whatever end is
        have last : ∀ (e : Int), ((lv TT ls gs (.lin i t) : Nat) : Int) = e → tDrop (tMeth CN "lay" (spLay CN) [] C8.E0 (tFld K (tVar 0) "net") (tCons (tMeth CC "place_of" (spPlace CC) [] C8.E0 (tVar 0) (tCons (tVar 4) (tCons (tVar 7) tNil))) (tCons (tVar 8) (tCons (tOp (rIxT K) (tVar 6) (tVar 7)) tNil))))
            { nx := fun σ H' => ∃ (W : Hp) (v7 v8 : Option V), σ = [some (.ref c), some (.ref y), some (.ref g), v3, some (nV i), some (optV ls[i]!.above), some (.ref b), v7, v8] ∧ NetLay CN TT ls gs W H' n (labGs gs gs.length ++ labLs TT i ++ (List.range (t + 1)).map (Lab.lin i)) ∧ Same H0 W ∧
              W c = some (.ins CC dx (crsF TT g (goalN gs.length TT ls.length) n aa)) ∧ ArcsAt W aa gs gs.length, rt := Q }
            [some (.ref c), some (.ref y), some (.ref g), v3, some (nV i), some (optV ls[i]!.above), some (.ref b), some (nV t), some (.int e)] H9 := fun e he => by
          refine ⟨_, rfl, c, CC, dx, _, _, rfl, hh9 _ _ hc9, T.cl, T.nN, rfl, n, dxn, fsn, rfl, hn9, ln9, _, rfl, c, dx, _, rfl, hh9 _ _ hc9, rfl, _, rfl, _, rfl, tNil_on ?_⟩
          refine ⟨c, dx, g, n, aa, TT, _, gs.length, i, t, _, rfl, hh9 _ _ hc9, hga9, by rw [List.length_map, lga9], by omega, _, rfl, _, rfl, _, rfl, b, _, _, _, rfl, rfl, SqT.of (hh9 _ _ (s9 _ _ hlb)), atI_nat (bnd_at Y hi' ht'), tNil_on ?_⟩
          refine lay_step (b := .lin i t) NL9 llen rfl he rfl (lu_lt G mem) (lv_lt G Y mem) fun H10 NL10 => ?_
          exact ⟨W9, _, _, rfl, by rw [List.range_succ, List.map_append, ← List.append_assoc]; exact NL10, s9, hc9, A9⟩
        -- end = self.goal
        refine ⟨_, rfl, c, CC, dx, _, _, rfl, hh9 _ _ hc9, T.cl, T.nO, rfl, ?_⟩
        -- if above is not None
        refine ⟨_, rfl, rfl, _, rfl, ?_⟩
        cases hab : ls[i]!.above with
        | none =>
          rw [hab] at last
          refine iteF ?_
          refine last _ ?_
          show (((match ls[i]!.above with | none => goalN gs.length TT ls.length | some a => place gs.length TT a t) : Nat) : Int) = _
          rw [hab]
        | some ab =>
          have ab5 := Y.abv i hi' ab hab
          rw [hab] at last
          refine iteT ?_
          refine ⟨_, rfl, c, dx, _, rfl, hh9 _ _ hc9, rfl, _, rfl, _, rfl, tNil_on ?_⟩
          refine ⟨c, dx, g, n, aa, TT, _, gs.length, ab, t, _, rfl, hh9 _ _ hc9, hga9, by rw [List.length_map, lga9], by omega, ?_⟩
          refine last _ ?_
          show (((match ls[i]!.above with | none => goalN gs.length TT ls.length | some a => place gs.length TT a t) : Nat) : Int) = _
          rw [hab]
      · rintro σ H9 ⟨W9, v7, v8, rfl, NL9, s9, hc9, A9⟩
        rw [show ((TT : Int)).toNat = TT by omega] at NL9
        refine ⟨W9, _, _, _, _, _, _, rfl, by rw [labLs_succ, ← List.append_assoc]; exact NL9, s9, hc9, A9⟩
    rintro σ H7 ⟨W7, v3, v4, v5, v6, v7, v8, rfl, NL7, s7, hc7, A7⟩
    rw [List.length_map, hy3] at NL7
    -- self.sent = self.net.send(0, self.goal)
    have NL8 : NetLay CN TT ls gs W7 H7 n (labs TT ls gs) := NL7
    obtain ⟨R, NA, RO⟩ := id NL8
    obtain ⟨dxn, fsn, hn7, _, sn7⟩ := NL8.obj
    have hh7 := NL8.same
    have WF : Wf (cE TT ls gs) (cL TT ls gs) R (cN TT ls gs) := ⟨RO.rn, by rw [cL_len, cE_len], by rw [cE_len]; have := labs_le G Y; show 2 * (labs TT ls gs).length ≤ 1000; omega, by have := cN_le G Y; omega, fun a ha => cE_lt G Y a (by rw [cE_len] at ha; exact ha), fun a ha => by rw [cE_len] at ha ⊢; exact mate_lt ha, RO.row⟩
    have g0 := lt_goal (n := gs.length) (T := TT) (nl := ls.length)
    refine ⟨_, rfl, c, CC, dx, _, _, rfl, hh7 _ _ hc7, T.cl, T.nN, rfl, n, dxn, fsn, rfl, hn7, sn7, _, rfl, c, CC, dx, _, _, rfl, hh7 _ _ hc7, T.cl, T.nO, rfl, tNil_on ?_⟩
    refine ⟨W7, n, 0, goalN gs.length TT ls.length, cN TT ls gs, cM TT ls gs, cCap TT ls gs, cE TT ls gs, cL TT ls gs, R, rfl, NA, WF, by show 0 < goalN _ _ _ + 1; omega, by omega, sent_begin G Y, fun H8 L8 tot F NA8 S8 O8 ht8 => ?_⟩
    have hc8 := NA8.same _ _ hc7
    refine ⟨_, rfl, c, CC, dx, _, rfl, hc8, T.cl, T.nS, (by show 5 < 1000; decide), ?_⟩
    have NA9 := NA8.upd (a := c) (o := .ins CC dx (crsF2 TT g (goalN gs.length TT ls.length) n aa tot)) (.inl ⟨_, hc7⟩)
    have s9 : Same H0 (upd H8 c (.ins CC dx (crsF2 TT g (goalN gs.length TT ls.length) n aa tot))) := (s7.put c0).trans NA9.same
    refine k _ L8 tot F s9 ?_
    obtain ⟨ss, _, ae, al, ar, ra, N9, _⟩ := NA9
    exact ⟨dx, g, n, aa, ae, al, ar, ra, R, upd_same, GA.keep s9, (A7.put hc7).keep ss, N9, WF.len (by rw [S8.ll, cL_len]), S8, O8, ht8⟩
end
end Cy
end
section
namespace Cy
open PySem L2 NM
def xOf (T : Nat) (ls : List Ln) (gs : List Gu) (L : List Int) (i t : Nat) : Int := if gs[i]!.first ≤ t ∧ t ≤ gs[i]!.last then phiL T ls gs L (.gst i t) else 0
def rowsOf (T : Nat) (n : Nat) (x : Nat → Nat → Int) : List (List Int) := (List.range n).map fun i => (List.range T).map (x i)
def RowsAt (H : Hp) (p : Addr) (T n : Nat) (x : Nat → Nat → Int) : Prop := ∃ ra : List Addr, H p = some (.lst (ra.map V.ref)) ∧ ra.length = n ∧ ∀ i, i < n → ∃ a : Addr, ra[i]? = some a ∧ H a = some (.lst ((List.range T).map fun t => V.int (x i t)))
def spLack (CN CC : Addr) : Sp := fun vs H Q _ => ∃ (c : Addr) (T : Nat) (ls : List Ln) (gs : List Gu) (L : List Int) (tot : Int) (F : List (Nat × Option Nat)), vs = [.ref c] ∧ CrsAt CN CC H c T ls gs L tot F ∧ GuOk T ls.length gs ∧ ∀ H', Same H H' → Q (.int (wants gs - tot)) H'
def spFilling (CN CC : Addr) : Sp := fun vs H Q _ => ∃ (c : Addr) (T : Nat) (ls : List Ln) (gs : List Gu) (L : List Int) (tot : Int) (F : List (Nat × Option Nat)), vs = [.ref c] ∧ CrsAt CN CC H c T ls gs L tot F ∧ GuOk T ls.length gs ∧ YaOk T ls ∧
  ∀ H' p, Same H H' → H p = none → RowsAt H' p T gs.length (xOf T ls gs L) → Q (.ref p) H'
def spReached (CN CC : Addr) : Sp := fun vs H Q _ => ∃ (c : Addr) (T : Nat) (ls : List Ln) (gs : List Gu) (L : List Int) (tot : Int) (F : List (Nat × Option Nat)), vs = [.ref c] ∧ CrsAt CN CC H c T ls gs L tot F ∧ GuOk T ls.length gs ∧
  ∀ H' p (ks : List Nat), Same H H' → H p = none → H' p = some (.lst (ks.map nV)) → (∀ k ∈ ks, k < gs.length) → ks.length ≤ gs.length → Q (.ref p) H'
section
variable {P : Program} {w : World} {K : PySem.W.Frag} {mg : Str → Option Value} {base : Heap}
theorem wants_sum (gs : List Gu) : wants gs = (gs.map (·.want)).sum := sumTo_list (fun u : Gu => u.want) gs
theorem getB {α : Type} [Inhabited α] {l : List α} {i : Nat} (h : i < l.length) : l[i]? = some l[i]! := by rw [List.getElem?_eq_getElem h, getElem!_pos l i h]
theorem ok_lack {f CN CC : Addr} {fd : FuncData} (Fn : Fun K "lack" "Course.lack" sCrsLack f fd) (T : TxCrs K mg CC) : FnOk P w K mg base CX0 1 f fd ["self"] (spLack CN CC) := by
  refine Fn.ok scCrsLack (fun vs H Q E h => ?_) (fun cdv A outer sh H vs Q Ex hr h => ?_)
  · obtain ⟨c, TT, ls, gs, L, tot, F, rfl, _⟩ := h
    rfl
  · obtain ⟨c, TT, ls, gs, L, tot, F, rfl, ⟨dx, g, n, aa, ae, al, ar, ra, R, I⟩, G, k⟩ := h
    have nd := scCrsLack.nd
    refine ⟨_, pss_one (ps_ret (pe_op op_sub (pe_callB (cr_sum rfl) (by rfl) T.sum (by decide +kernel) (pa_cons (pe_lc (own := [("guest", 1)]) (g := gName 1) (tt := tYes) (te := tOp (rIxT K) (tVar 1) (tC (.int 3))) rfl nd (pi_list (pe_fld (pv 0) rfl)) (blkOk_by (N := ["self", "guest"]) (sc := defScope sCrsLack) (by decide +kernel))
      (fun _ _ _ _ _ => pg_name (i := 1) nd rfl (.inl rfl)) (fun _ _ _ _ _ => pts_nil) (fun _ _ _ _ _ => pe_ix ix_tup (pv 1) pe_int (fun _ _ => rfl))) pa_nil)) (pe_fld (pv 0) rfl))), ?_⟩
    obtain ⟨ga, hga, lga, hgu⟩ := I.gu
    refine ⟨_, rfl, c, CC, dx, _, _, rfl, I.obj, T.cl, T.nG, rfl, g, rfl, ⟨_, SqL.of hga⟩, fun D hD => lc_list (K := K) (a := g) (xs := ga.map V.ref) (fun i H1 => Same H H1 ∧ H1 D = some (.lst (((gs.take i).map (·.want)).map V.int))) ⟨Same.new hD, upd_same⟩ (fun i H1 _ h => SqL.of (h.1 _ _ hga)) ?_ ?_⟩
    · rintro i x H1 hi ⟨s1, h1⟩
      have hi' : i < gs.length := by
        have := (List.getElem?_eq_some_iff.mp hi).1
        rw [List.length_map, lga] at this; exact this
      obtain ⟨a, ha, hau⟩ := hgu i hi'
      rw [List.getElem?_map, ha] at hi
      cases hi
      refine ⟨rfl, tYes_on (iteT ?_)⟩
      refine ⟨_, rfl, a, _, _, .int gs[i]!.want, rfl, rfl, SqT.of (s1 _ _ hau), rfl, _, h1, ?_, s1.put hD, ?_⟩
      · rw [List.length_map, List.length_map, List.length_take]; exact small' (by have := G.n8; omega)
      · rw [take_snoc (getB hi'), List.map_append, List.map_append]; exact upd_same
    · rintro H1 ⟨s1, h1⟩
      rw [List.length_map, lga, List.take_length] at h1
      refine ⟨D, _, rfl, SqL.of h1, _, rfl, c, CC, dx, _, _, rfl, s1 _ _ I.obj, T.cl, T.nS, rfl, _, _, rfl, rfl, ?_⟩
      rw [← wants_sum]
      exact k H1 s1
theorem ok_reached {f CN CC : Addr} {fd : FuncData} (Fn : Fun K "reached" "Course.reached" sCrsReached f fd) (T : TxCrs K mg CC) (MC : C8.Met P w K mg base 1 CN "come_by" (spComeBy CN) []) : FnOk P w K mg base CX0 2 f fd ["self"] (spReached CN CC) := by
  refine Fn.ok scCrsReached (fun vs H Q E h => ?_) (fun cdv A outer sh H vs Q Ex hr h => ?_)
  · obtain ⟨c, TT, ls, gs, L, tot, F, rfl, _⟩ := h
    rfl
  · obtain ⟨c, TT, ls, gs, L, tot, F, rfl, ⟨dx, g, n, aa, ae, al, ar, ra, R, I⟩, G, k⟩ := h
    have nd := scCrsReached.nd
    have hu := hu_of hr
    refine ⟨_,
      pss_cons (ps_set (i := 1) nd rfl (.inr rfl) (C8.pe_mt MC hr (by decide) (pe_fld (pv 0) rfl) (pa_cons pe_int pa_nil))) <|
      pss_one (ps_ret (pe_lc (own := [("number", 2)]) (g := gName 2) (tt := tB (tDIn (tOp (rI0 fun i j => .int (i + j)) (tC (.int 1)) (tVar 2)) (tVar 1))) (te := tVar 2) rfl nd (pi_range1 (by rfl) T.range (pa_cons (pe_callB call_len_seq (by rfl) T.len boot_len (pa_cons (pe_fld (pv 0) rfl) pa_nil)) pa_nil))
        (blkOk_by (N := ["self", "found", "number"]) (sc := defScope sCrsReached) (by decide +kernel)) (fun _ _ _ _ _ => pg_name (i := 2) nd rfl (.inl rfl)) (fun _ _ _ _ _ => pts_one (pt_cmp (pc_din hu (pe_op op_add pe_int (pv 2)) (pv 1)))) (fun _ _ _ _ _ => pv 2))), ?_⟩
    obtain ⟨dxn, obn⟩ := I.net.obj
    obtain ⟨ga, hga, lga, hgu⟩ := I.gu
    refine ⟨_, rfl, c, CC, dx, _, _, rfl, I.obj, T.cl, T.nN, rfl, n, dxn, _, rfl, obn, rfl, ?_⟩
    refine ⟨n, ae, al, ar, ra, 0, cN TT ls gs, _, L, R, rfl, I.net, I.wf, by show 0 < goalN _ _ _ + 1; omega, fun H1 d F1 s1 d0 h1d O => ?_⟩
    refine ⟨_, rfl, c, CC, dx, _, _, rfl, s1 _ _ I.obj, T.cl, T.nG, rfl, g, _, rfl, .inl (SqL.of (s1 _ _ hga)), (gs.length : Int), by rw [List.length_map, lga], by omega, by have := G.n8; omega, fun D hD => ?_⟩
    refine lc_range (lo := 0) (n := ((gs.length : Int)).toNat) (fun i H2 => Same H1 H2 ∧ ∃ ks : List Nat, H2 D = some (.lst (ks.map nV)) ∧ (∀ k ∈ ks, k < gs.length) ∧ ks.length ≤ i) ⟨Same.new hD, [], upd_same, by simp, Nat.le_refl _⟩ ?_ ?_
    · rintro i H2 hi ⟨s2, ks, h2, hk, hl⟩
      refine ⟨rfl, ?_⟩
      rw [show (0 : Int) + (i : Int) = ((i : Nat) : Int) from Int.zero_add _]
      refine ⟨_, rfl, _, _, rfl, rfl, _, rfl, d, _, rfl, DGet.k (k := Sum.inl (1 + ((i : Nat) : Int))) (s2 _ _ h1d), _, rfl, ?_⟩
      refine ite2 (fun _ => ?_) (fun _ => ?_)
      · refine ⟨_, rfl, _, h2, by rw [List.length_map]; exact small' (by have := G.n8; omega), s2.put hD, ks ++ [i], by rw [List.map_append]; exact upd_same, fun k hk' => ?_, by simp; omega⟩
        rcases List.mem_append.mp hk' with z | z
        · exact hk k z
        · have e : k = i := by simpa using z
          omega
      · exact ⟨s2, ks, h2, hk, by omega⟩
    · rintro H2 ⟨s2, ks, h2, hk, hl⟩
      exact k H2 D ks (s1.trans s2) (s1.free hD) h2 hk (by omega)
theorem rep_flat (n : Nat) (x : V) : (List.replicate n [x]).flatten = (List.range n).map fun _ => x := by
  rw [List.map_const', List.length_range]
  simp
theorem set_range {n j : Nat} (f : Nat → V) (v : V) : ((List.range n).map f).set j v = (List.range n).map fun t => if t = j then v else f t := by
  apply List.ext_getElem?
  intro i
  rw [List.getElem?_set, List.getElem?_map, List.getElem?_map]
  by_cases e : j = i
  · subst e
    rw [if_pos rfl, List.length_map, List.length_range]
    by_cases h : j < n
    · rw [if_pos h, List.getElem?_range h]; simp
    · rw [if_neg h, List.getElem?_eq_none (by simpa using h)]; rfl
  · rw [if_neg e]
    by_cases h : i < n
    · rw [List.getElem?_range h]; simp [Ne.symm e]
    · rw [List.getElem?_eq_none (by simpa using h)]; rfl
theorem ok_filling {f CN CC : Addr} {fd : FuncData} (Fn : Fun K "filling" "Course.filling" sCrsFilling f fd) (T : TxCrs K mg CC) (MB : C8.Met P w K mg base 1 CN "sent_by" (spSentBy CN) []) : FnOk P w K mg base CX0 2 f fd ["self"] (spFilling CN CC) := by
  refine Fn.ok scCrsFilling (fun vs H Q E h => ?_) (fun cdv A outer sh H vs Q Ex hr h => ?_)
  · obtain ⟨c, TT, ls, gs, L, tot, F, rfl, _⟩ := h
    rfl
  · obtain ⟨c, TT, ls, gs, L, tot, F, rfl, ⟨dx, g, n, aa, ae, al, ar, ra, R, I⟩, G, Y, k⟩ := h
    have nd := scCrsFilling.nd
    have hu := hu_of hr
    refine ⟨_,
      pss_cons (ps_set (i := 1) nd rfl (.inl rfl) (pe_lst pa_nil)) <|
      pss_cons (ps_for PassesOwn.never rfl (pi_zip (by rfl) T.zip (pa_cons (pe_fld (pv 0) rfl) (pa_cons (pe_fld (pv 0) rfl) pa_nil))) (pg_tup rfl (pgs_cons (pg_name (i := 2) nd rfl (.inl rfl)) (pgs_cons (pg_name (i := 3) nd rfl (.inl rfl)) pgs_nil)))
        (pss_cons (ps_set (i := 4) nd rfl (.inl rfl) (pe_op op_rep (pe_lst (pa_cons pe_int pa_nil)) (pe_fld (pv 0) rfl))) <|
         pss_cons (ps_for PassesOwn.never rfl (pi_enum (by rfl) T.enum (pa_cons (pv 3) pa_nil)) (pg_tup rfl (pgs_cons (pg_name (i := 5) nd rfl (.inl rfl)) (pgs_cons (pg_name (i := 6) nd rfl (.inl rfl)) pgs_nil)))
           (pss_one (ps_asg (C8.pe_mt MB hr (by decide) (pe_fld (pv 0) rfl) (pa_cons (pv 6) pa_nil)) (pg_sub (pv 4) (pe_op op_add (pe_ix ix_tup (pv 2) pe_int (fun _ _ => rfl)) (pv 5)) set_list)))) <|
         pss_one (ps_expr (pe_bm PySem.F.plainAttrs_list PySem.F.slot_list_append PySem.F.type_list_append mt_append (pv 1) (pa_cons (pv 4) pa_nil))))) <|
      pss_one (ps_ret (pv 1)), ?_⟩
    obtain ⟨ga, hga, lga, hgu⟩ := I.gu
    obtain ⟨as, has, las, hau⟩ := I.arcs
    refine ⟨Nat.zero_le _, fun D hD => ?_⟩
    have sD := Same.new (o := .lst []) hD
    -- for guest, arcs in zip(self.guests, self.arcs)
    refine ⟨_, rfl, c, CC, dx, _, _, rfl, sD _ _ I.obj, T.cl, T.nG, rfl, _, rfl, c, CC, dx, _, _, rfl, sD _ _ I.obj, T.cl, T.nA, rfl, g, aa, _, _, rfl, SqL.of (sD _ _ hga), SqL.of (sD _ _ has), for_it (walk_zip (K := K) (a := g) (b := aa) (xs := ga.map V.ref) (ys := as.map V.ref) (n := gs.length) (by rw [List.length_map, List.length_map, lga, las, Nat.min_self]))
      (fun i σ H1 => ∃ (v2 v3 v4 v5 v6 : Option V) (rs : List Addr), σ = [some (.ref c), some (.ref D), v2, v3, v4, v5, v6] ∧ Same H H1 ∧ H1 D = some (.lst (rs.map V.ref)) ∧ rs.length = i ∧ ∀ j, j < i → ∃ a : Addr, rs[j]? = some a ∧ a ≠ D ∧ H1 a = some (.lst ((List.range TT).map fun t => V.int (xOf TT ls gs L j t))))
      ⟨none, none, none, none, none, [], rfl, sD, upd_same, rfl, fun j hj => absurd hj (Nat.not_lt_zero j)⟩ (fun i σ H1 _ ⟨_, _, _, _, _, _, _, s, _⟩ => ⟨SqL.of (s _ _ hga), SqL.of (s _ _ has)⟩) ?_ ?_⟩
    · rintro i x σ H1 H2 hi ⟨v2, v3, v4, v5, v6, rs, rfl, s1, h1D, lrs, h1⟩ ⟨q, x1, x2, rfl, hq, rfl, hx1, hx2⟩
      obtain ⟨a, ha, hua⟩ := hgu i hi
      obtain ⟨b, hb, hub, _⟩ := hau i hi
      have hx1 : (ga.map V.ref)[i]? = some x1 := hx1
      have hx2 : (as.map V.ref)[i]? = some x2 := hx2
      rw [List.getElem?_map, ha] at hx1
      rw [List.getElem?_map, hb] at hx2
      cases hx1
      cases hx2
      have s2 : Same H (upd H1 q (.tup [.ref a, .ref b])) := s1.put (s1.free hq)
      have h2D : upd H1 q (.tup [.ref a, .ref b]) D = some (.lst (rs.map V.ref)) := upd_new hq h1D
      have h2 : ∀ j, j < i → ∃ a2 : Addr, rs[j]? = some a2 ∧ a2 ≠ D ∧ upd H1 q (.tup [.ref a, .ref b]) a2 = some (.lst ((List.range TT).map fun t => V.int (xOf TT ls gs L j t))) := fun j hj => let ⟨a, e1, e2, e3⟩ := h1 j hj; ⟨a, e1, e2, upd_new hq e3⟩
      refine ⟨q, _, rfl, SqT.of upd_same, rfl, _, _, rfl, _, _, rfl, rfl, ?_⟩
      generalize upd H1 q (.tup [.ref a, .ref b]) = H2 at s2 h2D h2 ⊢
      -- row = [0] * self.turns
      refine ⟨(by show 1 ≤ sizeLine; decide), fun z hz => ?_⟩
      have s3 : Same H (upd H2 z (.lst [.int 0])) := s2.put (s2.free hz)
      refine ⟨_, rfl, c, CC, dx, _, _, rfl, s3 _ _ I.obj, T.cl, T.nT, rfl, z, (TT : Int), _, rfl, rfl, upd_same, by omega, by have := Y.t8; omega, (by have := Y.t8; show 1 * ((TT : Int)).toNat ≤ sizeLine; exact small (by omega)), fun r hrr => ?_⟩
      have h3D : upd H2 z (.lst [.int 0]) D = some (.lst (rs.map V.ref)) := upd_new hz h2D
      have h3 : ∀ j, j < i → ∃ a2 : Addr, rs[j]? = some a2 ∧ a2 ≠ D ∧ upd H2 z (.lst [.int 0]) a2 = some (.lst ((List.range TT).map fun t => V.int (xOf TT ls gs L j t))) := fun j hj => let ⟨a, e1, e2, e3⟩ := h2 j hj; ⟨a, e1, e2, upd_new hz e3⟩
      generalize upd H2 z (.lst [.int 0]) = H3 at s3 h3D h3 hrr ⊢
      have hf := G.fl i hi
      have hlt := G.lt i hi
      have hT8 := Y.t8
      have rD : r ≠ D := none_ne hrr h3D
      have rR : ∀ (j : Nat) (a2 : Addr), j < i → rs[j]? = some a2 → a2 ≠ r := fun j a2 hj e => by
        obtain ⟨a3, e1, _, e3⟩ := h3 j hj
        rw [e] at e1
        cases e1
        exact ne_of_none e3 hrr
      have s4 : Same H (upd H3 r (.lst ((List.replicate ((TT : Int)).toNat [V.int 0]).flatten))) := s3.put (s3.free hrr)
      have h4D := upd_new (o := .lst ((List.replicate ((TT : Int)).toNat [V.int 0]).flatten)) hrr h3D
      have h4 : ∀ j, j < i → ∃ a2 : Addr, rs[j]? = some a2 ∧ a2 ≠ D ∧ upd H3 r (.lst ((List.replicate ((TT : Int)).toNat [V.int 0]).flatten)) a2 = some (.lst ((List.range TT).map fun t => V.int (xOf TT ls gs L j t))) := fun j hj => let ⟨a, e1, e2, e3⟩ := h3 j hj; ⟨a, e1, e2, upd_new hrr e3⟩
      have h4r : upd H3 r (.lst ((List.replicate ((TT : Int)).toNat [V.int 0]).flatten)) r = some (.lst ((List.range TT).map fun t => V.int (if gs[i]!.first ≤ t ∧ t < gs[i]!.first + 0 then phiL TT ls gs L (.gst i t) else 0))) := by
        rw [upd_same, rep_flat]
        congr 3
        funext t
        rw [if_neg (by omega)]
      have r0 : H r = none := s3.free hrr
      dsimp only
      generalize upd H3 r (.lst ((List.replicate ((TT : Int)).toNat [V.int 0]).flatten)) = H4 at s4 h4D h4 h4r ⊢
      -- for k, arc in enumerate(arcs)
      refine ⟨_, rfl, b, _, rfl, SqL.of (s4 _ _ hub), for_it (walk_enum (K := K) (a := b) (xs := (arcsOf gs i).map nV))
        (fun kk σ H5 => ∃ v5 v6 : Option V, σ = [some (.ref c), some (.ref D), some (.ref a), some (.ref b), some (.ref r), v5, v6] ∧ Same H H5 ∧ H5 D = some (.lst (rs.map V.ref)) ∧
          (∀ j, j < i → ∃ a2 : Addr, rs[j]? = some a2 ∧ a2 ≠ D ∧ H5 a2 = some (.lst ((List.range TT).map fun t => V.int (xOf TT ls gs L j t)))) ∧
          H5 r = some (.lst ((List.range TT).map fun t => V.int (if gs[i]!.first ≤ t ∧ t < gs[i]!.first + kk then phiL TT ls gs L (.gst i t) else 0))))
        ⟨v5, v6, rfl, s4, h4D, h4, h4r⟩ (fun kk σ H5 _ ⟨_, _, _, s, _⟩ => SqL.of (s _ _ hub)) ?_ ?_⟩
      · rintro kk x σ H5 H6 hk ⟨v5, v6, rfl, s5, h5D, h5, h5r⟩ ⟨q, x1, x2, rfl, hq, rfl, hx1, hx2⟩
        cases hx1
        have hx2 : ((arcsOf gs i).map nV)[kk]? = some x2 := hx2
        have hk' : kk < stay gs i := by
          have := hk
          unfold arcsOf at this
          rw [List.length_map, List.length_map, List.length_range] at this
          exact this
        have ex2 : x2 = nV (2 * ((labGs gs i).length + 1 + kk)) := by
          unfold arcsOf at hx2
          rw [List.map_map, List.getElem?_map, List.getElem?_range hk'] at hx2
          exact (Option.some.inj hx2).symm
        subst ex2
        have s6 : Same H (upd H5 q (.tup [.int (kk : Nat), nV (2 * ((labGs gs i).length + 1 + kk))])) := s5.put (s5.free hq)
        have h6D := upd_new (o := .tup [.int (kk : Nat), nV (2 * ((labGs gs i).length + 1 + kk))]) hq h5D
        have h6r := upd_new (o := .tup [.int (kk : Nat), nV (2 * ((labGs gs i).length + 1 + kk))]) hq h5r
        have h6 : ∀ j, j < i → ∃ a2 : Addr, rs[j]? = some a2 ∧ a2 ≠ D ∧ upd H5 q (.tup [.int (kk : Nat), nV (2 * ((labGs gs i).length + 1 + kk))]) a2 = some (.lst ((List.range TT).map fun t => V.int (xOf TT ls gs L j t))) := fun j hj => let ⟨a, e1, e2, e3⟩ := h5 j hj; ⟨a, e1, e2, upd_new hq e3⟩
        refine ⟨q, _, rfl, SqT.of upd_same, rfl, _, _, rfl, _, _, rfl, rfl, ?_⟩
        generalize upd H5 q (.tup [.int (kk : Nat), nV (2 * ((labGs gs i).length + 1 + kk))]) = H6 at s6 h6D h6r h6 ⊢
        -- row[guest[1] + k] = self.net.sent_by(arc)
        have N6 := I.net.keep s6
        obtain ⟨dxn, obn⟩ := N6.obj
        have hidx := arc_at (T := TT) (ls := ls) hi hk'
        have hm : (labGs gs i).length + 1 + kk < cM TT ls gs := (List.getElem?_eq_some_iff.mp hidx).1
        have hml : mate (2 * ((labGs gs i).length + 1 + kk)) < L.length := by rw [I.done.sent.ll]; exact mate_lt (by omega)
        have hix : gs[i]!.first + kk < TT := by unfold stay at hk'; omega
        refine ⟨_, rfl, c, CC, dx, _, _, rfl, s6 _ _ I.obj, T.cl, T.nN, rfl, n, dxn, _, rfl, obn, rfl, _, rfl, ?_⟩
        refine ⟨n, ae, al, ar, ra, _, _, L, R, rfl, N6, hml, _, rfl, _, rfl, a, _, _, nV gs[i]!.first, rfl, rfl, SqT.of (s6 _ _ hua), rfl, _, rfl, _, _, rfl, rfl, r, _, _, gs[i]!.first + kk, rfl, rfl, h6r, ?_, ?_⟩
        · rw [List.length_map, List.length_range]
          exact ixN_nat hix
        · rw [mate_even, set_range]
          have ephi : gi L (2 * ((labGs gs i).length + 1 + kk) + 1) = phiL TT ls gs L (.gst i (gs[i]!.first + kk)) := (phiL_at hidx).symm
          refine ⟨_, _, rfl, s6.put r0, (upd_ne rD.symm).trans h6D, fun j hj => ?_, ?_⟩
          · obtain ⟨a2, e1, e2, e3⟩ := h6 j hj
            exact ⟨a2, e1, e2, (upd_ne (rR j a2 hj e1)).trans e3⟩
          · rw [upd_same]
            congr 3
            funext t
            by_cases e : t = gs[i]!.first + kk
            · rw [if_pos e, if_pos (by omega), ephi, e]
            · rw [if_neg e]
              by_cases e2 : gs[i]!.first ≤ t ∧ t < gs[i]!.first + kk
              · rw [if_pos e2, if_pos (by omega)]
              · rw [if_neg e2, if_neg (by omega)]
      · rintro σ H5 ⟨v5, v6, rfl, s5, h5D, h5, h5r⟩
        -- found.append(row)
        refine ⟨_, rfl, .inl ⟨rfl, _, SqL.of h5D⟩, _, rfl, D, _, _, rfl, rfl, h5D, (by rw [List.length_map, lrs]; exact small' (by have := G.n8; omega)), ?_⟩
        refine ⟨_, _, _, _, _, rs ++ [r], rfl, s5.put hD, by rw [List.map_append]; exact upd_same, by simp [lrs], fun j hj => ?_⟩
        by_cases ej : j = i
        · subst ej
          refine ⟨r, by rw [List.getElem?_append_right (by omega), lrs, Nat.sub_self]; rfl, rD, (upd_ne rD).trans (h5r.trans ?_)⟩
          congr 3
          funext t
          unfold xOf arcsOf
          rw [List.length_map, List.length_map, List.length_range]
          unfold stay
          by_cases e2 : gs[j]!.first ≤ t ∧ t ≤ gs[j]!.last
          · rw [if_pos e2, if_pos (by omega)]
          · rw [if_neg e2, if_neg (by omega)]
        · obtain ⟨a2, e1, e2, e3⟩ := h5 j (by omega)
          exact ⟨a2, by rw [List.getElem?_append_left (by omega)]; exact e1, e2, (upd_ne e2).trans e3⟩
    · rintro σ H1 ⟨v2, v3, v4, v5, v6, rs, rfl, s1, h1D, lrs, h1⟩
      refine ⟨_, rfl, k H1 D s1 hD ⟨rs, h1D, lrs, fun i hi => let ⟨a, e1, _, e3⟩ := h1 i hi; ⟨a, e1, e3⟩⟩⟩
end
end Cy
end
section
namespace Cy
open PySem L2 NM
def spLeast : Sp := fun vs H Q _ => ∃ (y g : Addr) (T : Nat) (ls : List Ln) (gs : List Gu), vs = [.ref y, .ref g] ∧ YardAt H y T ls ∧ GuestsAt H g gs ∧ YaOk T ls ∧ GuOk T ls.length gs ∧
  ∀ H' L tot F, Same H H' → Done T ls gs L tot F → Q (.int (wants gs - tot)) H'
def spBest : Sp := fun vs H Q _ => ∃ (y g : Addr) (T : Nat) (ls : List Ln) (gs : List Gu), vs = [.ref y, .ref g] ∧ YardAt H y T ls ∧ GuestsAt H g gs ∧ YaOk T ls ∧ GuOk T ls.length gs ∧
  ∀ H' p L tot F, Same H H' → H p = none → Done T ls gs L tot F → RowsAt H' p T gs.length (xOf T ls gs L) → Q (.ref p) H'
def spLacking : Sp := fun vs H Q _ => ∃ (y g : Addr) (T : Nat) (ls : List Ln) (gs : List Gu), vs = [.ref y, .ref g] ∧ YardAt H y T ls ∧ GuestsAt H g gs ∧ YaOk T ls ∧ GuOk T ls.length gs ∧
  ∀ H' p (ks : List Nat), Same H H' → H p = none → H' p = some (.lst (ks.map nV)) → (∀ k ∈ ks, k < gs.length) → ks.length ≤ gs.length → Q (.ref p) H'
section
variable {P : Program} {w : World} {K : PySem.W.Frag} {mg : Str → Option Value} {base : Heap}
theorem made_same {H : Hp} {x dx C : Addr} (hx : H x = none) (hdx : H dx = none) : Same H (upd (upd H dx (.own x)) x (.ins C dx [])) := fun b o e => by
  rw [upd_ne (ne_of_none e hx), upd_ne (ne_of_none e hdx)]; exact e
theorem ok_least {f CN CC : Addr} {fd : FuncData} (Fn : Fun K "least_lack" "least_lack" sLeast f fd) (MM : C8.Mak P w K mg base 3 "Course" CC (spCrsInit CN CC) []) (ML : C8.Met P w K mg base 1 CC "lack" (spLack CN CC) []) : FnOk P w K mg base CX0 5 f fd ["yard", "guests"] spLeast := by
  refine Fn.ok scLeast (fun vs H Q E h => ?_) (fun cdv A outer sh H vs Q Ex hr h => ?_)
  · obtain ⟨y, g, TT, ls, gs, rfl, _⟩ := h
    rfl
  · obtain ⟨y, g, TT, ls, gs, rfl, hy, hg, Y, G, k⟩ := h
    refine ⟨_, pss_one (ps_ret (C8.pe_mt0 ML hr (by decide) (C8.pe_mk MM hr (by decide) (by rfl) (pa_cons (pv 0) (pa_cons (pv 1) pa_nil))))), ?_⟩
    refine ⟨_, rfl, _, rfl, fun c dx hc hdx ne => ?_⟩
    refine ⟨H, c, dx, y, g, TT, ls, gs, rfl, made_same hc hdx, hc, upd_same, hy, hg, Y, G, fun H1 L tot F s1 CA => ⟨rfl, ?_⟩⟩
    obtain ⟨dx2, g2, n, aa, ae, al, ar, ra, R, I⟩ := id CA
    refine ⟨c, dx2, _, rfl, I.obj, rfl, tNil_on ?_⟩
    exact ⟨c, TT, ls, gs, L, tot, F, rfl, CA, G, fun H2 s2 => k H2 L tot F (s1.trans s2) I.done⟩
theorem ok_best {f CN CC : Addr} {fd : FuncData} (Fn : Fun K "best_filling" "best_filling" sBest f fd) (MM : C8.Mak P w K mg base 3 "Course" CC (spCrsInit CN CC) []) (ML : C8.Met P w K mg base 2 CC "filling" (spFilling CN CC) []) : FnOk P w K mg base CX0 5 f fd ["yard", "guests"] spBest := by
  refine Fn.ok scBest (fun vs H Q E h => ?_) (fun cdv A outer sh H vs Q Ex hr h => ?_)
  · obtain ⟨y, g, TT, ls, gs, rfl, _⟩ := h
    rfl
  · obtain ⟨y, g, TT, ls, gs, rfl, hy, hg, Y, G, k⟩ := h
    refine ⟨_, pss_one (ps_ret (C8.pe_mt0 ML hr (by decide) (C8.pe_mk MM hr (by decide) (by rfl) (pa_cons (pv 0) (pa_cons (pv 1) pa_nil))))), ?_⟩
    refine ⟨_, rfl, _, rfl, fun c dx hc hdx ne => ?_⟩
    refine ⟨H, c, dx, y, g, TT, ls, gs, rfl, made_same hc hdx, hc, upd_same, hy, hg, Y, G, fun H1 L tot F s1 CA => ⟨rfl, ?_⟩⟩
    obtain ⟨dx2, g2, n, aa, ae, al, ar, ra, R, I⟩ := id CA
    refine ⟨c, dx2, _, rfl, I.obj, rfl, tNil_on ?_⟩
    exact ⟨c, TT, ls, gs, L, tot, F, rfl, CA, G, Y, fun H2 p s2 hp hR => k H2 p L tot F (s1.trans s2) (s1.free hp) I.done hR⟩
theorem ok_lacking {f CN CC : Addr} {fd : FuncData} (Fn : Fun K "lacking_set" "lacking_set" sLacking f fd) (MM : C8.Mak P w K mg base 3 "Course" CC (spCrsInit CN CC) []) (ML : C8.Met P w K mg base 2 CC "reached" (spReached CN CC) []) : FnOk P w K mg base CX0 5 f fd ["yard", "guests"] spLacking := by
  refine Fn.ok scLacking (fun vs H Q E h => ?_) (fun cdv A outer sh H vs Q Ex hr h => ?_)
  · obtain ⟨y, g, TT, ls, gs, rfl, _⟩ := h
    rfl
  · obtain ⟨y, g, TT, ls, gs, rfl, hy, hg, Y, G, k⟩ := h
    refine ⟨_, pss_one (ps_ret (C8.pe_mt0 ML hr (by decide) (C8.pe_mk MM hr (by decide) (by rfl) (pa_cons (pv 0) (pa_cons (pv 1) pa_nil))))), ?_⟩
    refine ⟨_, rfl, _, rfl, fun c dx hc hdx ne => ?_⟩
    refine ⟨H, c, dx, y, g, TT, ls, gs, rfl, made_same hc hdx, hc, upd_same, hy, hg, Y, G, fun H1 L tot F s1 CA => ⟨rfl, ?_⟩⟩
    obtain ⟨dx2, g2, n, aa, ae, al, ar, ra, R, I⟩ := id CA
    refine ⟨c, dx2, _, rfl, I.obj, rfl, tNil_on ?_⟩
    exact ⟨c, TT, ls, gs, L, tot, F, rfl, CA, G, fun H2 p ks s2 hp h1 h2 h3 => k H2 p ks (s1.trans s2) (s1.free hp) h1 h2 h3⟩
end
end Cy
end
section
namespace Cy
open PySem L2 NM
abbrev sStayInit : Stmt := inClass (top 19) 0
abbrev sStayLacking : Stmt := inClass (top 19) 1
abbrev sStayAs : Stmt := inClass (top 19) 2
abbrev sHandInit : Stmt := inClass (top 20) 0
abbrev sHandYard : Stmt := inClass (top 20) 2
abbrev sHandOpen : Stmt := inClass (top 20) 3
abbrev sHandLeft : Stmt := inClass (top 20) 4
abbrev sHandRoom : Stmt := inClass (top 20) 5
abbrev sHandCome : Stmt := inClass (top 20) 6
abbrev sHandTurn : Stmt := inClass (top 20) 7
abbrev sHandStay : Stmt := inClass (top 20) 8
abbrev sHandLeave : Stmt := inClass (top 20) 9
abbrev sHandGot : Stmt := inClass (top 20) 10
abbrev sHandRest : Stmt := inClass (top 20) 11
abbrev sNoRoomInit : Stmt := inClass (top 4) 0
abbrev sNoNumberInit : Stmt := inClass (top 6) 0
abbrev sWhole : Stmt := top 16
abbrev sGuest : Stmt := top 17
abbrev sCell : Stmt := top 22
abbrev sFeed : Stmt := top 23
abbrev sDigit : Stmt := top 24
abbrev sLYard : Stmt := top 25
abbrev sLGuest : Stmt := top 26
abbrev sLCome : Stmt := top 27
abbrev sLLeft : Stmt := top 28
abbrev sLGoes : Stmt := top 29
abbrev sLaw : Stmt := top 30
theorem scStayInit : FnScope ["self", "guest"] ["self", "guest"] (defScope sStayInit) := ⟨rfl, rfl, rfl, by decide +kernel, rfl, by decide +kernel, by decide +kernel⟩
theorem scStayLacking : FnScope ["self"] ["self"] (defScope sStayLacking) := ⟨rfl, rfl, rfl, by decide +kernel, rfl, by decide +kernel, by decide +kernel⟩
theorem scStayAs : FnScope ["self", "turn", "line", "first", "last", "want", "most"] ["self", "turn"] (defScope sStayAs) := ⟨rfl, rfl, rfl, by decide +kernel, rfl, by decide +kernel, by decide +kernel⟩
theorem scHandInit : FnScope ["self", "yard", "above", "bounds"] ["self", "yard"] (defScope sHandInit) := ⟨rfl, rfl, rfl, by decide +kernel, rfl, by decide +kernel, by decide +kernel⟩
theorem scHandYard : FnScope ["self"] ["self"] (defScope sHandYard) := ⟨rfl, rfl, rfl, by decide +kernel, rfl, by decide +kernel, by decide +kernel⟩
theorem scHandOpen : FnScope ["self", "number", "stay"] ["self"] (defScope sHandOpen) := ⟨rfl, rfl, rfl, by decide +kernel, rfl, by decide +kernel, by decide +kernel⟩
theorem scHandLeft : FnScope ["self", "lines", "above", "bounds"] ["self", "lines"] (defScope sHandLeft) := ⟨rfl, rfl, rfl, by decide +kernel, rfl, by decide +kernel, by decide +kernel⟩
theorem scHandRoom : FnScope ["self", "lines", "stays", "numbers", "yard", "guests", "number", "stay", "k"] ["self", "lines", "stays"] (defScope sHandRoom) := ⟨rfl, rfl, rfl, by decide +kernel, rfl, by decide +kernel, by decide +kernel⟩
theorem scHandCome : FnScope ["self", "guest", "stays"] ["self", "guest"] (defScope sHandCome) := ⟨rfl, rfl, rfl, by decide +kernel, rfl, by decide +kernel, by decide +kernel⟩
theorem scHandTurn : FnScope ["self", "gifts", "numbers", "guests", "filling", "number", "row"] ["self"] (defScope sHandTurn) := ⟨rfl, rfl, rfl, by decide +kernel, rfl, by decide +kernel, by decide +kernel⟩
theorem scHandStay : FnScope ["self", "number"] ["self", "number"] (defScope sHandStay) := ⟨rfl, rfl, rfl, by decide +kernel, rfl, by decide +kernel, by decide +kernel⟩
theorem scHandLeave : FnScope ["self", "number", "stay"] ["self", "number"] (defScope sHandLeave) := ⟨rfl, rfl, rfl, by decide +kernel, rfl, by decide +kernel, by decide +kernel⟩
theorem scHandGot : FnScope ["self", "number"] ["self", "number"] (defScope sHandGot) := ⟨rfl, rfl, rfl, by decide +kernel, rfl, by decide +kernel, by decide +kernel⟩
theorem scHandRest : FnScope ["self", "number"] ["self", "number"] (defScope sHandRest) := ⟨rfl, rfl, rfl, by decide +kernel, rfl, by decide +kernel, by decide +kernel⟩
theorem scNoRoomInit : FnScope ["self", "some"] ["self", "some"] (defScope sNoRoomInit) := ⟨rfl, rfl, rfl, by decide +kernel, rfl, by decide +kernel, by decide +kernel⟩
theorem scNoNumberInit : FnScope ["self", "number"] ["self", "number"] (defScope sNoNumberInit) := ⟨rfl, rfl, rfl, by decide +kernel, rfl, by decide +kernel, by decide +kernel⟩
theorem scWhole : FnScope ["thing", "low", "beyond"] ["thing", "low", "beyond"] (defScope sWhole) := ⟨rfl, rfl, rfl, by decide +kernel, rfl, by decide +kernel, by decide +kernel⟩
theorem scGuest : FnScope ["yard", "thing", "line", "first", "last", "want", "most"] ["yard", "thing"] (defScope sGuest) := ⟨rfl, rfl, rfl, by decide +kernel, rfl, by decide +kernel, by decide +kernel⟩
theorem scCell : FnScope ["_law_script", "_law_k"] ["_law_script", "_law_k"] (defScope sCell) := ⟨rfl, rfl, rfl, by decide +kernel, rfl, by decide +kernel, by decide +kernel⟩
theorem scFeed : FnScope ["_law_cell", "_law_big", "_law_one", "_law_other", "_law_k"] ["_law_cell"] (defScope sFeed) := ⟨rfl, rfl, rfl, by decide +kernel, rfl, by decide +kernel, by decide +kernel⟩
theorem scDigit : FnScope ["_law_feed_here", "_law_many", "_law_digit_here"] ["_law_feed_here", "_law_many"] (defScope sDigit) := ⟨rfl, rfl, rfl, by decide +kernel, rfl, by decide +kernel, by decide +kernel⟩
theorem scLYard : FnScope ["_law_feed_here", "_law_turns", "_law_scale", "_law_lines", "_law_k", "_law_above", "_law_bounds", "_law_turn", "_law_bound"] ["_law_feed_here"] (defScope sLYard) := ⟨rfl, rfl, rfl, by decide +kernel, rfl, by decide +kernel, by decide +kernel⟩
theorem scLGuest : FnScope ["_law_feed_here", "_law_yard_here", "_law_now", "_law_first", "_law_last", "_law_line", "_law_scale", "_law_want", "_law_above", "_law_bounds"] ["_law_feed_here", "_law_yard_here", "_law_now"] (defScope sLGuest) := ⟨rfl, rfl, rfl, by decide +kernel, rfl, by decide +kernel, by decide +kernel⟩
theorem scLCome : FnScope ["_law_hand", "_law_guest_here", "_law_told", "e", "_law_marks", "_law_k"] ["_law_hand", "_law_guest_here"] (defScope sLCome) := ⟨rfl, rfl, rfl, by decide +kernel, rfl, by decide +kernel, by decide +kernel⟩
theorem scLLeft : FnScope ["_law_hand", "_law_number", "_law_told", "e"] ["_law_hand", "_law_number"] (defScope sLLeft) := ⟨rfl, rfl, rfl, by decide +kernel, rfl, by decide +kernel, by decide +kernel⟩
theorem scLGoes : FnScope ["_law_hand", "_law_number", "_law_got"] ["_law_hand", "_law_number", "_law_got"] (defScope sLGoes) := ⟨rfl, rfl, rfl, by decide +kernel, rfl, by decide +kernel, by decide +kernel⟩
theorem scLaw : FnScope ["_law_script", "_law_yard_here", "_law_hand", "_law_wants", "_law_lasts", "_law_k", "_law_guest_here", "_law_got", "_law_gone", "_law_turn", "_law_cell", "_law_number", "_law_gifts"] ["_law_script"] (defScope sLaw) := ⟨rfl, rfl, rfl, by decide +kernel, rfl, by decide +kernel, by decide +kernel⟩
end Cy
end
section
namespace Cy
open PySem L2 NM
abbrev stayF (ga : Addr) (given : Int) (gone : Bool) : List (Str × V) := [("guest", .ref ga), ("given", .int given), ("gone", .bl gone)]
def StayAt (CS : Addr) (H : Hp) (s : Addr) (sy : Sy) : Prop := ∃ dx ga, H s = some (.ins CS dx (stayF ga sy.given sy.gone)) ∧ H ga = some (.tup (guV sy.g))
def StaysAt (CS : Addr) (H : Hp) (st : Addr) (ss : List Sy) : Prop := ∃ sa : List Addr, H st = some (.lst (sa.map V.ref)) ∧ sa.length = ss.length ∧ ∀ i, i < ss.length → ∃ a : Addr, sa[i]? = some a ∧ StayAt CS H a ss[i]!
def LinesAt (H : Hp) (al : Addr) (ls : List Ln) : Prop := ∃ la : List Addr, H al = some (.lst (la.map V.ref)) ∧ la.length = ls.length ∧
  ∀ i, i < ls.length → ∃ a b : Addr, la[i]? = some a ∧ H a = some (.tup [optV ls[i]!.above, .ref b]) ∧ H b = some (.tup (ls[i]!.bounds.map V.int))
abbrev handF (T : Nat) (al : Addr) (p : Nat) (as ag : Addr) : List (Str × V) := [("turns", nV T), ("lines", .ref al), ("present", nV p), ("stays", .ref as), ("given_so_far", .ref ag)]
theorem StayAt.keep {CS : Addr} {H H' : Hp} {s : Addr} {sy : Sy} (h : StayAt CS H s sy) (e : Same H H') : StayAt CS H' s sy := by
  obtain ⟨dx, ga, h1, h2⟩ := h
  exact ⟨dx, ga, e _ _ h1, e _ _ h2⟩
theorem StaysAt.keep {CS : Addr} {H H' : Hp} {s : Addr} {ss : List Sy} (h : StaysAt CS H s ss) (e : Same H H') : StaysAt CS H' s ss := by
  obtain ⟨sa, h1, h2, h3⟩ := h
  exact ⟨sa, e _ _ h1, h2, fun i hi => let ⟨a, e1, e2⟩ := h3 i hi; ⟨a, e1, e2.keep e⟩⟩
theorem LinesAt.keep {H H' : Hp} {al : Addr} {ls : List Ln} (h : LinesAt H al ls) (s : Same H H') : LinesAt H' al ls := by
  obtain ⟨la, h2, h3, h4⟩ := h
  exact ⟨la, s _ _ h2, h3, fun i hi => let ⟨a, b, e1, e2, e3⟩ := h4 i hi; ⟨a, b, e1, s _ _ e2, s _ _ e3⟩⟩
structure TxHand (K : PySem.W.Frag) (mg : Str → Option Value) (CH CS : Addr) : Prop where
  cl : Cls K CH
  nT : NoAttr K CH "turns"
  nL : NoAttr K CH "lines"
  nP : NoAttr K CH "present"
  nS : NoAttr K CH "stays"
  nG : NoAttr K CH "given_so_far"
  scl : Cls K CS
  sG : NoAttr K CS "guest"
  sV : NoAttr K CS "given"
  sN : NoAttr K CS "gone"
  len : mg "len" = none
  enum : mg "enumerate" = none
  zip : mg "zip" = none
  tuple : mg "tuple" = none
  max : mg "max" = none
  dict : mg "dict" = none
def spStayInit (CS : Addr) : Sp := fun vs H Q _ => ∃ (s dx g : Addr), vs = [.ref s, .ref g] ∧ H s = some (.ins CS dx []) ∧ Q .non (upd H s (.ins CS dx (stayF g 0 false)))
def spLacks (CS : Addr) : Sp := fun vs H Q _ => ∃ (s : Addr) (sy : Sy), vs = [.ref s] ∧ StayAt CS H s sy ∧ Q (.int (NM.rest sy)) H
def spAsGuest (CS : Addr) : Sp := fun vs H Q _ => ∃ (s : Addr) (sy : Sy) (p : Nat), vs = [.ref s, nV p] ∧ StayAt CS H s sy ∧ p ≤ sy.g.last ∧ ∀ q, H q = none → Q (.ref q) (upd H q (.tup (guV (asG p sy))))
section
variable {P : Program} {w : World} {K : PySem.W.Frag} {mg : Str → Option Value} {base : Heap}
theorem ok_stayinit {f CH CS : Addr} {fd : FuncData} (Fn : Fun K "__init__" "Stay.__init__" sStayInit f fd) (T : TxHand K mg CH CS) : FnOk P w K mg base CX0 1 f fd ["self", "guest"] (spStayInit CS) := by
  refine Fn.ok scStayInit (fun vs H Q E h => ?_) (fun cdv A outer sh H vs Q Ex hr h => ?_)
  · obtain ⟨s, dx, g, rfl, _⟩ := h
    rfl
  · obtain ⟨s, dx, g, rfl, hs, k⟩ := h
    refine ⟨_, pss_cons (ps_fld (pv 0) (pv 1) rfl) <| pss_cons (ps_fld (pv 0) pe_int rfl) <| pss_one (ps_fld (pv 0) pe_bl rfl), ?_⟩
    refine ⟨_, rfl, _, rfl, s, CS, dx, [], rfl, hs, T.scl, T.sG, (by show 0 < 1000; decide), ?_⟩
    refine ⟨_, rfl, s, CS, dx, _, rfl, upd_same, T.scl, T.sV, (by show 1 < 1000; decide), ?_⟩
    refine ⟨_, rfl, s, CS, dx, _, rfl, upd_same, T.scl, T.sN, (by show 2 < 1000; decide), ?_⟩
    rw [upd_upd, upd_upd]
    exact k
theorem ok_lacks {f CH CS : Addr} {fd : FuncData} (Fn : Fun K "lacking" "Stay.lacking" sStayLacking f fd) (T : TxHand K mg CH CS) : FnOk P w K mg base CX0 1 f fd ["self"] (spLacks CS) := by
  refine Fn.ok scStayLacking (fun vs H Q E h => ?_) (fun cdv A outer sh H vs Q Ex hr h => ?_)
  · obtain ⟨s, sy, rfl, _⟩ := h
    rfl
  · obtain ⟨s, sy, rfl, ⟨dx, ga, hs, hg⟩, k⟩ := h
    refine ⟨_, pss_cons (ps_if (pt_val (pe_fld (pv 0) rfl)) (pss_one (ps_ret pe_int)) pss_nil) <| pss_one (ps_ret (pe_op op_sub (pe_ix ix_tup (pe_fld (pv 0) rfl) pe_int (fun _ _ => rfl)) (pe_fld (pv 0) rfl))), ?_⟩
    refine ⟨_, rfl, s, CS, dx, _, _, rfl, hs, T.scl, T.sN, rfl, sy.gone, rfl, ?_⟩
    unfold NM.rest at k
    refine ite2 (fun e => ?_) (fun e => ?_)
    · rw [if_pos e] at k
      exact k
    · rw [if_neg (by simpa using e)] at k
      exact ⟨_, rfl, s, CS, dx, _, _, rfl, hs, T.scl, T.sG, rfl, ga, _, _, .int sy.g.want, rfl, rfl, SqT.of hg, rfl, _, rfl, s, CS, dx, _, _, rfl, hs, T.scl, T.sV, rfl, _, _, rfl, rfl, k⟩
theorem ok_asguest {f CH CS : Addr} {fd : FuncData} (Fn : Fun K "as_guest" "Stay.as_guest" sStayAs f fd) (T : TxHand K mg CH CS) (ML : C8.Met P w K mg base 1 CS "lacking" (spLacks CS) []) : FnOk P w K mg base CX0 2 f fd ["self", "turn"] (spAsGuest CS) := by
  refine Fn.ok scStayAs (fun vs H Q E h => ?_) (fun cdv A outer sh H vs Q Ex hr h => ?_)
  · obtain ⟨s, sy, p, rfl, _⟩ := h
    rfl
  · obtain ⟨s, sy, p, rfl, ⟨dx, ga, hs, hg⟩, hp, k⟩ := h
    have nd := scStayAs.nd
    refine ⟨_, pss_cons (ps_asg (pe_fld (pv 0) rfl) (pg_tup rfl (pgs_cons (pg_name (i := 2) nd rfl (.inl rfl)) (pgs_cons (pg_name (i := 3) nd rfl (.inl rfl)) (pgs_cons (pg_name (i := 4) nd rfl (.inl rfl)) (pgs_cons (pg_name (i := 5) nd rfl (.inl rfl)) (pgs_cons (pg_name (i := 6) nd rfl (.inl rfl)) pgs_nil))))))) <|
      pss_one (ps_ret (pe_tup (pa_cons (pv 2) (pa_cons (pe_op op_sub (pe_callB (call_max2 rfl) (by rfl) T.max (by decide +kernel) (pa_cons (pv 3) (pa_cons (pv 1) pa_nil))) (pv 1)) (pa_cons (pe_op op_sub (pv 4) (pv 1)) (pa_cons (C8.pe_mt0 ML hr (by decide) (pv 0)) (pa_cons (pv 6) pa_nil))))))), ?_⟩
    refine ⟨_, rfl, s, CS, dx, _, _, rfl, hs, T.scl, T.sG, rfl, ga, _, rfl, SqT.of hg, rfl, _, _, rfl, _, _, rfl, _, _, rfl, _, _, rfl, _, _, rfl, rfl, ?_⟩
    refine ⟨_, rfl, _, rfl, _, rfl, _, _, rfl, _, rfl, _, _, rfl, rfl, _, rfl, _, rfl, _, _, rfl, rfl, _, rfl, s, dx, _, rfl, hs, rfl, ?_⟩
    refine tNil_on ?_
    refine ⟨s, sy, rfl, ⟨dx, ga, hs, hg⟩, ?_⟩
    refine ⟨_, rfl, (by show 5 ≤ sizeLine; decide), ?_⟩
    have e : [nV sy.g.line, V.int ((if ((p : Int)) > (sy.g.first : Int) then (p : Int) else (sy.g.first : Int)) - (p : Int)), V.int ((sy.g.last : Int) - (p : Int)), V.int (NM.rest sy), V.int sy.g.most] = guV (asG p sy) := by
      unfold guV asG
      have e1 : ((if ((p : Int)) > (sy.g.first : Int) then (p : Int) else (sy.g.first : Int)) - (p : Int)) = ((max sy.g.first p - p : Nat) : Int) := by
        split <;> omega
      have e2 : ((sy.g.last : Int) - (p : Int)) = ((sy.g.last - p : Nat) : Int) := by omega
      rw [e1, e2]
    rw [← e] at k
    exact k
end
end Cy
end
section
namespace Cy
open PySem L2 NM
/-! ### a hand in the heap -/
structure HandRaw (CH CS : Addr) (H : Hp) (h al as ag : Addr) (sa : List Addr) (gl : List V) (T : Nat) (ls : List Ln) (p : Nat) (ss : List Sy) : Prop where
  obj : ∃ dx, H h = some (.ins CH dx (handF T al p as ag))
  lines : LinesAt H al ls
  st : H as = some (.lst (sa.map V.ref))
  sl : sa.length = ss.length
  sy : ∀ i, i < ss.length → ∃ a : Addr, sa[i]? = some a ∧ StayAt CS H a ss[i]!
  gv : H ag = some (.lst gl)
  nd : sa.Nodup
  ns : as ≠ ag
  nl : al ≠ ag
def HandAt (CH CS : Addr) (H0 H : Hp) (h : Addr) (T : Nat) (ls : List Ln) (p : Nat) (ss : List Sy) : Prop :=
  Same H0 H ∧ H0 h = none ∧ ∃ (al as ag : Addr) (sa : List Addr) (gl : List V), HandRaw CH CS H h al as ag sa gl T ls p ss ∧ gl.length = p ∧ H0 al = none ∧ H0 as = none ∧ H0 ag = none ∧ ∀ a ∈ sa, H0 a = none
section
variable {CH CS : Addr} {H0 H H' : Hp} {h al as ag : Addr} {sa : List Addr} {gl : List V} {T p : Nat} {ls : List Ln} {ss : List Sy}
theorem HandRaw.keep (R : HandRaw CH CS H h al as ag sa gl T ls p ss) (s : Same H H') : HandRaw CH CS H' h al as ag sa gl T ls p ss :=
  ⟨R.obj.imp fun _ e => s _ _ e, R.lines.keep s, s _ _ R.st, R.sl, fun i hi => let ⟨a, e1, e2⟩ := R.sy i hi; ⟨a, e1, e2.keep s⟩, s _ _ R.gv, R.nd, R.ns, R.nl⟩
theorem HandAt.same (R : HandAt CH CS H0 H h T ls p ss) : Same H0 H := R.1
theorem HandAt.keep (R : HandAt CH CS H0 H h T ls p ss) (s : Same H H') : HandAt CH CS H0 H' h T ls p ss := by
  obtain ⟨s0, h0, al, as, ag, sa, gl, N, r⟩ := R
  exact ⟨s0.trans s, h0, al, as, ag, sa, gl, N.keep s, r⟩
/-- what is new between H and H', beside H0 -/
def grow (H0 H H' : Hp) : Hp := fun b => match H b with
  | none => H' b
  | some _ => H0 b
theorem grow_new {b : Addr} (e : H b = none) : grow H0 H H' b = H' b := by unfold grow; rw [e]
theorem grow_old {b : Addr} {o : HO} (e : H b = some o) : grow H0 H H' b = H0 b := by unfold grow; rw [e]
theorem grow_same (s0 : Same H0 H) : Same H0 (grow H0 H H') := fun b o e => by rw [grow_old (s0 _ _ e)]; exact e
theorem grow_same2 (s0 : Same H0 H) (s : Same H H') : Same (grow H0 H H') H' := fun b o e => by
  cases q : H b with
  | none => rw [grow_new q] at e; exact e
  | some u => rw [grow_old q] at e; exact s _ _ (s0 _ _ e)
theorem HandAt.grow (R : HandAt CH CS H0 H h T ls p ss) (s : Same H H') : HandAt CH CS (grow H0 H H') H' h T ls p ss := by
  obtain ⟨s0, h0, al, as, ag, sa, gl, N, e1, e2, e3, e4, e5⟩ := R
  obtain ⟨dx, ob⟩ := N.obj
  obtain ⟨la, hl, _⟩ := id N.lines
  refine ⟨grow_same2 s0 s, (grow_old ob).trans h0, al, as, ag, sa, gl, N.keep s, e1, (grow_old hl).trans e2, (grow_old N.st).trans e3, (grow_old N.gv).trans e4, fun a ha => ?_⟩
  obtain ⟨i, hi, e⟩ := List.getElem_of_mem ha
  obtain ⟨b, b1, dx, ga, b2, _⟩ := N.sy i (by rw [← N.sl]; exact hi)
  rw [List.getElem?_eq_getElem hi, e] at b1
  cases b1
  exact (grow_old b2).trans (e5 a ha)
/-- a change beside the hand -/
theorem HandAt.upd {a : Addr} {o : HO} (R : HandAt CH CS H0 H h T ls p ss) (ha : (∃ u, H0 a = some u ∧ ∀ xs, u ≠ .tup xs) ∨ H a = none) : HandAt CH CS (upd H0 a o) (upd H a o) h T ls p ss := by
  obtain ⟨s0, h0, al, as, ag, sa, gl, N, e1, e2, e3, e4, e5⟩ := R
  have key : ∀ {b : Addr} {u : HO}, H0 b = none → H b = some u → b ≠ a := fun {b u} q0 q1 e => by
    subst e
    rcases ha with ⟨u, z, _⟩ | z
    · rw [q0] at z; cases z
    · rw [q1] at z; cases z
  have tup : ∀ {b : Addr} {xs : List V}, H b = some (.tup xs) → b ≠ a := fun {b xs} q1 e => by
    subst e
    rcases ha with ⟨u, z, zt⟩ | z
    · rw [s0 _ _ z] at q1; exact zt _ (Option.some.inj q1)
    · rw [q1] at z; cases z
  have s1 : Same (L2.upd H0 a o) (L2.upd H a o) := fun b u e => by
    by_cases e' : b = a
    · rw [e', upd_same] at e; rw [e', upd_same]; exact e
    · rw [upd_ne e'] at e; rw [upd_ne e']; exact s0 b u e
  obtain ⟨dx, ob⟩ := N.obj
  obtain ⟨la, hl1, hl2, hl3⟩ := id N.lines
  have sne : ∀ b ∈ sa, b ≠ a := fun b hb => by
    obtain ⟨i, hi, e⟩ := List.getElem_of_mem hb
    obtain ⟨c, b1, dx, ga, b2, _⟩ := N.sy i (by rw [← N.sl]; exact hi)
    rw [List.getElem?_eq_getElem hi, e] at b1
    cases b1
    exact key (e5 b hb) b2
  refine ⟨s1, (upd_ne (key h0 ob)).trans h0, al, as, ag, sa, gl, ⟨⟨dx, (upd_ne (key h0 ob)).trans ob⟩, ⟨la, (upd_ne (key e2 hl1)).trans hl1, hl2, fun i hi => ?_⟩, (upd_ne (key e3 N.st)).trans N.st, N.sl, fun i hi => ?_, (upd_ne (key e4 N.gv)).trans N.gv, N.nd, N.ns, N.nl⟩, e1, (upd_ne (key e2 hl1)).trans e2, (upd_ne (key e3 N.st)).trans e3, (upd_ne (key e4 N.gv)).trans e4, fun b hb => (upd_ne (sne b hb)).trans (e5 b hb)⟩
  · obtain ⟨b, c, q1, q2, q3⟩ := hl3 i hi
    exact ⟨b, c, q1, (upd_ne (tup q2)).trans q2, (upd_ne (tup q3)).trans q3⟩
  · obtain ⟨b, q1, dx, ga, q2, q3⟩ := N.sy i hi
    exact ⟨b, q1, dx, ga, (upd_ne (sne b (List.mem_of_getElem? q1))).trans q2, (upd_ne (tup q3)).trans q3⟩
/-- .. of a dict beside it -/
theorem HandAt.side {a : Addr} {o : HO} {kvs : List (Key × V)} (R : HandAt CH CS H0 H h T ls p ss) (ha : H a = some (.dK kvs)) (a0 : H0 a = none) : HandAt CH CS H0 (L2.upd H a o) h T ls p ss := by
  obtain ⟨s0, h0, al, as, ag, sa, gl, N, r⟩ := R
  have k : ∀ {b : Addr} {u : HO}, H b = some u → u ≠ .dK kvs → L2.upd H a o b = some u := fun {b u} e d => (upd_ne (ne_of e ha d)).trans e
  obtain ⟨dx, ob⟩ := N.obj
  obtain ⟨la, hl1, hl2, hl3⟩ := N.lines
  exact ⟨s0.put a0, h0, al, as, ag, sa, gl, ⟨⟨dx, k ob (by intro z; cases z)⟩, ⟨la, k hl1 (by intro z; cases z), hl2, fun i hi => let ⟨b, c, q1, q2, q3⟩ := hl3 i hi; ⟨b, c, q1, k q2 (by intro z; cases z), k q3 (by intro z; cases z)⟩⟩, k N.st (by intro z; cases z), N.sl,
    fun i hi => let ⟨b, q1, dx, ga, q2, q3⟩ := N.sy i hi; ⟨b, q1, dx, ga, k q2 (by intro z; cases z), k q3 (by intro z; cases z)⟩, k N.gv (by intro z; cases z), N.nd, N.ns, N.nl⟩, r⟩
theorem HandRaw.stays (N : HandRaw CH CS H h al as ag sa gl T ls p ss) : StaysAt CS H as ss := ⟨sa, N.st, N.sl, N.sy⟩
/-- the fields of a hand: present, stays -/
theorem HandRaw.setH (N : HandRaw CH CS H h al as ag sa gl T ls p ss) {dx : Addr} (p' : Nat) : HandRaw CH CS (upd H h (.ins CH dx (handF T al p' as ag))) h al as ag sa gl T ls p' ss := by
  obtain ⟨dx0, ob⟩ := N.obj
  obtain ⟨la, hl1, hl2, hl3⟩ := id N.lines
  refine ⟨⟨dx, upd_same⟩, ⟨la, (upd_ne (ne_of hl1 ob (by intro z; cases z))).trans hl1, hl2, fun i hi => ?_⟩, (upd_ne (ne_of N.st ob (by intro z; cases z))).trans N.st, N.sl, fun i hi => ?_, (upd_ne (ne_of N.gv ob (by intro z; cases z))).trans N.gv, N.nd, N.ns, N.nl⟩
  · obtain ⟨b, c, q1, q2, q3⟩ := hl3 i hi
    exact ⟨b, c, q1, (upd_ne (ne_of q2 ob (by intro z; cases z))).trans q2, (upd_ne (ne_of q3 ob (by intro z; cases z))).trans q3⟩
  · obtain ⟨b, q1, dx, ga, q2, q3⟩ := N.sy i hi
    exact ⟨b, q1, dx, ga, (upd_ne (ne_of q2 ob (by intro z; cases z))).trans q2, (upd_ne (ne_of q3 ob (by intro z; cases z))).trans q3⟩
/-- the list of what was given -/
theorem HandRaw.setG (N : HandRaw CH CS H h al as ag sa gl T ls p ss) (gl' : List V) : HandRaw CH CS (upd H ag (.lst gl')) h al as ag sa gl' T ls p ss := by
  obtain ⟨dx0, ob⟩ := N.obj
  obtain ⟨la, hl1, hl2, hl3⟩ := id N.lines
  have gv := N.gv
  refine ⟨⟨dx0, (upd_ne (ne_of ob gv (by intro z; cases z))).trans ob⟩, ⟨la, (upd_ne N.nl).trans hl1, hl2, fun i hi => ?_⟩, (upd_ne N.ns).trans N.st, N.sl, fun i hi => ?_, upd_same, N.nd, N.ns, N.nl⟩
  · obtain ⟨b, c, q1, q2, q3⟩ := hl3 i hi
    exact ⟨b, c, q1, (upd_ne (ne_of q2 gv (by intro z; cases z))).trans q2, (upd_ne (ne_of q3 gv (by intro z; cases z))).trans q3⟩
  · obtain ⟨b, q1, dx, ga, q2, q3⟩ := N.sy i hi
    exact ⟨b, q1, dx, ga, (upd_ne (ne_of q2 gv (by intro z; cases z))).trans q2, (upd_ne (ne_of q3 gv (by intro z; cases z))).trans q3⟩
/-- one stay -/
theorem HandRaw.setS (N : HandRaw CH CS H h al as ag sa gl T ls p ss) {i : Nat} {a dx ga : Addr} {sy : Sy} (ha : sa[i]? = some a) (hi : i < ss.length) (hg : H ga = some (.tup (guV sy.g))) : HandRaw CH CS (upd H a (.ins CS dx (stayF ga sy.given sy.gone))) h al as ag sa gl T ls p (ss.set i sy) := by
  obtain ⟨dx0, ob⟩ := N.obj
  obtain ⟨la, hl1, hl2, hl3⟩ := id N.lines
  obtain ⟨a2, p1, dxa, gaa, p2, p3⟩ := N.sy i hi
  rw [ha] at p1
  cases p1
  refine ⟨⟨dx0, (upd_ne (ne_of ob p2 (by intro z; cases z))).trans ob⟩, ⟨la, (upd_ne (ne_of hl1 p2 (by intro z; cases z))).trans hl1, hl2, fun i hi => ?_⟩, (upd_ne (ne_of N.st p2 (by intro z; cases z))).trans N.st, by rw [List.length_set]; exact N.sl, fun j hj => ?_, (upd_ne (ne_of N.gv p2 (by intro z; cases z))).trans N.gv, N.nd, N.ns, N.nl⟩
  · obtain ⟨b, c, q1, q2, q3⟩ := hl3 i hi
    exact ⟨b, c, q1, (upd_ne (ne_of q2 p2 (by intro z; cases z))).trans q2, (upd_ne (ne_of q3 p2 (by intro z; cases z))).trans q3⟩
  · rw [List.length_set] at hj
    by_cases e : i = j
    · subst e
      refine ⟨a, ha, dx, ga, ?_, (upd_ne (ne_of hg p2 (by intro z; cases z))).trans ?_⟩
      · rw [upd_same, getElem!_pos _ i (by rw [List.length_set]; exact hi), List.getElem_set_self]
      · rw [hg, getElem!_pos _ i (by rw [List.length_set]; exact hi), List.getElem_set_self]
    · obtain ⟨b, q1, dxb, gb, q2, q3⟩ := N.sy j hj
      have nb : b ≠ a := fun z => e (nd_ix N.nd ha (by rw [← z]; exact q1))
      have ej : (ss.set i sy)[j]! = ss[j]! := by
        rw [getElem!_pos _ j (by rw [List.length_set]; exact hj), getElem!_pos ss j hj, List.getElem_set_ne e]
      rw [ej]
      exact ⟨b, q1, dxb, gb, (upd_ne nb).trans q2, (upd_ne (ne_of q3 p2 (by intro z; cases z))).trans q3⟩
end
def spHandInit (CH CS : Addr) : Sp := fun vs H Q _ => ∃ (H0 : Hp) (h dx y : Addr) (T : Nat) (ls : List Ln), vs = [.ref h, .ref y] ∧ Same H0 H ∧ H0 h = none ∧ H h = some (.ins CH dx []) ∧ YardAt H0 y T ls ∧ YaOk T ls ∧ ∀ H', HandAt CH CS H0 H' h T ls 0 [] → Q .non H'
def spYardNow (CH CS : Addr) : Sp := fun vs H Q _ => ∃ (H0 : Hp) (h : Addr) (T p : Nat) (ls : List Ln) (ss : List Sy), vs = [.ref h] ∧ HandAt CH CS H0 H h T ls p ss ∧ ∀ H' q, Same H H' → H q = none → YardAt H' q T ls → Q (.ref q) H'
def spOpen (CH CS : Addr) : Sp := fun vs H Q _ => ∃ (H0 : Hp) (h : Addr) (T p : Nat) (ls : List Ln) (ss : List Sy), vs = [.ref h] ∧ HandAt CH CS H0 H h T ls p ss ∧ ss.length ≤ 100 ∧ ∀ H' q, Same H H' → H q = none → H' q = some (.lst ((opens ss).map nV)) → Q (.ref q) H'
def spLeft (CH : Addr) : Sp := fun vs H Q _ => ∃ (h dx al al2 as ag : Addr) (T p : Nat) (ls : List Ln), vs = [.ref h, .ref al] ∧ H h = some (.ins CH dx (handF T al2 p as ag)) ∧ LinesAt H al ls ∧ YaOk T ls ∧ p < T ∧ ∀ H' q, Same H H' → H q = none → YardAt H' q (T - p) (dropL p ls) → Q (.ref q) H'
section
variable {P : Program} {w : World} {K : PySem.W.Frag} {mg : Str → Option Value} {base : Heap}
theorem ok_yardnow {f CH CS : Addr} {fd : FuncData} (Fn : Fun K "yard_now" "Hand.yard_now" sHandYard f fd) (T : TxHand K mg CH CS) : FnOk P w K mg base CX0 1 f fd ["self"] (spYardNow CH CS) := by
  refine Fn.ok scHandYard (fun vs H Q E h => ?_) (fun cdv A outer sh H vs Q Ex hr h => ?_)
  · obtain ⟨H0, h, T, p, ls, ss, rfl, _⟩ := h
    rfl
  · obtain ⟨H0, h, TT, p, ls, ss, rfl, ⟨s0, h0, al, as, ag, sa, gl, N, _⟩, k⟩ := h
    refine ⟨_, pss_one (ps_ret (pe_tup (pa_cons (pe_fld (pv 0) rfl) (pa_cons (pe_callTy call_tuple_of (by rfl) T.tuple (by decide +kernel) (pa_cons (pe_fld (pv 0) rfl) pa_nil)) pa_nil)))), ?_⟩
    obtain ⟨dx, ob⟩ := N.obj
    obtain ⟨la, hl1, hl2, hl3⟩ := N.lines
    refine ⟨_, rfl, h, CH, dx, _, _, rfl, ob, T.cl, T.nT, rfl, _, rfl, h, CH, dx, _, _, rfl, ob, T.cl, T.nL, rfl, al, _, rfl, .inl ⟨SqL.of hl1, fun t ht => ?_⟩⟩
    refine tNil_on ?_
    refine ⟨(by show 2 ≤ sizeLine; decide), fun q hq => ?_⟩
    have s1 : Same H (upd (upd H t (.tup (la.map V.ref))) q (.tup [nV TT, .ref t])) := (Same.new ht).trans (Same.new hq)
    refine k _ q s1 ((Same.new ht).free hq) ⟨t, la, upd_same, upd_new hq upd_same, hl2, fun i hi => let ⟨a, b, e1, e2, e3⟩ := hl3 i hi; ⟨a, b, e1, s1 _ _ e2, s1 _ _ e3⟩⟩
theorem ok_open {f CH CS : Addr} {fd : FuncData} (Fn : Fun K "open_ones" "Hand.open_ones" sHandOpen f fd) (T : TxHand K mg CH CS) (ML : C8.Met P w K mg base 1 CS "lacking" (spLacks CS) []) : FnOk P w K mg base CX0 2 f fd ["self"] (spOpen CH CS) := by
  refine Fn.ok scHandOpen (fun vs H Q E h => ?_) (fun cdv A outer sh H vs Q Ex hr h => ?_)
  · obtain ⟨H0, h, T, p, ls, ss, rfl, _⟩ := h
    rfl
  · obtain ⟨H0, h, TT, p, ls, ss, rfl, ⟨s0, h0, al, as, ag, sa, gl, N, _⟩, n8, k⟩ := h
    have nd := scHandOpen.nd
    refine ⟨_, pss_one (ps_ret (pe_lc (own := [("number", 1), ("stay", 2)]) (g := gTup K 2 (gCons (gName 1) (gCons (gName 2) gNil))) (tt := tTest (tOp (rI0 fun i j => .bl (decide (j < i))) (tMeth CS "lacking" (spLacks CS) [] E0 (tVar 2) tNil) (tC (.int 0)))) (te := tVar 1) rfl nd (pi_enum (by rfl) T.enum (pa_cons (pe_fld (pv 0) rfl) pa_nil))
      (blkOk_by (N := ["self", "number", "stay"]) (sc := defScope sHandOpen) (by decide +kernel)) (fun _ _ _ _ _ => pg_tup rfl (pgs_cons (pg_name (i := 1) nd rfl (.inl rfl)) (pgs_cons (pg_name (i := 2) nd rfl (.inl rfl)) pgs_nil)))
      (fun _ _ _ _ _ => pts_one (pt_cmpR op_gt (C8.pe_mt0 ML hr (by decide) (pv 2)) pe_int (nomark _))) (fun _ _ _ _ _ => pv 1))), ?_⟩
    obtain ⟨dx, ob⟩ := N.obj
    refine ⟨_, rfl, h, CH, dx, _, _, rfl, ob, T.cl, T.nS, rfl, as, _, rfl, SqL.of N.st, fun D hD => ?_⟩
    refine lc_it (walk_enum (K := K) (a := as) (xs := sa.map V.ref)) (fun i H1 => Same H H1 ∧ H1 D = some (.lst (((List.range i).filter fun j => decide ((0:Int) < NM.rest ss[j]!)).map nV))) ⟨Same.new hD, upd_same⟩ (fun i H1 _ hh => SqL.of (hh.1 _ _ N.st)) ?_ ?_
    · rintro i x H1 H2 hi ⟨s1, h1⟩ ⟨q, x1, x2, rfl, hq, rfl, hx1, hx2⟩
      cases hx1
      have hi' : i < ss.length := by
        rw [List.length_map, N.sl] at hi; exact hi
      obtain ⟨a, ha, sy⟩ := N.sy i hi'
      have hx2 : (sa.map V.ref)[i]? = some x2 := hx2
      rw [List.getElem?_map, ha] at hx2
      cases hx2
      have s2 : Same H (upd H1 q (.tup [.int (i : Nat), .ref a])) := s1.put (s1.free hq)
      have h2 := upd_new (o := .tup [.int (i : Nat), .ref a]) hq h1
      refine ⟨q, _, rfl, SqT.of upd_same, rfl, _, _, rfl, _, _, rfl, rfl, ?_⟩
      generalize upd H1 q (.tup [.int (i : Nat), .ref a]) = H2 at s2 h2 ⊢
      obtain ⟨dxs, ga, q1, q2⟩ := id (sy.keep s2)
      refine ⟨rfl, _, rfl, a, dxs, _, rfl, q1, rfl, ?_⟩
      refine tNil_on ?_
      refine ⟨a, _, rfl, sy.keep s2, _, _, rfl, rfl, _, rfl, ?_⟩
      rw [List.range_succ, List.filter_append, List.map_append]
      refine ite2 (fun e => ?_) (fun e => ?_)
      · refine ⟨_, rfl, _, h2, ?_, s2.put hD, ?_⟩
        · rw [List.length_map]
          have := List.length_filter_le (fun j => decide ((0:Int) < NM.rest ss[j]!)) (List.range i)
          rw [List.length_range] at this
          exact small' (by omega)
        · rw [List.filter_cons, if_pos e]; exact upd_same
      · refine ⟨s2, ?_⟩
        rw [List.filter_cons, if_neg (by simpa using e)]
        rw [h2]; simp
    · rintro H1 ⟨s1, h1⟩
      rw [List.length_map, N.sl] at h1
      exact k H1 D s1 hD h1
end
end Cy
end
section
namespace Cy
open PySem L2 NM
theorem cutV_drop {xs : List V} {p : Nat} (h : p ≤ xs.length) : cutV xs (some (p : Int)) none = xs.drop p := by
  unfold cutV
  rw [HT.sIx_nat, HT.sIx_none, Nat.min_eq_left h, List.take_of_length_le (by rw [List.length_drop]; exact Nat.le_refl _)]
/-- the first k lines of a list that is being made -/
def LinesIn (H : Hp) (D : Addr) (ls : List Ln) (k : Nat) : Prop := ∃ ta : List Addr, H D = some (.lst (ta.map V.ref)) ∧ ta.length = k ∧ ∀ i, i < k → ∃ a b : Addr, ta[i]? = some a ∧ H a = some (.tup [optV ls[i]!.above, .ref b]) ∧ H b = some (.tup (ls[i]!.bounds.map V.int))
theorem LinesIn.snoc {H : Hp} {D : Addr} {ls : List Ln} {k : Nat} {a b : Addr} {ta : List Addr} {o : HO} (h : H D = some o) (ho : ∀ xs, o ≠ .tup xs) (hl : ta.length = k) (hq : ∀ i, i < k → ∃ a b : Addr, ta[i]? = some a ∧ H a = some (.tup [optV ls[i]!.above, .ref b]) ∧ H b = some (.tup (ls[i]!.bounds.map V.int)))
    (ha : H a = some (.tup [optV ls[k]!.above, .ref b])) (hb : H b = some (.tup (ls[k]!.bounds.map V.int))) : LinesIn (upd H D (.lst (ta.map V.ref ++ [V.ref a]))) D ls (k + 1) := by
  have nt : ∀ {c : Addr} {xs : List V}, H c = some (.tup xs) → c ≠ D := fun {c xs} q e => by
    subst e
    rw [h] at q
    exact ho _ (Option.some.inj q)
  refine ⟨ta ++ [a], by rw [upd_same, List.map_append]; rfl, by simp [hl], fun i hi => ?_⟩
  by_cases e : i = k
  · subst e
    exact ⟨a, b, by rw [List.getElem?_append_right (by omega), hl, Nat.sub_self]; rfl, (upd_ne (nt ha)).trans ha, (upd_ne (nt hb)).trans hb⟩
  · obtain ⟨c, d, q1, q2, q3⟩ := hq i (by omega)
    exact ⟨c, d, by rw [List.getElem?_append_left (by omega)]; exact q1, (upd_ne (nt q2)).trans q2, (upd_ne (nt q3)).trans q3⟩
section
variable {P : Program} {w : World} {K : PySem.W.Frag} {mg : Str → Option Value} {base : Heap}
theorem ok_left {f CH CS : Addr} {fd : FuncData} (Fn : Fun K "yard_left" "Hand.yard_left" sHandLeft f fd) (T : TxHand K mg CH CS) : FnOk P w K mg base CX0 1 f fd ["self", "lines"] (spLeft CH) := by
  refine Fn.ok scHandLeft (fun vs H Q E h => ?_) (fun cdv A outer sh H vs Q Ex hr h => ?_)
  · obtain ⟨h, dx, al, al2, as, ag, T, p, ls, rfl, _⟩ := h
    rfl
  · obtain ⟨h, dx, al, al2, as, ag, TT, p, ls, rfl, ob, ⟨la, hl1, hl2, hl3⟩, Y, hp, k⟩ := h
    have nd := scHandLeft.nd
    refine ⟨_, pss_one (ps_ret (pe_tup (pa_cons (pe_op op_sub (pe_fld (pv 0) rfl) (pe_fld (pv 0) rfl)) (pa_cons (pe_callTy call_tuple_of (by rfl) T.tuple (by decide +kernel) (pa_cons
      (pe_lc (own := [("above", 2), ("bounds", 3)]) (g := gTup K 2 (gCons (gName 2) (gCons (gName 3) gNil))) (tt := tYes) (te := tTup (tCons (tVar 2) (tCons (tSl (rSlA K) (tVar 3) (tPart (tFld K (tVar 0) "present")) tNoPart) tNil))) rfl nd (pi_list (pv 1))
        (blkOk_by (N := ["self", "lines", "above", "bounds"]) (sc := defScope sHandLeft) (by decide +kernel)) (fun _ _ _ _ _ => pg_tup rfl (pgs_cons (pg_name (i := 2) nd rfl (.inl rfl)) (pgs_cons (pg_name (i := 3) nd rfl (.inl rfl)) pgs_nil)))
        (fun _ _ _ _ _ => pts_nil) (fun _ _ _ _ _ => pe_tup (pa_cons (pv 2) (pa_cons (pe_slice sl_tupA (pv 3) (po_some (pe_fld (pv 0) rfl)) po_none) pa_nil)))) pa_nil)) pa_nil)))), ?_⟩
    refine ⟨_, rfl, h, CH, dx, _, _, rfl, ob, T.cl, T.nT, rfl, _, rfl, h, CH, dx, _, _, rfl, ob, T.cl, T.nP, rfl, _, _, rfl, rfl, ?_⟩
    refine ⟨_, rfl, al, rfl, ⟨_, SqL.of hl1⟩, fun D hD => lc_list (K := K) (a := al) (xs := la.map V.ref) (fun i H1 => Same H H1 ∧ LinesIn H1 D (dropL p ls) i) ⟨Same.new hD, [], upd_same, rfl, fun i hi => absurd hi (Nat.not_lt_zero i)⟩ (fun i H1 _ hh => SqL.of (hh.1 _ _ hl1)) ?_ ?_⟩
    · rintro i x H1 hi ⟨s1, ta, h1D, lta, hta⟩
      have hi' : i < ls.length := by
        have := (List.getElem?_eq_some_iff.mp hi).1
        rw [List.length_map, hl2] at this; exact this
      obtain ⟨a, b, ha, hau, hbu⟩ := hl3 i hi'
      rw [List.getElem?_map, ha] at hi
      cases hi
      refine ⟨a, _, rfl, SqT.of (s1 _ _ hau), rfl, _, _, rfl, _, _, rfl, rfl, rfl, ?_⟩
      refine tYes_on (iteT ?_)
      have hlen : (ls[i]!.bounds.map V.int).length = TT := by rw [List.length_map, Y.len i hi']
      have ed : (ls[i]!.bounds.map V.int).drop p = ((dropL p ls)[i]!.bounds).map V.int := by rw [dropL_at hi', List.map_drop]
      have ea : optV ls[i]!.above = optV (dropL p ls)[i]!.above := by rw [dropL_at hi']
      refine ⟨_, rfl, _, rfl, _, rfl, h, CH, dx, _, _, rfl, s1 _ _ ob, T.cl, T.nP, rfl, _, rfl, ?_⟩
      refine ⟨b, _, rfl, SqT.of (s1 _ _ hbu), fun hw => ?_, fun hw c hc => ?_⟩
      · rw [HT.sIx_nat, hlen, Nat.min_eq_left (by omega)] at hw
        have hp0 : p = 0 := hw.1
        refine tNil_on ⟨(by show 2 ≤ sizeLine; decide), fun q hq => ?_⟩
        refine ⟨_, upd_new hq h1D, by rw [List.length_map, lta]; exact small' (by have := Y.l5; omega), (s1.put (s1.free hq)).put hD, ?_⟩
        refine LinesIn.snoc (upd_new hq h1D) (fun xs z => by cases z) lta (fun j hj => let ⟨c, d, e1, e2, e3⟩ := hta j hj; ⟨c, d, e1, upd_new hq e2, upd_new hq e3⟩) (b := b) (by rw [upd_same, ea]) (upd_new hq ((s1 _ _ hbu).trans ?_))
        rw [← ed, hp0]; rfl
      · rw [cutV_drop (by rw [hlen]; omega), ed]
        refine tNil_on ⟨(by show 2 ≤ sizeLine; decide), fun q hq => ?_⟩
        have h2D := upd_new (o := .tup ((dropL p ls)[i]!.bounds.map V.int)) hc h1D
        refine ⟨_, upd_new hq h2D, by rw [List.length_map, lta]; exact small' (by have := Y.l5; omega), ((s1.put (s1.free hc)).put ((s1.put (s1.free hc)).free hq)).put hD, ?_⟩
        exact LinesIn.snoc (upd_new hq h2D) (fun xs z => by cases z) lta (fun j hj => let ⟨c, d, e1, e2, e3⟩ := hta j hj; ⟨c, d, e1, upd_new hq (upd_new hc e2), upd_new hq (upd_new hc e3)⟩) (b := c) (by rw [upd_same, ea]) (upd_new hq upd_same)
    · rintro H1 ⟨s1, ta, h1D, lta, hta⟩
      rw [List.length_map, hl2] at lta hta
      refine ⟨D, _, rfl, .inl ⟨SqL.of h1D, fun t ht => ?_⟩⟩
      refine tNil_on ⟨(by show 2 ≤ sizeLine; decide), fun q hq => ?_⟩
      have s2 : Same H (upd (upd H1 t (.tup (ta.map V.ref))) q (.tup [.int ((TT : Int) - (p : Int)), .ref t])) := (s1.trans (Same.new ht)).trans (Same.new hq)
      refine k _ q s2 ((s1.trans (Same.new ht)).free hq) ⟨t, ta, ?_, upd_new hq upd_same, by rw [dropL_len]; exact lta, fun i hi => ?_⟩
      · rw [upd_same]; dsimp only; rw [show ((TT : Int) - (p : Int)) = ((TT - p : Nat) : Int) by omega]
      · rw [dropL_len] at hi
        obtain ⟨a, b, e1, e2, e3⟩ := hta i hi
        exact ⟨a, b, e1, upd_new hq (upd_new ht e2), upd_new hq (upd_new ht e3)⟩
theorem ok_handinit {f CH CS : Addr} {fd : FuncData} (Fn : Fun K "__init__" "Hand.__init__" sHandInit f fd) (T : TxHand K mg CH CS) : FnOk P w K mg base CX0 1 f fd ["self", "yard"] (spHandInit CH CS) := by
  refine Fn.ok scHandInit (fun vs H Q E h => ?_) (fun cdv A outer sh H vs Q Ex hr h => ?_)
  · obtain ⟨H0, h, dx, y, T, ls, rfl, _⟩ := h
    rfl
  · obtain ⟨H0, h, dx, y, TT, ls, rfl, s0, h0, hh, ⟨ly, la, hy1, hy2, hy3, hy4⟩, Y, k⟩ := h
    have nd := scHandInit.nd
    refine ⟨_, pss_cons (ps_fld (pv 0) (pe_ix ix_tup (pv 1) pe_int (fun _ _ => rfl)) rfl) <|
      pss_cons (ps_fld (pv 0) (pe_lc (own := [("above", 2), ("bounds", 3)]) (g := gTup K 2 (gCons (gName 2) (gCons (gName 3) gNil))) (tt := tYes) (te := tTup (tCons (tVar 2) (tCons (fun σ H Q => tCons (tVar 3) tNil σ H fun xs H1 => ∃ a ys, xs = [.ref a] ∧ SqT K H1 a ys ∧ Q (.ref a) H1) tNil))) rfl nd (pi_tup (pe_ix ix_tup (pv 1) pe_int (fun _ _ => rfl)))
        (blkOk_by (N := ["self", "yard", "above", "bounds"]) (sc := defScope sHandInit) (by decide +kernel)) (fun _ _ _ _ _ => pg_tup rfl (pgs_cons (pg_name (i := 2) nd rfl (.inl rfl)) (pgs_cons (pg_name (i := 3) nd rfl (.inl rfl)) pgs_nil)))
        (fun _ _ _ _ _ => pts_nil) (fun _ _ _ _ _ => pe_tup (pa_cons (pv 2) (pa_cons (pe_callTy call_tupleT (by rfl) T.tuple (by decide +kernel) (pa_cons (pv 3) pa_nil)) pa_nil)))) rfl) <|
      pss_cons (ps_fld (pv 0) pe_int rfl) <| pss_cons (ps_fld (pv 0) (pe_lst pa_nil) rfl) <| pss_one (ps_fld (pv 0) (pe_lst pa_nil) rfl), ?_⟩
    have yh : y ≠ h := ne_of_none hy1 h0
    have lh : ly ≠ h := ne_of_none hy2 h0
    refine ⟨_, rfl, y, _, _, nV TT, rfl, rfl, SqT.of (s0 _ _ hy1), rfl, _, rfl, h, CH, dx, [], rfl, hh, T.cl, T.nT, (by show 0 < 1000; decide), ?_⟩
    rw [show putF "turns" (nV TT) [] = [(("turns" : Str), nV TT)] from rfl]
    have s1 : Same H0 (upd H h (.ins CH dx [(("turns" : Str), nV TT)])) := s0.put h0
    have h1 : upd H h (.ins CH dx [(("turns" : Str), nV TT)]) h = some (.ins CH dx [(("turns" : Str), nV TT)]) := upd_same
    generalize upd H h (.ins CH dx [(("turns" : Str), nV TT)]) = H1 at s1 h1 ⊢
    refine ⟨_, rfl, y, _, _, .ref ly, rfl, rfl, SqT.of (s1 _ _ hy1), rfl, ly, rfl, ⟨_, SqT.of (s1 _ _ hy2)⟩, fun D hD => lc_it (walk_tup (K := K) (a := ly) (xs := la.map V.ref)) (fun i H2 => Same H1 H2 ∧ LinesIn H2 D ls i) ⟨Same.new hD, [], upd_same, rfl, fun i hi => absurd hi (Nat.not_lt_zero i)⟩ (fun i H2 _ hh => SqT.of (hh.1 _ _ (s1 _ _ hy2))) ?_ ?_⟩
    · rintro i x H2 H3 hi ⟨s2, ta, h2D, lta, hta⟩ ⟨e3, hx⟩
      subst e3
      have hi' : i < ls.length := by rw [List.length_map, hy3] at hi; exact hi
      obtain ⟨a, b, ha, hau, hbu⟩ := hy4 i hi'
      rw [List.getElem?_map, ha] at hx
      cases hx
      have s12 := s1.trans s2
      refine ⟨a, _, rfl, SqT.of (s12 _ _ hau), rfl, _, _, rfl, _, _, rfl, rfl, rfl, ?_⟩
      refine tYes_on (iteT ?_)
      refine ⟨_, rfl, _, rfl, ?_⟩
      refine tNil_on ⟨b, _, rfl, SqT.of (s12 _ _ hbu), ?_⟩
      refine tNil_on ⟨(by show 2 ≤ sizeLine; decide), fun q hq => ?_⟩
      refine ⟨_, upd_new hq h2D, by rw [List.length_map, lta]; exact small' (by have := Y.l5; omega), (s2.put (s2.free hq)).put hD, ?_⟩
      exact LinesIn.snoc (upd_new hq h2D) (fun xs z => by cases z) lta (fun j hj => let ⟨c, d, e1, e2, e3⟩ := hta j hj; ⟨c, d, e1, upd_new hq e2, upd_new hq e3⟩) (b := b) upd_same (upd_new hq (s12 _ _ hbu))
    · rintro H2 ⟨s2, ta, h2D, lta, hta⟩
      rw [List.length_map, hy3] at lta hta
      have D0 : H0 D = none := s1.free hD
      have hDn : h ≠ D := ne_of_none h1 hD
      have h2 := s2 _ _ h1
      have s3 := s1.trans s2
      refine ⟨_, rfl, h, CH, dx, _, rfl, h2, T.cl, T.nL, (by show 1 < 1000; decide), ?_⟩
      rw [show putF "lines" (V.ref D) [(("turns" : Str), nV TT)] = [(("turns" : Str), nV TT), ("lines", .ref D)] from rfl]
      refine ⟨_, rfl, h, CH, dx, _, rfl, upd_same, T.cl, T.nP, (by show 2 < 1000; decide), ?_⟩
      rw [upd_upd, show putF "present" (V.int 0) [(("turns" : Str), nV TT), ("lines", .ref D)] = [(("turns" : Str), nV TT), ("lines", .ref D), ("present", .int 0)] from rfl]
      have ht : ∀ (fs : List (Str × V)), LinesAt (upd H2 h (.ins CH dx fs)) D ls := fun fs => by
        refine ⟨ta, (upd_ne hDn.symm).trans h2D, lta, fun i hi => ?_⟩
        obtain ⟨a, b, e1, e2, e3⟩ := hta i hi
        exact ⟨a, b, e1, (upd_ne (ne_of e2 h2 (by intro z; cases z))).trans e2, (upd_ne (ne_of e3 h2 (by intro z; cases z))).trans e3⟩
      have L4 := ht [(("turns" : Str), nV TT), ("lines", .ref D), ("present", .int 0)]
      have s4 : Same H0 (upd H2 h (.ins CH dx [(("turns" : Str), nV TT), ("lines", .ref D), ("present", .int 0)])) := s3.put h0
      have h4 : upd H2 h (.ins CH dx [(("turns" : Str), nV TT), ("lines", .ref D), ("present", .int 0)]) h = _ := upd_same
      generalize upd H2 h (.ins CH dx [(("turns" : Str), nV TT), ("lines", .ref D), ("present", .int 0)]) = H4 at L4 s4 h4 ⊢
      refine ⟨Nat.zero_le _, fun as has => ?_⟩
      have as0 := s4.free has
      have L5 := L4.keep (Same.new (o := .lst []) has)
      have nas : h ≠ as := ne_of_none h4 has
      have nDa : D ≠ as := by
        obtain ⟨_, q, _⟩ := L4
        exact ne_of_none q has
      refine ⟨_, rfl, h, CH, dx, _, rfl, upd_new has h4, T.cl, T.nS, (by show 3 < 1000; decide), ?_⟩
      rw [show putF "stays" (V.ref as) [(("turns" : Str), nV TT), ("lines", .ref D), ("present", .int 0)] = [(("turns" : Str), nV TT), ("lines", .ref D), ("present", .int 0), ("stays", .ref as)] from rfl]
      have h5a : upd H4 as (.lst []) as = some (.lst []) := upd_same
      have s5 : Same H0 (upd H4 as (.lst [])) := s4.put as0
      have h5 : upd H4 as (.lst []) h = _ := upd_new has h4
      generalize upd H4 as (.lst []) = H5 at L5 s5 h5 h5a ⊢
      refine ⟨Nat.zero_le _, fun ag hag => ?_⟩
      have nag : h ≠ ag := ne_of_none (H := upd H5 h _) upd_same hag
      have hag5 : H5 ag = none := (upd_ne nag.symm).symm.trans hag
      have nas2 : as ≠ ag := ne_of_none h5a hag5
      have ag0 := s5.free hag5
      have nDg : D ≠ ag := by
        obtain ⟨_, q, _⟩ := L5
        exact ne_of_none q hag5
      refine ⟨_, rfl, h, CH, dx, _, rfl, upd_new hag upd_same, T.cl, T.nG, (by show 4 < 1000; decide), ?_⟩
      rw [show putF "given_so_far" (V.ref ag) [(("turns" : Str), nV TT), ("lines", .ref D), ("present", .int 0), ("stays", .ref as)] = handF TT D 0 as ag from rfl]
      refine k _ ⟨((s5.put h0).put ag0).put h0, h0, D, as, ag, [], [], ⟨⟨dx, upd_same⟩, ?_, ?_, rfl, fun i hi => absurd hi (Nat.not_lt_zero i), ?_, .nil, nas2, nDg⟩, rfl, D0, as0, ag0, by simp⟩
      · obtain ⟨la5, q1, q2, q3⟩ := L5
        refine ⟨la5, (upd_ne hDn.symm).trans ((upd_ne nDg).trans ((upd_ne hDn.symm).trans q1)), q2, fun i hi => ?_⟩
        obtain ⟨a, b, e1, e2, e3⟩ := q3 i hi
        have na : a ≠ h := ne_of e2 h5 (by intro z; cases z)
        have nb : b ≠ h := ne_of e3 h5 (by intro z; cases z)
        have na2 : a ≠ ag := ne_of_none e2 hag5
        have nb2 : b ≠ ag := ne_of_none e3 hag5
        exact ⟨a, b, e1, (upd_ne na).trans ((upd_ne na2).trans ((upd_ne na).trans e2)), (upd_ne nb).trans ((upd_ne nb2).trans ((upd_ne nb).trans e3))⟩
      · exact (upd_ne nas.symm).trans ((upd_ne nas2).trans ((upd_ne nas.symm).trans h5a))
      · exact (upd_ne nag.symm).trans upd_same
end
end Cy
end
section
/-! own rules: an own exception over an own one, its call of its base's __init__; methods that raise; isinstance of such an exception -/
namespace Cy
open PySem PySem.Spec PyProof.Rows L2
/-- B.__init__(self, ..), B an own class that has ValueError's -/
structure BaseI (K : PySem.W.Frag) (B : Addr) : Prop where
  sp : PySem.W.specialIn K (.ref B) "__getattribute__" = some (some (.builtin "type.__getattribute__"))
  rd : PySem.W.readsIn K B (.type "type") = true
  at_ : PySem.W.findCls K (.ref B) (.type "type") "__init__" = some (.val (.builtin "ValueError.__init__"))
section
variable {X : Cx} {e : Expr} {es : List Expr} {ta : TA} {x : Str} {p1 p2 pos : Pos} {B : Addr}
theorem pe_binit {pl : Sem Bool} (hg : Gl X x) (hm : X.mg x = some (.ref B)) (vB : BaseI X.K B) (ha : PA X (e :: es) ta)
    (hc : eval (.Call (.Attribute (.Name x p1) "__init__" p2) (e :: es) [] pos) X.env = (do
      let ov ← eval (.Name x p1) X.env
      standAt p2.atName
      let (f, first) ← holding [ov] (getMethod ov "__init__" pl)
      callWith pos f first (backTo pos (starEach (e :: es) X.env)) (backToKw pos (keywordEach [] X.env))) := by rfl) (hdb : (x == ("__debug__" : Str)) = false := by decide)
    (he : starEach (e :: es) X.env = (false, eval e X.env) :: starEach es X.env := by rfl) (hpl : (backTo pos (starEach es X.env)).any (·.1) = false := by rfl) :
    PE X (.Call (.Attribute (.Name x p1) "__init__" p2) (e :: es) [] pos) (tVeI X.K ta) := by
  refine ⟨fun pins s σ H Q I h => PySem.W.methodCall_KW (ld_glob I hg hm ?_ hdb) hc⟩
  refine PySem.W.method_cls I.kIn vB.sp (PySem.W.cls_value I.kIn vB.rd vB.at_ (by decide +kernel) ?_)
  show wpAny _ _ (callWith pos (Value.builtin "ValueError.__init__") [] (backTo pos (starEach (e :: es) X.env)) []) _ _ _
  refine PyProof.Rows.callWith_method1 (thn (ha.run pos pins _ σ H _ (I.tok _) h) fun us s1 ⟨vs, H1, I1, r1, a, C, ws, ev, hl, T, ea, q⟩ => ?_) he hpl
  subst ev
  cases r1 with
  | @cons _ u0 _ ur ra rw' =>
    obtain rfl : u0 = Value.ref a := ra
    exact oinit_ok T I1 ea (by rw [← Paired.length rw', sizeLine_eq]; omega) fun s' J => ⟨.non, H1, J, rfl, q⟩
end
/-- C(e, ..), its __init__ walked, the context kept None -/
theorem pmk_oexN {X : Cx} {CX : CXT} {x : Str} {e : Expr} {es : List Expr} {ta : TA} {p pos : Pos} {C fI : Addr} {k j : Nat} {fd : FuncData} {ps : List Str} {sp : Sp} (T : OexC X.K C) (iC : PySem.W.findIn X.K (.ref C) "__init__" = some (some (.ref fI))) (tI : PySem.W.typeIn X.K (.ref fI) = some (.type "function"))
    (F1 : FnOk X.prog X.w X.K X.mg X.base CX k fI fd ps sp) (hr0 : Room j X.A) (hk : k + 1 ≤ j) (hb : Binds X.K fd ps []) (hx : Passes CX X (fun _ _ _ => False)) (hg : Gl X x) (hm : X.mg x = some (.ref C)) (ha : PA X (e :: es) ta)
    (hdb : (x == ("__debug__" : Str)) = false := by decide) (he : starEach (e :: es) X.env = (false, eval e X.env) :: starEach es X.env := by rfl) (hpl : (backTo pos (starEach es X.env)).any (·.1) = false := by rfl) :
    L2N.PMk X (.Call (.Name x p) (e :: es) [] pos) (tMkO C sp [] ta) := by
  intro pins s σ H Q I h
  have hr := hr0.mono hk
  obtain ⟨nm, q, N, bs, bm, sn, sub, ab, col, dd, k0, k1, k2, k3, k5, hC, hbm⟩ := T.cls
  refine wpAny_Call_Name_kw (ld_glob I hg hm (PySem.W.callWith_K (h₀ := X.base) I.ok.mod.kin T.kC (thn (ha.run pos pins s σ H _ I h) fun us s1 ⟨vs, H1, I1, r1, hz, q1⟩ => ⟨I1.kIn, ?_⟩) he hpl) hdb)
  show wpAny _ _ (call (.ref C) us) _ _ _
  obtain ⟨hp, g, dr, tk, os⟩ := s1
  obtain ⟨a, ha0⟩ : ∃ a, a = hp.objs.size + 1 := ⟨_, rfl⟩
  have le : hp.objs.size ≤ a := by omega
  have hq := q1 a (I1.hok.fresh le)
  rw [List.append_nil] at hq
  have kk : ∀ b o, hp.get? b = some o → ((hp.push (PySem.W.kdv_tup us)).push (PySem.HandSPX.excO C hp.objs.size)).get? b = some o := fun b o e => Heap.get?_push_of_some _ (Heap.get?_push_of_some _ e)
  have I2 : Inv X pins σ (upd H1 a (exo a C none)) ⟨(hp.push (PySem.W.kdv_tup us)).push (PySem.HandSPX.excO C hp.objs.size), g, dr, tk, os⟩ := by
    refine I1.laid (t' := tk) (a := a) (o := exo a C none) kk le (exo_ok (t1 := hp.objs.size) ?_)
    rw [ha0]
    heap_get
  have r2 : Vals (V.ref a :: vs) (Value.ref a :: us) := .cons rfl r1
  have hl : (Value.ref a :: us ++ []).length = ps.length := by
    have z := r2.length
    rw [F1.len _ _ _ _ hq] at z
    rw [List.append_nil]
    exact z.symm
  have b2 := hb _ (Value.ref a :: us) I2.kIn hl
  rw [List.append_nil] at b2
  subst ha0
  refine wpAny_call (PySem.HandSPX.call_own F.excBase_ValueError (fun Y => PySem.HandSPX.refsVE_contains Y bm hbm) (I1.kIn _ _ hC) (PySem.W.looks_findIn I1.kIn iC) (fun self => PySem.W.bind_fn I1.kIn self tI) (by rw [← Paired.length r1, sizeLine_eq]; omega)
    (codeAny_mono (F1.run _ X.stack _ _ ⟨Value.ref (hp.objs.size + 1) :: us, []⟩ (Value.ref (hp.objs.size + 1) :: us) _ _ (fun _ _ _ => False) (hr.make C us []) (I2.env0.make C us []) b2 r2 hq) fun r s' hq' => ?_))
  cases r with
  | error er => exact hx pins σ _ _ er s' I2 hq'
  | ok fl =>
    cases fl with
    | ret u =>
      obtain ⟨v, H2, os2, bare2, un2, hok2, rv, ev, d, fs, ea, ed, hd1, q2⟩ := hq'
      subst ev
      obtain ⟨h2, g2, d2, t2, os'⟩ := s'
      obtain ⟨t0, G, J, kG, ge, hoe, na⟩ := mk_end0 (d2 := d2) (t2 := t2) I1 le kk un2 hok2 os2 bare2 ea ed hd1
      refine ⟨rv, ⟨hp.objs.size + 1, _, _, ⟨G, g2, d2, t2, os'⟩, _, .ref C, some d, rfl, J, kG, ge, hoe, ⟨rfl, rfl, fun vs hv => ?_⟩, rfl, rfl, na, rfl, bare2, raises_own T.exC T.tyC, q2⟩⟩
      cases hv
      rfl
    | next => exact False.elim hq'
    | brk => exact False.elim hq'
    | cont => exact False.elim hq'
section
variable {P : Program} {w : World} {K : PySem.W.Frag} {mg : Str → Option Value} {base : Heap}
/-- a def that may raise, the context of what it raises None -/
theorem okN {x qual : Str} {st : Stmt} {f : Addr} {fd : FuncData} {N ps : List Str} {k : Nat} {sp : Sp} (F : Fun K x qual st f fd) (S : FnScope N ps (defScope st)) (len : ∀ vs H Q E, sp vs H Q E → vs.length = ps.length)
    (hbody : ∀ (cdv : Value) (A : Around) (outer : List Env) (s : Shared) (H : Hp) (vs : List V) (Q : VK) (E : XK), Room k (A.deeper (envOfC qual (defScope st) s.heap.objs.size f cdv)) → sp vs H Q E →
      ∃ t, PSs (cxOf (L2N.CX P w) P w K mg base N qual (defScope st) f cdv A outer s H E) (defBody st) t ∧ t { nx := fun _ H' => Q .non H', rt := Q } (start N vs) H) : FnOk P w K mg base (L2N.CX P w) (k + 1) f fd ps sp := by
  obtain ⟨oc, od, kV, doc, pm, an, cdv, ct, osl, rfl, lk, hcd⟩ := F.ex
  exact fn_of lk hcd S len fun A outer s H vs Q E hr hsp => hbody cdv A outer s H vs Q E hr hsp
theorem passN {X : Cx} : Passes (L2N.CX X.prog X.w) X E0 := fun _ _ _ _ _ _ _ h => by
  obtain ⟨_, _, _, _, _, _, _, _, _, _, _, _, z⟩ := h
  exact z.elim
/-- around a body nothing is let out -/
theorem takesN0 {X : Cx} : L2N.Takes X (fun _ _ _ _ => False) := fun _ _ x => by
  obtain ⟨_, _, _, _, _, _, _, _, _, _, _, _, _, _, _, _, z⟩ := x
  exact z.elim
/-- a method that may raise -/
structure MetN (P : Program) (w : World) (K : PySem.W.Frag) (mg : Str → Option Value) (base : Heap) (k : Nat) (C : Addr) (m : Str) (sp : Sp) : Prop where
  ex : ∃ (f : Addr) (fd : FuncData) (ps : List Str), Cls K C ∧ Meth K C m f ∧ FnOk P w K mg base (L2N.CX P w) k f fd ps sp ∧ Binds K fd ps []
end
section
variable {X : Cx} {k j : Nat} {C : Addr} {m : Str} {sp : Sp} {E : L2.St → XK} {pos apos : Pos} {e o : Expr} {es : List Expr} {ta : TE} {t : TA}
theorem pe_mtN {pl : Sem Bool} (c : MetN X.prog X.w X.K X.mg X.base k C m sp) (hr : Room j X.A) (hk : k ≤ j) (hx : ∀ σ, PassesAt (L2N.CX X.prog X.w) X σ (E σ)) (he : PE X o ta) (ha : PA X (e :: es) t)
    (hst : starEach (e :: es) X.env = (false, eval e X.env) :: starEach es X.env := by rfl) (hpl : (backTo pos (starEach es X.env)).any (·.1) = false := by rfl)
    (ht : eval (.Call (.Attribute o m apos) (e :: es) [] pos) X.env = (do
      let ov ← eval o X.env
      standAt apos.atName
      let (f, first) ← holding [ov] (getMethod ov m pl)
      callWith pos f first (backTo pos (starEach (e :: es) X.env)) (backToKw pos (keywordEach [] X.env))) := by rfl) :
    PE X (.Call (.Attribute o m apos) (e :: es) [] pos) (L2H.tMethH C m sp E ta t) := by
  obtain ⟨f, fd, ps, hc, hm, F, hb⟩ := c.ex
  refine ⟨fun pins s σ H Q I h => PySem.W.methodCall_KW (pl := pl) (thn (he.run pins s σ H _ I h) fun u s1 ⟨x, H1, I1, rx, a, dx, fs, ex, ea, l, q⟩ => ?_) ht⟩
  subst ex
  obtain rfl : u = Value.ref a := rx
  exact getmeth_ok I1 ea hc hm l (PySem.W.callWith_K (first := [.ref a]) (h₀ := X.base) I.ok.mod.kin hm.kp (thn (ha.run pos pins s1 σ H1 _ I1 q) fun us s2 ⟨vs, H2, I2, r, q2⟩ =>
    ⟨I2.kIn, run_fnS (us := .ref a :: us) (vs := .ref a :: vs) F (hr.mono hk) hb (hx σ) I2 (.cons rfl r) q2⟩) hst hpl)
end
/-- isinstance(e, c), e a pinned exception that has a dict -/
def rIsD (K : PySem.W.Frag) (D a : Addr) (d : Option Addr) : List V → Hp → VK → Prop := fun xs H Q => ∃ (c : V) (cv : Value) (b : Bool) (dd : Addr) (fs : List (Str × V)), xs = [.ref a, c] ∧ d = some dd ∧ H dd = some (.xd fs) ∧ (∀ u, RelV c u → u = cv) ∧ PySem.W.kitOne K (.ref D) cv = some b ∧ Q (.bl b) H
theorem call_isD {X : Cx} {a D : Addr} {oe : Obj} {d : Option Addr} (C : ExcC X.K D) (hp : (a, oe) ∈ X.pn) (hz : Zc (.ref D) d oe) (hf : ∃ vs, oe.data = .fields vs) : CallR X (.builtin "isinstance") (rIsD X.K D a d) := by
  intro pins s σ H xs us Q I r h
  obtain ⟨c, cv, b, dd, fs, rfl, rfl, hd, hcv, e, q⟩ := h
  cases r with
  | cons rx rr =>
    cases rr with
    | cons rt rr =>
      cases rr
      cases rx
      have ec := hcv _ rt
      subst ec
      obtain ⟨hget, _⟩ := I.pin (a, oe) (List.mem_append_left _ hp)
      obtain ⟨vs, hv⟩ := hf
      obtain ⟨mA, hns, _⟩ : ObjOk X.prog X.w H s.heap dd (.xd fs) := I.hok dd _ hd
      obtain ⟨od, _, _, ho, _⟩ := hns
      have J : PySem.W.InstAt s.heap a oe D (some od) := ⟨hget, hz.1, by unfold PySem.W.notCls; rw [hv] <;> rfl, by rw [hz.2]; exact ho⟩
      have hcl : (PySem.W.clsIn X.K D).isSome = true := by
        obtain ⟨cd, hc, _⟩ := PySem.W.any_some C.hd
        rw [hc]; rfl
      exact PySem.W.kia_one (PySem.W.kitx_exc hcl C.hg C.hk C.hs C.ha C.hn C.ht C.hm) I.kIn J e (fun z => nomatch z) fun tk => ⟨.bl b, H, I.kept (t' := tk) fun _ _ z => z, rfl, q⟩
end Cy
end
section
namespace Cy
open PySem L2 NM
/-! ### the errors -/
structure TxErr (K : PySem.W.Frag) (mg : Str → Option Value) (CY CR CN : Addr) : Prop where
  mgY : mg "YardError" = some (.ref CY)
  bY : BaseI K CY
  xR : OexC K CR
  fR : PySem.W.findIn K (.ref CR) "some" = some none
  xN : OexC K CN
  fN : PySem.W.findIn K (.ref CN) "number" = some none
/-- an own exception that may be made by its name -/
structure MakX (P : Program) (w : World) (K : PySem.W.Frag) (mg : Str → Option Value) (base : Heap) (k : Nat) (x : Str) (C : Addr) (sp : Sp) : Prop where
  ex : ∃ (fI : Addr) (fd : FuncData) (ps : List Str), OexC K C ∧ PySem.W.findIn K (.ref C) "__init__" = some (some (.ref fI)) ∧ PySem.W.typeIn K (.ref fI) = some (.type "function") ∧ FnOk P w K mg base CX0 k fI fd ps sp ∧ mg x = some (.ref C) ∧ Binds K fd ps []
theorem pmk_x {X : Cx} {x : Str} {e : Expr} {es : List Expr} {ta : TA} {p pos : Pos} {C : Addr} {k j : Nat} {sp : Sp} (M : MakX X.prog X.w X.K X.mg X.base k x C sp) (hr : Room j X.A) (hk : k + 1 ≤ j) (hg : Gl X x) (ha : PA X (e :: es) ta)
    (hdb : (x == ("__debug__" : Str)) = false := by decide) (he : starEach (e :: es) X.env = (false, eval e X.env) :: starEach es X.env := by rfl) (hpl : (backTo pos (starEach es X.env)).any (·.1) = false := by rfl) :
    L2N.PMk X (.Call (.Name x p) (e :: es) [] pos) (tMkO C sp [] ta) := by
  obtain ⟨fI, fd, ps, T, iC, tI, F1, hm, hb⟩ := M.ex
  exact pmk_oexN T iC tI F1 hr hk hb C8.pass0 hg hm ha hdb he hpl
def spXInit (C : Addr) (f : Str) : Sp := fun vs H Q _ => ∃ (a : Addr) (y : V), vs = [.ref a, y] ∧ H a = some (exo a C none) ∧ ∀ dx, H dx = none → dx ≠ a → Q .non (upd (upd H dx (exd dx [(f, y)])) a (exo a C (some dx)))
/-- what such an __init__ leaves, seen from the raise -/
theorem xinit_mk {C a : Addr} {f : Str} {y : V} {H : Hp} {Q : XK} (ha : H a = none) (k : ∀ dx, H dx = none → Q (.ref C) (some dx) (upd H dx (.xd [(f, y)]))) :
    spXInit C f [.ref a, y] (upd H a (exo a C none)) (fun v H2 => v = .non ∧ ∃ (d : Addr) (fs : List (Str × V)), H2 a = some (exo a C (some d)) ∧ H2 d = some (exd d fs) ∧ H d = none ∧ Q (.ref C) (some d) (upd (del H2 a) d (.xd fs))) (fun _ _ _ => False) := by
  refine ⟨a, y, rfl, upd_same, fun dx hdx ne => ⟨rfl, dx, [(f, y)], upd_same, (upd_ne ne).trans upd_same, (upd_ne ne).symm.trans hdx, ?_⟩⟩
  have e : upd (del (upd (upd (upd H a (exo a C none)) dx (exd dx [(f, y)])) a (exo a C (some dx))) a) dx (.xd [(f, y)]) = upd H dx (.xd [(f, y)]) := by
    funext b
    by_cases h1 : b = dx
    · rw [h1, upd_same, upd_same]
    · rw [upd_ne h1, upd_ne h1]
      by_cases h2 : b = a
      · rw [h2, del_same, ha]
      · rw [del_ne h2, upd_ne h2, upd_ne h1, upd_ne h2]
  rw [e]
  exact k dx ((upd_ne ne).symm.trans hdx)
section
variable {P : Program} {w : World} {K : PySem.W.Frag} {mg : Str → Option Value} {base : Heap}
theorem ok_roominit {f CY CR CN : Addr} {fd : FuncData} (Fn : Fun K "__init__" "NoRoom.__init__" sNoRoomInit f fd) (T : TxErr K mg CY CR CN) : FnOk P w K mg base CX0 1 f fd ["self", "some"] (spXInit CR "some") := by
  refine Fn.ok scNoRoomInit (fun vs H Q E h => ?_) (fun cdv A outer sh H vs Q Ex hr h => ?_)
  · obtain ⟨a, y, rfl, _⟩ := h
    rfl
  · obtain ⟨a, y, rfl, ha, k⟩ := h
    refine ⟨_, pss_cons (ps_expr (pe_binit (by rfl) T.mgY T.bY (pa_cons (pv 0) (pa_cons pe_str pa_nil)))) <| pss_one (ps_ost (pv 0) (pv 1)), ?_⟩
    refine ⟨_, rfl, a, CR, _, rfl, (by show 1 ≤ 1000; decide), T.xR, ha, ?_⟩
    exact ⟨_, rfl, _, rfl, a, CR, rfl, T.xR, T.fR, .inl ⟨ha, fun dx hdx ne => k dx hdx ne⟩⟩
theorem ok_numinit {f CY CR CN : Addr} {fd : FuncData} (Fn : Fun K "__init__" "NoNumber.__init__" sNoNumberInit f fd) (T : TxErr K mg CY CR CN) : FnOk P w K mg base CX0 1 f fd ["self", "number"] (spXInit CN "number") := by
  refine Fn.ok scNoNumberInit (fun vs H Q E h => ?_) (fun cdv A outer sh H vs Q Ex hr h => ?_)
  · obtain ⟨a, y, rfl, _⟩ := h
    rfl
  · obtain ⟨a, y, rfl, ha, k⟩ := h
    refine ⟨_, pss_cons (ps_expr (pe_binit (by rfl) T.mgY T.bY (pa_cons (pv 0) (pa_cons pe_str pa_nil)))) <| pss_one (ps_ost (pv 0) (pv 1)), ?_⟩
    refine ⟨_, rfl, a, CN, _, rfl, (by show 1 ≤ 1000; decide), T.xN, ha, ?_⟩
    exact ⟨_, rfl, _, rfl, a, CN, rfl, T.xN, T.fN, .inl ⟨ha, fun dx hdx ne => k dx hdx ne⟩⟩
end
/-! ### check_room -/
def GuestsIn (H : Hp) (D : Addr) (gs : List Gu) (k : Nat) : Prop := ∃ ga : List Addr, H D = some (.lst (ga.map V.ref)) ∧ ga.length = k ∧ ∀ i, i < k → ∃ a : Addr, ga[i]? = some a ∧ H a = some (.tup (guV gs[i]!))
theorem GuestsIn.snoc {H : Hp} {D q : Addr} {gs : List Gu} {k : Nat} (h : GuestsIn H D gs k) (hq : H q = none) : GuestsIn (upd (upd H q (.tup (guV gs[k]!))) D (.lst ((Classical.choose h).map V.ref ++ [V.ref q]))) D gs (k + 1) := by
  obtain ⟨h1, h2, h3⟩ := Classical.choose_spec h
  generalize Classical.choose h = ga at h1 h2 h3 ⊢
  have qD : q ≠ D := none_ne hq h1
  refine ⟨ga ++ [q], by rw [upd_same, List.map_append]; rfl, by simp [h2], fun i hi => ?_⟩
  by_cases e : i = k
  · subst e
    exact ⟨q, by rw [List.getElem?_append_right (by omega), h2, Nat.sub_self]; rfl, (upd_ne qD).trans upd_same⟩
  · obtain ⟨a, q1, q2⟩ := h3 i (by omega)
    exact ⟨a, by rw [List.getElem?_append_left (by omega)]; exact q1, (upd_ne (ne_of q2 h1 (by intro z; cases z))).trans (upd_new hq q2)⟩
def spRoom (CH CS CR : Addr) : Sp := fun vs H Q E => ∃ (h dx al al2 as ag st : Addr) (T p : Nat) (ls : List Ln) (ss : List Sy), vs = [.ref h, .ref al, .ref st] ∧ H h = some (.ins CH dx (handF T al2 p as ag)) ∧ LinesAt H al ls ∧ StaysAt CS H st ss ∧
  YaOk T ls ∧ SyOk T ls.length ss ∧ p < T ∧ (∀ i, i < ss.length → 0 ≤ NM.rest ss[i]!) ∧ (∀ i, i < ss.length → 0 < NM.rest ss[i]! → p ≤ ss[i]!.g.last) ∧
  (∀ H', Same H H' → Can T ls p ss → Q .non H') ∧ (∀ H' dd l, Same H H' → H' dd = some (.xd [("some", .ref l)]) → E (.ref CR) (some dd) H')
theorem opens_str {ss : List Sy} {k : Nat} (h : k < (opens ss).length) : ((opens ss).map nV)[k]? = some (nV (opens ss)[k]!) := by
  rw [List.getElem?_map, List.getElem?_eq_getElem h, getElem!_pos _ k h]; rfl
section
variable {P : Program} {w : World} {K : PySem.W.Frag} {mg : Str → Option Value} {base : Heap}
theorem ok_room {f CH CS CR : Addr} {fd : FuncData} (Fn : Fun K "check_room" "Hand.check_room" sHandRoom f fd) (T : TxHand K mg CH CS) (ML : C8.Met P w K mg base 1 CS "lacking" (spLacks CS) []) (MA : C8.Met P w K mg base 2 CS "as_guest" (spAsGuest CS) []) (MF : C8.Met P w K mg base 1 CH "yard_left" (spLeft CH) [])
    (CL : C8.Cal P w K mg base 5 "least_lack" spLeast []) (CK : C8.Cal P w K mg base 5 "lacking_set" spLacking []) (MX : MakX P w K mg base 1 "NoRoom" CR (spXInit CR "some")) : FnOk P w K mg base (L2N.CX P w) 6 f fd ["self", "lines", "stays"] (spRoom CH CS CR) := by
  refine okN Fn scHandRoom (fun vs H Q E h => ?_) (fun cdv A outer sh H vs Q Ex hr h => ?_)
  · obtain ⟨h, dx, al, al2, as, ag, st, T, p, ls, ss, rfl, _⟩ := h
    rfl
  · obtain ⟨h, dx, al, al2, as, ag, st, TT, p, ls, ss, rfl, ob, hl, hst, Y, S, hp, h0, hlate, kQ, kE⟩ := h
    have nd := scHandRoom.nd
    have hu := hu_of hr
    refine ⟨_,
      pss_cons (ps_set (i := 3) nd rfl (.inr rfl) (pe_lc (own := [("number", 6), ("stay", 7)]) (g := gTup K 2 (gCons (gName 6) (gCons (gName 7) gNil))) (tt := tTest (tOp (rI0 fun i j => .bl (decide (j < i))) (tMeth CS "lacking" (spLacks CS) [] E0 (tVar 7) tNil) (tC (.int 0)))) (te := tVar 6) rfl nd (pi_enum (by rfl) T.enum (pa_cons (pv 2) pa_nil))
        (blkOk_by (N := ["self", "lines", "stays", "numbers", "yard", "guests", "number", "stay", "k"]) (sc := defScope sHandRoom) (by decide +kernel)) (fun _ _ _ _ _ => pg_tup rfl (pgs_cons (pg_name (i := 6) nd rfl (.inl rfl)) (pgs_cons (pg_name (i := 7) nd rfl (.inl rfl)) pgs_nil)))
        (fun _ _ _ _ _ => pts_one (pt_cmpR op_gt (C8.pe_mt0 ML hr (by decide) (pv 7)) pe_int (nomark _))) (fun _ _ _ _ _ => pv 6))) <|
      pss_cons (ps_if (pt_cmpR (op_eqD hr.units) (pv 3) (pe_lst pa_nil) (nomark _)) (pss_one ps_retN) pss_nil) <|
      pss_cons (ps_set (i := 4) nd rfl (.inl rfl) (C8.pe_mt MF hr (by decide) (pv 0) (pa_cons (pv 1) pa_nil))) <|
      pss_cons (ps_setLc (i := 5) (own := [("number", 6)]) (g := gName 6) (tt := tYes) (te := tMeth CS "as_guest" (spAsGuest CS) [] E0 (tOp (rIxL K) (tVar 2) (tVar 6)) (tCons (tFld K (tVar 0) "present") tNil)) rfl nd rfl rfl (sw_true rfl rfl rfl rfl) (pi_list (pv 3))
        (blkOk_by (N := ["self", "lines", "stays", "numbers", "yard", "guests", "number", "stay", "k"]) (sc := defScope sHandRoom) (by decide +kernel)) (fun _ _ _ _ _ => pg_name (i := 6) nd rfl (.inl rfl)) (fun _ _ _ _ _ => pts_nil)
        (fun _ _ _ _ _ => C8.pe_mt MA hr (by decide) (pe_ix ix_list (pv 2) (pv 6) (fun _ _ => rfl)) (pa_cons (pe_fld (pv 0) rfl) pa_nil))) <|
      pss_one (ps_if (pt_cmpR op_gt (C8.pe_c CL hr (by decide) (by rfl) (pa_cons (pv 4) (pa_cons (pv 5) pa_nil))) pe_int (nomark _))
        (pss_one (L2N.ps_raise rfl (L2N.takes_of rfl rfl rfl rfl) (pmk_x MX hr (by decide) (by rfl) (pa_cons (pe_lc (own := [("k", 8)]) (g := gName 8) (tt := tYes) (te := tOp (rIxL K) (tVar 3) (tVar 8)) rfl nd (pi_list (C8.pe_c CK hr (by decide) (by rfl) (pa_cons (pv 4) (pa_cons (pv 5) pa_nil))))
          (blkOk_by (N := ["self", "lines", "stays", "numbers", "yard", "guests", "number", "stay", "k"]) (sc := defScope sHandRoom) (by decide +kernel)) (fun _ _ _ _ _ => pg_name (i := 8) nd rfl (.inl rfl)) (fun _ _ _ _ _ => pts_nil) (fun _ _ _ _ _ => pe_ix ix_list (pv 3) (pv 8) (fun _ _ => rfl))) pa_nil)))) pss_nil), ?_⟩
    obtain ⟨sa, hsa, lsa, hsy⟩ := id hst
    have n8 := S.n8
    -- numbers = [..]
    refine ⟨_, rfl, st, _, rfl, SqL.of hsa, fun D hD => ?_⟩
    refine lc_it (walk_enum (K := K) (a := st) (xs := sa.map V.ref)) (fun i H1 => Same H H1 ∧ H1 D = some (.lst (((List.range i).filter fun j => decide ((0:Int) < NM.rest ss[j]!)).map nV))) ⟨Same.new hD, upd_same⟩ (fun i H1 _ hh => SqL.of (hh.1 _ _ hsa)) ?_ ?_
    · rintro i x H1 H2 hi ⟨s1, h1⟩ ⟨q, x1, x2, rfl, hq, rfl, hx1, hx2⟩
      cases hx1
      have hi' : i < ss.length := by
        rw [List.length_map, lsa] at hi; exact hi
      obtain ⟨a, ha, sy⟩ := hsy i hi'
      have hx2 : (sa.map V.ref)[i]? = some x2 := hx2
      rw [List.getElem?_map, ha] at hx2
      cases hx2
      have s2 : Same H (upd H1 q (.tup [.int (i : Nat), .ref a])) := s1.put (s1.free hq)
      have h2 := upd_new (o := .tup [.int (i : Nat), .ref a]) hq h1
      refine ⟨q, _, rfl, SqT.of upd_same, rfl, _, _, rfl, _, _, rfl, rfl, ?_⟩
      generalize upd H1 q (.tup [.int (i : Nat), .ref a]) = H2 at s2 h2 ⊢
      obtain ⟨dxs, ga, q1, q2⟩ := id (sy.keep s2)
      refine ⟨rfl, _, rfl, a, dxs, _, rfl, q1, rfl, ?_⟩
      refine tNil_on ?_
      refine ⟨a, _, rfl, sy.keep s2, _, _, rfl, rfl, _, rfl, ?_⟩
      rw [List.range_succ, List.filter_append, List.map_append]
      refine ite2 (fun e => ?_) (fun e => ?_)
      · refine ⟨_, rfl, _, h2, ?_, s2.put hD, ?_⟩
        · rw [List.length_map]
          have := List.length_filter_le (fun j => decide ((0:Int) < NM.rest ss[j]!)) (List.range i)
          rw [List.length_range] at this
          exact small' (by omega)
        · rw [List.filter_cons, if_pos e]; exact upd_same
      · refine ⟨s2, ?_⟩
        rw [List.filter_cons, if_neg (by simpa using e)]
        rw [h2]; simp
    rintro H1 ⟨s1, h1⟩
    rw [List.length_map, lsa] at h1
    have h1 : H1 D = some (.lst ((opens ss).map nV)) := h1
    have D0 : H D = none := hD
    -- if numbers == []
    refine ⟨_, rfl, Nat.zero_le _, fun z hz => ?_⟩
    have h1z := upd_new (o := .lst []) hz h1
    refine eqI (ns := (opens ss).map Int.ofNat) (ms := []) (SqL.of (by rw [← mapN]; exact h1z)) (SqL.of upd_same) ⟨_, rfl, ?_⟩
    have s2 : Same H (upd H1 z (.lst [])) := s1.trans (Same.new hz)
    generalize upd H1 z (.lst []) = H2 at s2 h1z
    refine ite2 (fun c => ?_) (fun c => ?_)
    · have he : opens ss = [] := List.map_eq_nil_iff.mp (of_decide_eq_true c)
      refine kQ H2 s2 (can_none Y (fun i hi => ?_) (fun i hi => S.most i hi))
      have z0 := h0 i hi
      refine Decidable.byContradiction fun c => ?_
      have m : i ∈ opens ss := mem_opens.mpr ⟨hi, by omega⟩
      rw [he] at m; cases m
    · -- yard = self.yard_left(lines)
      refine ⟨_, rfl, h, dx, _, rfl, s2 _ _ ob, rfl, _, rfl, ?_⟩
      refine tNil_on ⟨h, dx, al, al2, as, ag, TT, p, ls, rfl, s2 _ _ ob, hl.keep s2, Y, hp, fun H3 y s3 y0 hy => ?_⟩
      have s13 := s2.trans s3
      -- guests = [..]
      refine ⟨_, rfl, D, rfl, ⟨_, SqL.of (s3 _ _ h1z)⟩, fun G hG => ?_⟩
      refine lc_list (K := K) (a := D) (xs := (opens ss).map nV) (fun i H4 => Same H3 H4 ∧ GuestsIn H4 G (red p ss) i) ⟨Same.new hG, [], upd_same, rfl, fun i hi => absurd hi (Nat.not_lt_zero i)⟩ (fun i H4 _ hh => SqL.of (hh.1 _ _ (s3 _ _ h1z))) ?_ ?_
      · rintro i x H4 hi ⟨s4, gi4⟩
        have hi' : i < (opens ss).length := by
          have := (List.getElem?_eq_some_iff.mp hi).1
          rw [List.length_map] at this; exact this
        rw [opens_str hi'] at hi
        cases hi
        obtain ⟨o1, o2⟩ := opens_at hi'
        obtain ⟨a, ha, sy⟩ := hsy _ o1
        have s14 := s13.trans s4
        obtain ⟨dxs, ga, q1, q2⟩ := id (sy.keep s14)
        refine ⟨rfl, tYes_on (iteT ?_)⟩
        refine ⟨_, rfl, _, rfl, st, _, _, .ref a, rfl, rfl, SqL.of (s14 _ _ hsa), atI_nat (by rw [List.getElem?_map, ha]; rfl), a, dxs, _, rfl, q1, rfl, _, rfl, h, CH, dx, _, _, rfl, s14 _ _ ob, T.cl, T.nP, rfl, ?_⟩
        refine tNil_on ⟨a, ss[(opens ss)[i]!]!, p, rfl, sy.keep s14, hlate _ o1 o2, fun q hq => ?_⟩
        have e := red_at (p := p) hi'
        rw [← e]
        have gs := gi4.snoc hq
        have cs := Classical.choose_spec gi4
        refine ⟨_, upd_new hq cs.1, ?_, ?_, gs⟩
        · rw [List.length_map, cs.2.1]
          have := opens_len (ss := ss)
          exact small' (by omega)
        · exact (s4.put (s4.free hq)).put hG
      · rintro H4 ⟨s4, ga4, g1, g2, g3⟩
        rw [List.length_map] at g2 g3
        have s14 := s13.trans s4
        have GA : GuestsAt H4 G (red p ss) := ⟨ga4, g1, by rw [red_len]; exact g2, fun i hi => g3 i (by rw [red_len] at hi; exact hi)⟩
        have YL := dropL_ok (T := TT) Y hp
        have GO : GuOk (TT - p) (dropL p ls).length (red p ss) := red_ok S hlate
        -- if least_lack(yard, guests) > 0
        refine ⟨_, rfl, _, rfl, ?_⟩
        refine tNil_on ⟨y, G, TT - p, dropL p ls, red p ss, rfl, hy.keep s4, GA, YL, GO, fun H5 L tot F s5 DN => ?_⟩
        refine ⟨_, _, rfl, rfl, _, rfl, ?_⟩
        have s15 := s14.trans s5
        refine ite2 (fun c => ?_) (fun c => ?_)
        · -- raise NoRoom([..])
          refine ⟨_, rfl, _, rfl, ?_⟩
          refine tNil_on ⟨y, G, TT - p, dropL p ls, red p ss, rfl, (hy.keep s4).keep s5, GA.keep s5, YL, GO, fun H6 kl ks s6 kl0 hkl hks lks => ?_⟩
          have s16 := s15.trans s6
          have sH1 : Same H2 H6 := ((s3.trans s4).trans s5).trans s6
          refine ⟨kl, rfl, ⟨_, SqL.of hkl⟩, fun M hM => ?_⟩
          refine lc_list (K := K) (a := kl) (xs := ks.map nV) (fun i H7 => Same H6 H7 ∧ ∃ ms : List V, H7 M = some (.lst ms) ∧ ms.length = i) ⟨Same.new hM, [], upd_same, rfl⟩ (fun i H7 _ hh => SqL.of (hh.1 _ _ hkl)) ?_ ?_
          · rintro i x H7 hi ⟨s7, ms, hms, lms⟩
            have hi' : i < ks.length := by
              have := (List.getElem?_eq_some_iff.mp hi).1
              rw [List.length_map] at this; exact this
            rw [List.getElem?_map, List.getElem?_eq_getElem hi'] at hi
            cases hi
            have hk := hks ks[i] (List.getElem_mem hi')
            rw [red_len] at hk
            refine ⟨rfl, tYes_on (iteT ?_)⟩
            refine ⟨_, rfl, _, rfl, D, _, _, _, rfl, rfl, SqL.of (s7 _ _ (sH1 _ _ h1z)), atI_nat (opens_str hk), _, hms, ?_, s7.put hM, _, upd_same, by simp [lms]⟩
            rw [red_len] at lks
            have := opens_len (ss := ss)
            exact small' (by omega)
          · rintro H7 ⟨s7, ms, hms, lms⟩
            refine tNil_on ⟨(by show 1 ≤ 1000; decide), fun a ha => ?_⟩
            refine xinit_mk ha fun dx2 hdx2 => ?_
            exact kE _ dx2 M ((s16.trans s7).trans (Same.new hdx2)) upd_same
        · have c : ¬ (0 < wants (red p ss) - tot) := by simpa using c
          have fl := DN.fill GO YL (by omega)
          exact kQ H5 s15 ⟨_, _, fl.prom h0 (fun i hi => S.most i hi) hlate⟩
end
end Cy
end
section
namespace Cy
open PySem L2 NM
structure TxIs (K : PySem.W.Frag) (mg : Str → Option Value) : Prop where
  isi : mg "isinstance" = none
  int : mg "int" = none
  bool : mg "bool" = none
  tuple : mg "tuple" = none
  len : mg "len" = none
  bey : ∃ t, mg "BEYOND" = some (.int (10 ^ 30) t)
def spWhole : Sp := fun vs H Q _ => ∃ t lo hi : Int, vs = [.int t, .int lo, .int hi] ∧ lo ≤ t ∧ t < hi ∧ Q (.bl true) H
structure GuVal (T nl : Nat) (u : Gu) : Prop where
  line : u.line < nl
  fl : u.first ≤ u.last
  lt : u.last < T
  w1 : 1 ≤ u.want
  w2 : u.want < 10 ^ 30
  m1 : 1 ≤ u.most
  m2 : u.most < 10 ^ 30
def spIsGuest : Sp := fun vs H Q _ => ∃ (y g : Addr) (T : Nat) (ls : List Ln) (u : Gu), vs = [.ref y, .ref g] ∧ YardAt H y T ls ∧ H g = some (.tup (guV u)) ∧ GuVal T ls.length u ∧ Q (.bl true) H
def spStayOf (CH : Addr) : Sp := fun vs H Q _ => ∃ (h dx al as ag s : Addr) (T p i : Nat) (sa : List Addr), vs = [.ref h, nV i] ∧ H h = some (.ins CH dx (handF T al p as ag)) ∧ H as = some (.lst (sa.map V.ref)) ∧ sa.length ≤ 100 ∧ sa[i]? = some s ∧ Q (.ref s) H
def spGot (CH CS : Addr) : Sp := fun vs H Q _ => ∃ (H0 : Hp) (h : Addr) (T p i : Nat) (ls : List Ln) (ss : List Sy), vs = [.ref h, nV i] ∧ HandAt CH CS H0 H h T ls p ss ∧ ss.length ≤ 100 ∧ i < ss.length ∧ Q (.int ss[i]!.given) H
def spRest (CH CS : Addr) : Sp := fun vs H Q _ => ∃ (H0 : Hp) (h : Addr) (T p i : Nat) (ls : List Ln) (ss : List Sy), vs = [.ref h, nV i] ∧ HandAt CH CS H0 H h T ls p ss ∧ ss.length ≤ 100 ∧ i < ss.length ∧ Q (.int (NM.rest ss[i]!)) H
/-- one has left -/
def outS (ss : List Sy) (i : Nat) : List Sy := ss.set i { ss[i]! with gone := true }
def spLeave (CH CS CN : Addr) : Sp := fun vs H Q E => ∃ (H0 : Hp) (h : Addr) (T p i : Nat) (ls : List Ln) (ss : List Sy), vs = [.ref h, nV i] ∧ HandAt CH CS H0 H h T ls p ss ∧ ss.length ≤ 100 ∧ i < ss.length ∧
  (ss[i]!.gone = false → ∀ H', HandAt CH CS H0 H' h T ls p (outS ss i) → Q (.int ss[i]!.given) H') ∧ (ss[i]!.gone = true → ∀ H' dd, Same H H' → H' dd = some (.xd [("number", nV i)]) → E (.ref CN) (some dd) H')
section
variable {P : Program} {w : World} {K : PySem.W.Frag} {mg : Str → Option Value} {base : Heap}
theorem ok_whole {f : Addr} {fd : FuncData} (Fn : Fun K "is_whole" "is_whole" sWhole f fd) (T : TxIs K mg) : FnOk P w K mg base CX0 1 f fd ["thing", "low", "beyond"] spWhole := by
  refine Fn.ok scWhole (fun vs H Q E h => ?_) (fun cdv A outer sh H vs Q Ex hr h => ?_)
  · obtain ⟨t, lo, hi, rfl, _⟩ := h
    rfl
  · obtain ⟨t, lo, hi, rfl, h1, h2, k⟩ := h
    refine ⟨_, pss_one (ps_ret (pe_and (pe_callB call_isi (by rfl) T.isi (by decide +kernel) (pa_cons (pv 0) (pa_cons (pe_bltn (by rfl) T.int (v := .ty "int") (u := .type "int") (by decide +kernel) rfl) pa_nil)))
      (pe_and (pe_not (pe_callB call_isi (by rfl) T.isi (by decide +kernel) (pa_cons (pv 0) (pa_cons (pe_bltn (by rfl) T.bool (v := .ty "bool") (u := .type "bool") (by decide +kernel) rfl) pa_nil)))) (pe_one (pe_chain op_le op_lt (pv 1) (pv 0) (pv 2)))))), ?_⟩
    refine ⟨_, rfl, ?_⟩
    refine ⟨.int t, _, _, _, _, rfl, .ty "int", .base (.int t), kit_ty (r := true) (by decide +kernel), _, rfl, ?_⟩
    refine iteT ?_
    refine ⟨_, rfl, ?_⟩
    refine ⟨.int t, _, _, _, _, rfl, .ty "bool", .base (.int t), kit_ty (r := false) (by decide +kernel), _, rfl, _, rfl, ?_⟩
    refine iteT ?_
    refine ⟨_, rfl, _, rfl, _, _, rfl, rfl, _, rfl, ?_⟩
    refine ite2 (fun _ => ?_) (fun c => absurd h1 (by simpa using c))
    refine ⟨_, rfl, _, _, rfl, rfl, ?_⟩
    show Q (.bl (decide (t < hi))) H
    rw [decide_eq_true h2]
    exact k
theorem ok_isguest {f : Addr} {fd : FuncData} (Fn : Fun K "is_guest" "is_guest" sGuest f fd) (T : TxIs K mg) (CW : C8.Cal P w K mg base 1 "is_whole" spWhole []) : FnOk P w K mg base CX0 2 f fd ["yard", "thing"] spIsGuest := by
  refine Fn.ok scGuest (fun vs H Q E h => ?_) (fun cdv A outer sh H vs Q Ex hr h => ?_)
  · obtain ⟨y, g, TT, ls, u, rfl, _⟩ := h
    rfl
  · obtain ⟨y, g, TT, ls, u, rfl, ⟨ly, la, hy1, hy2, hy3, _⟩, hg, V, k⟩ := h
    obtain ⟨bt, hbt⟩ := T.bey
    have nd := scGuest.nd
    refine ⟨_,
      pss_cons (ps_if (PW.pt (pw_or (pt_not (pt_val (pe_callB call_isi (by rfl) T.isi (by decide +kernel) (pa_cons (pv 1) (pa_cons (pe_bltn (by rfl) T.tuple (v := .ty "tuple") (u := .type "tuple") (by decide +kernel) rfl) pa_nil))))) (pw_or1 (pt_cmpR op_ne (pe_callB call_len_seq (by rfl) T.len boot_len (pa_cons (pv 1) pa_nil)) pe_int (nomark _))))) (pss_one (ps_ret pe_bl)) pss_nil) <|
      pss_cons (ps_asg (pv 1) (pg_tup rfl (pgs_cons (pg_name (i := 2) nd rfl (.inl rfl)) (pgs_cons (pg_name (i := 3) nd rfl (.inl rfl)) (pgs_cons (pg_name (i := 4) nd rfl (.inl rfl)) (pgs_cons (pg_name (i := 5) nd rfl (.inl rfl)) (pgs_cons (pg_name (i := 6) nd rfl (.inl rfl)) pgs_nil))))))) <|
      pss_cons (ps_if (PW.pt (pw_or (pt_not (pt_val (C8.pe_c CW hr (by decide) (by rfl) (pa_cons (pv 2) (pa_cons pe_int (pa_cons (pe_callB call_len_seq (by rfl) T.len boot_len (pa_cons (pe_ix ix_tup (pv 0) pe_int (fun _ _ => rfl)) pa_nil)) pa_nil))))))
        (pw_or1 (pt_not (pt_val (C8.pe_c CW hr (by decide) (by rfl) (pa_cons (pv 3) (pa_cons pe_int (pa_cons (pe_ix ix_tup (pv 0) pe_int (fun _ _ => rfl)) pa_nil))))))))) (pss_one (ps_ret pe_bl)) pss_nil) <|
      pss_cons (ps_if (pt_not (pt_val (C8.pe_c CW hr (by decide) (by rfl) (pa_cons (pv 4) (pa_cons (pv 3) (pa_cons (pe_ix ix_tup (pv 0) pe_int (fun _ _ => rfl)) pa_nil)))))) (pss_one (ps_ret pe_bl)) pss_nil) <|
      pss_one (ps_ret (pe_and (C8.pe_c CW hr (by decide) (by rfl) (pa_cons (pv 5) (pa_cons pe_int (pa_cons (C8.pe_gc (v := .int (10 ^ 30)) (by rfl) ⟨_, hbt, ⟨bt, rfl⟩⟩) pa_nil)))) (pe_one (C8.pe_c CW hr (by decide) (by rfl) (pa_cons (pv 6) (pa_cons pe_int (pa_cons (C8.pe_gc (v := .int (10 ^ 30)) (by rfl) ⟨_, hbt, ⟨bt, rfl⟩⟩) pa_nil))))))), ?_⟩
    refine ⟨_, rfl, ?_⟩
    refine ⟨.ref g, _, _, _, _, rfl, .ty "tuple", .base (.tup hg), kit_ty (r := true) (by decide +kernel), _, rfl, ?_⟩
    refine iteF ?_
    refine ⟨_, rfl, g, _, rfl, .inr (SqT.of hg), rfl, _, rfl, ?_⟩
    refine iteF ?_
    refine ⟨_, rfl, g, _, rfl, SqT.of hg, rfl, _, _, rfl, _, _, rfl, _, _, rfl, _, _, rfl, _, _, rfl, rfl, ?_⟩
    refine ⟨_, rfl, _, rfl, y, _, _, .ref ly, rfl, rfl, SqT.of hy1, rfl, ly, _, rfl, .inr (SqT.of hy2), ?_⟩
    refine tNil_on ⟨_, _, _, rfl, by omega, ?_, _, rfl, ?_⟩
    · rw [List.length_map, hy3]; have := V.line; omega
    refine iteF ?_
    refine ⟨_, rfl, _, rfl, y, _, _, nV TT, rfl, rfl, SqT.of hy1, rfl, ?_⟩
    refine tNil_on ⟨_, _, _, rfl, by omega, ?_, _, rfl, ?_⟩
    · have := V.fl; have := V.lt; omega
    refine iteF ?_
    refine ⟨_, rfl, _, rfl, _, rfl, y, _, _, nV TT, rfl, rfl, SqT.of hy1, rfl, ?_⟩
    refine tNil_on ⟨_, _, _, rfl, ?_, ?_, _, rfl, ?_⟩
    · have := V.fl; omega
    · have := V.lt; omega
    refine iteF ?_
    refine ⟨_, rfl, ?_⟩
    refine ⟨_, _, _, rfl, V.w1, V.w2, _, rfl, ?_⟩
    refine iteT ?_
    refine ⟨_, rfl, ?_⟩
    exact ⟨_, _, _, rfl, V.m1, V.m2, k⟩
theorem ok_stayof {f CH CS : Addr} {fd : FuncData} (Fn : Fun K "stay_of" "Hand.stay_of" sHandStay f fd) (T : TxHand K mg CH CS) : FnOk P w K mg base CX0 1 f fd ["self", "number"] (spStayOf CH) := by
  refine Fn.ok scHandStay (fun vs H Q E h => ?_) (fun cdv A outer sh H vs Q Ex hr h => ?_)
  · obtain ⟨h, dx, al, as, ag, s, TT, p, i, sa, rfl, _⟩ := h
    rfl
  · obtain ⟨h, dx, al, as, ag, s, TT, p, i, sa, rfl, ob, has, h8, hs, k⟩ := h
    refine ⟨_, pss_cons (ps_if (pt_not (pt_chain op_le op_lt pe_int (pv 1) (pe_callB call_len_seq (by rfl) T.len boot_len (pa_cons (pe_fld (pv 0) rfl) pa_nil)))) (pss_one ps_never) pss_nil) <|
      pss_one (ps_ret (pe_ix ix_list (pe_fld (pv 0) rfl) (pv 1) (fun _ _ => rfl))), ?_⟩
    have hi : i < sa.length := (List.getElem?_eq_some_iff.mp hs).1
    refine ⟨_, rfl, _, _, rfl, rfl, _, rfl, ?_⟩
    refine ite2 (fun _ => ?_) (fun c => absurd c (by simp))
    refine ⟨_, rfl, h, CH, dx, _, _, rfl, ob, T.cl, T.nS, rfl, ?_⟩
    refine tNil_on ⟨as, _, rfl, .inl (SqL.of has), _, _, rfl, rfl, _, rfl, ?_⟩
    refine ite2 (fun c => absurd c (by simp; exact hi)) (fun _ => ?_)
    exact ⟨_, rfl, h, CH, dx, _, _, rfl, ob, T.cl, T.nS, rfl, _, rfl, as, _, _, .ref s, rfl, rfl, SqL.of has, atI_nat (by rw [List.getElem?_map, hs]; rfl), k⟩
end
end Cy
end
section
namespace Cy
open PySem L2 NM
def newS (u : Gu) : Sy := ⟨u, 0, false⟩
def spCome (CH CS CR : Addr) : Sp := fun vs H Q E => ∃ (H0 : Hp) (h g : Addr) (T p : Nat) (ls : List Ln) (ss : List Sy) (u : Gu), vs = [.ref h, .ref g] ∧ HandAt CH CS H0 H h T ls p ss ∧ H g = some (.tup (guV u)) ∧ GuVal T ls.length u ∧ p ≤ u.first ∧
  YaOk T ls ∧ SyOk T ls.length (ss ++ [newS u]) ∧ p < T ∧ (∀ i, i < (ss ++ [newS u]).length → 0 ≤ NM.rest (ss ++ [newS u])[i]!) ∧ (∀ i, i < (ss ++ [newS u]).length → 0 < NM.rest (ss ++ [newS u])[i]! → p ≤ (ss ++ [newS u])[i]!.g.last) ∧
  (∀ H', HandAt CH CS H0 H' h T ls p (ss ++ [newS u]) → Can T ls p (ss ++ [newS u]) → Q (nV ss.length) H') ∧ (∀ H' dd l, Same H H' → H' dd = some (.xd [("some", .ref l)]) → E (.ref CR) (some dd) H')
theorem made_same2 {H : Hp} {x dx C : Addr} {fs : List (Str × V)} (hx : H x = none) (hdx : H dx = none) : Same H (upd (upd H dx (.own x)) x (.ins C dx fs)) := fun b o e => by
  rw [upd_ne (ne_of_none e hx), upd_ne (ne_of_none e hdx)]; exact e
theorem HandRaw.setStays {CH CS : Addr} {H : Hp} {h al as ag st dx : Addr} {sa sa2 : List Addr} {gl : List V} {T p : Nat} {ls : List Ln} {ss ss2 : List Sy} (N : HandRaw CH CS H h al as ag sa gl T ls p ss) (hst : H st = some (.lst (sa2.map V.ref))) (hl : sa2.length = ss2.length)
    (hsy : ∀ i, i < ss2.length → ∃ a : Addr, sa2[i]? = some a ∧ StayAt CS H a ss2[i]!) (nd : sa2.Nodup) (ng : st ≠ ag) : HandRaw CH CS (upd H h (.ins CH dx (handF T al p st ag))) h al st ag sa2 gl T ls p ss2 := by
  obtain ⟨dx0, ob⟩ := N.obj
  obtain ⟨la, hl1, hl2, hl3⟩ := id N.lines
  refine ⟨⟨dx, upd_same⟩, ⟨la, (upd_ne (ne_of hl1 ob (by intro z; cases z))).trans hl1, hl2, fun i hi => ?_⟩, (upd_ne (ne_of hst ob (by intro z; cases z))).trans hst, hl, fun i hi => ?_, (upd_ne (ne_of N.gv ob (by intro z; cases z))).trans N.gv, nd, ng, N.nl⟩
  · obtain ⟨b, c, q1, q2, q3⟩ := hl3 i hi
    exact ⟨b, c, q1, (upd_ne (ne_of q2 ob (by intro z; cases z))).trans q2, (upd_ne (ne_of q3 ob (by intro z; cases z))).trans q3⟩
  · obtain ⟨b, q1, dxb, gb, q2, q3⟩ := hsy i hi
    exact ⟨b, q1, dxb, gb, (upd_ne (ne_of q2 ob (by intro z; cases z))).trans q2, (upd_ne (ne_of q3 ob (by intro z; cases z))).trans q3⟩
section
variable {P : Program} {w : World} {K : PySem.W.Frag} {mg : Str → Option Value} {base : Heap}
theorem ok_got {f CH CS : Addr} {fd : FuncData} (Fn : Fun K "got" "Hand.got" sHandGot f fd) (T : TxHand K mg CH CS) (MS : C8.Met P w K mg base 1 CH "stay_of" (spStayOf CH) []) : FnOk P w K mg base CX0 2 f fd ["self", "number"] (spGot CH CS) := by
  refine Fn.ok scHandGot (fun vs H Q E h => ?_) (fun cdv A outer sh H vs Q Ex hr h => ?_)
  · obtain ⟨H0, h, TT, p, i, ls, ss, rfl, _⟩ := h
    rfl
  · obtain ⟨H0, h, TT, p, i, ls, ss, rfl, ⟨s0, h0, al, as, ag, sa, gl, N, _⟩, h8, hi, k⟩ := h
    refine ⟨_, pss_one (ps_ret (pe_fld (C8.pe_mt MS hr (by decide) (pv 0) (pa_cons (pv 1) pa_nil)) rfl)), ?_⟩
    obtain ⟨dx, ob⟩ := N.obj
    obtain ⟨s, hs, dxs, ga, q1, q2⟩ := N.sy i hi
    refine ⟨_, rfl, h, dx, _, rfl, ob, rfl, _, rfl, ?_⟩
    refine tNil_on ⟨h, dx, al, as, ag, s, TT, p, i, sa, rfl, ob, N.st, by rw [N.sl]; exact h8, hs, ?_⟩
    exact ⟨s, CS, dxs, _, _, rfl, q1, T.scl, T.sV, rfl, k⟩
theorem ok_rest {f CH CS : Addr} {fd : FuncData} (Fn : Fun K "rest" "Hand.rest" sHandRest f fd) (MS : C8.Met P w K mg base 1 CH "stay_of" (spStayOf CH) []) (ML : C8.Met P w K mg base 1 CS "lacking" (spLacks CS) []) : FnOk P w K mg base CX0 2 f fd ["self", "number"] (spRest CH CS) := by
  refine Fn.ok scHandRest (fun vs H Q E h => ?_) (fun cdv A outer sh H vs Q Ex hr h => ?_)
  · obtain ⟨H0, h, TT, p, i, ls, ss, rfl, _⟩ := h
    rfl
  · obtain ⟨H0, h, TT, p, i, ls, ss, rfl, ⟨s0, h0, al, as, ag, sa, gl, N, _⟩, h8, hi, k⟩ := h
    refine ⟨_, pss_one (ps_ret (C8.pe_mt0 ML hr (by decide) (C8.pe_mt MS hr (by decide) (pv 0) (pa_cons (pv 1) pa_nil)))), ?_⟩
    obtain ⟨dx, ob⟩ := N.obj
    obtain ⟨s, hs, dxs, ga, q1, q2⟩ := N.sy i hi
    refine ⟨_, rfl, h, dx, _, rfl, ob, rfl, _, rfl, ?_⟩
    refine tNil_on ⟨h, dx, al, as, ag, s, TT, p, i, sa, rfl, ob, N.st, by rw [N.sl]; exact h8, hs, ?_⟩
    refine ⟨s, dxs, _, rfl, q1, rfl, ?_⟩
    exact tNil_on ⟨s, ss[i]!, rfl, ⟨dxs, ga, q1, q2⟩, k⟩
theorem ok_leave {f CH CS CN : Addr} {fd : FuncData} (Fn : Fun K "leave" "Hand.leave" sHandLeave f fd) (T : TxHand K mg CH CS) (MS : C8.Met P w K mg base 1 CH "stay_of" (spStayOf CH) []) (MX : MakX P w K mg base 1 "NoNumber" CN (spXInit CN "number")) : FnOk P w K mg base (L2N.CX P w) 3 f fd ["self", "number"] (spLeave CH CS CN) := by
  refine okN Fn scHandLeave (fun vs H Q E h => ?_) (fun cdv A outer sh H vs Q Ex hr h => ?_)
  · obtain ⟨H0, h, TT, p, i, ls, ss, rfl, _⟩ := h
    rfl
  · obtain ⟨H0, h, TT, p, i, ls, ss, rfl, ⟨s0, h0, al, as, ag, sa, gl, N, e1, e2, e3, e4, e5⟩, h8, hi, kQ, kE⟩ := h
    have nd := scHandLeave.nd
    refine ⟨_, pss_cons (ps_set (i := 2) nd rfl (.inl rfl) (C8.pe_mt MS hr (by decide) (pv 0) (pa_cons (pv 1) pa_nil))) <|
      pss_cons (ps_if (pt_val (pe_fld (pv 2) rfl)) (pss_one (L2N.ps_raise rfl (L2N.takes_of rfl rfl rfl rfl) (pmk_x MX hr (by decide) (by rfl) (pa_cons (pv 1) pa_nil)))) pss_nil) <|
      pss_cons (ps_fld (pv 2) pe_bl rfl) <| pss_one (ps_ret (pe_fld (pv 2) rfl)), ?_⟩
    obtain ⟨dx, ob⟩ := N.obj
    obtain ⟨s, hs, dxs, ga, q1, q2⟩ := N.sy i hi
    refine ⟨_, rfl, h, dx, _, rfl, ob, rfl, _, rfl, ?_⟩
    refine tNil_on ⟨h, dx, al, as, ag, s, TT, p, i, sa, rfl, ob, N.st, by rw [N.sl]; exact h8, hs, ?_⟩
    refine ⟨_, rfl, s, CS, dxs, _, _, rfl, q1, T.scl, T.sN, rfl, ss[i]!.gone, rfl, ?_⟩
    refine ite2 (fun c => ?_) (fun c => ?_)
    · refine ⟨_, rfl, ?_⟩
      refine tNil_on ⟨(by show 1 ≤ 1000; decide), fun a ha => ?_⟩
      exact xinit_mk ha fun dx2 hdx2 => kE c _ dx2 (Same.new hdx2) upd_same
    · have c : ss[i]!.gone = false := by simpa using c
      refine ⟨_, rfl, s, CS, dxs, _, rfl, q1, T.scl, T.sN, (by show 3 < 1000; decide), ?_⟩
      rw [show putF "gone" (V.bl true) (stayF ga ss[i]!.given ss[i]!.gone) = stayF ga ss[i]!.given true from rfl]
      refine ⟨_, rfl, s, CS, dxs, _, _, rfl, upd_same, T.scl, T.sV, rfl, ?_⟩
      have N2 := N.setS (dx := dxs) (ga := ga) (sy := { ss[i]! with gone := true }) hs hi q2
      exact kQ c _ ⟨s0.put (e5 s (List.mem_of_getElem? hs)), h0, al, as, ag, sa, gl, N2, e1, e2, e3, e4, e5⟩
theorem ok_come {f CH CS CR : Addr} {fd : FuncData} (Fn : Fun K "come" "Hand.come" sHandCome f fd) (T : TxHand K mg CH CS) (MY : C8.Met P w K mg base 1 CH "yard_now" (spYardNow CH CS) []) (CG : C8.Cal P w K mg base 2 "is_guest" spIsGuest []) (MkS : C8.Mak P w K mg base 1 "Stay" CS (spStayInit CS) [])
    (MR : MetN P w K mg base 6 CH "check_room" (spRoom CH CS CR)) : FnOk P w K mg base (L2N.CX P w) 7 f fd ["self", "guest"] (spCome CH CS CR) := by
  refine okN Fn scHandCome (fun vs H Q E h => ?_) (fun cdv A outer sh H vs Q Ex hr h => ?_)
  · obtain ⟨H0, h, g, TT, p, ls, ss, u, rfl, _⟩ := h
    rfl
  · obtain ⟨H0, h, g, TT, p, ls, ss, u, rfl, HA, hg, GV, hpf, Y, S, hp, hr0, hlate, kQ, kE⟩ := h
    have nd := scHandCome.nd
    refine ⟨_, pss_cons (ps_if (pt_not (pt_val (C8.pe_c CG hr (by decide) (by rfl) (pa_cons (C8.pe_mt0 MY hr (by decide) (pv 0)) (pa_cons (pv 1) pa_nil))))) (pss_one ps_never) pss_nil) <|
      pss_cons (ps_if (pt_cmpR op_lt (pe_ix ix_tup (pv 1) pe_int (fun _ _ => rfl)) (pe_fld (pv 0) rfl) (nomark _)) (pss_one ps_never) pss_nil) <|
      pss_cons (ps_set (i := 2) nd rfl (.inl rfl) (pe_op op_cat (pe_fld (pv 0) rfl) (pe_lst (pa_cons (C8.pe_mk MkS hr (by decide) (by rfl) (pa_cons (pv 1) pa_nil)) pa_nil)))) <|
      pss_cons (ps_expr (pe_mtN MR hr (by decide) (fun σ => L2N.passAt (W := fun cls d _ H => Ex cls d H) (L2N.takes_of rfl rfl rfl rfl) σ) (pv 0) (pa_cons (pe_fld (pv 0) rfl) (pa_cons (pv 2) pa_nil)))) <|
      pss_cons (ps_fld (pv 0) (pv 2) rfl) <|
      pss_one (ps_ret (pe_op op_sub (pe_callB call_len_seq (by rfl) T.len boot_len (pa_cons (pv 2) pa_nil)) pe_int)), ?_⟩
    obtain ⟨s0, h0, al, as, ag, sa, gl, N, e1, e2, e3, e4, e5⟩ := id HA
    obtain ⟨dx, ob⟩ := N.obj
    -- is_guest(self.yard_now(), guest)
    refine ⟨_, rfl, h, dx, _, rfl, ob, rfl, ?_⟩
    refine tNil_on ⟨H0, h, TT, p, ls, ss, rfl, HA, fun H1 y s1 y0 hy => ?_⟩
    refine ⟨_, rfl, ?_⟩
    refine tNil_on ⟨y, g, TT, ls, u, rfl, hy, s1 _ _ hg, GV, _, rfl, ?_⟩
    refine iteF ?_
    -- guest[1] < self.present
    refine ⟨_, rfl, g, _, _, nV u.first, rfl, rfl, SqT.of (s1 _ _ hg), rfl, _, rfl, h, CH, dx, _, _, rfl, s1 _ _ ob, T.cl, T.nP, rfl, _, _, rfl, rfl, _, rfl, ?_⟩
    refine ite2 (fun c => absurd (of_decide_eq_true c) (by omega)) (fun _ => ?_)
    -- stays = self.stays + [Stay(guest)]
    refine ⟨_, rfl, h, CH, dx, _, _, rfl, s1 _ _ ob, T.cl, T.nS, rfl, _, rfl, fun s dxs hs hdxs ne => ?_⟩
    have sn : Same H1 (upd (upd H1 dxs (.own s)) s (.ins CS dxs [])) := made_same hs hdxs
    refine ⟨s, dxs, g, rfl, upd_same, rfl, ?_⟩
    rw [upd_upd]
    have s2 : Same H1 (upd (upd H1 dxs (.own s)) s (.ins CS dxs (stayF g 0 false))) := made_same2 hs hdxs
    have hs2 : upd (upd H1 dxs (.own s)) s (.ins CS dxs (stayF g 0 false)) s = some (.ins CS dxs (stayF g 0 false)) := upd_same
    generalize upd (upd H1 dxs (.own s)) s (.ins CS dxs (stayF g 0 false)) = H2 at s2 hs2 ⊢
    have s12 := s1.trans s2
    refine tNil_on ⟨(by show 1 ≤ sizeLine; decide), fun l hl => ?_⟩
    have s3 := s12.trans (Same.new (o := .lst [.ref s]) hl)
    have hs3 := upd_new (o := .lst [.ref s]) hl hs2
    have sal : sa.length ≤ 8 := by
      have := S.n8
      rw [N.sl]
      rw [List.length_append, List.length_singleton] at this
      omega
    refine ⟨as, l, _, _, rfl, rfl, s3 _ _ N.st, upd_same, (by rw [List.length_map]; show sa.length + 1 ≤ sizeLine; exact small (by omega)), fun st hst => ?_⟩
    have s4 := s3.trans (Same.new (o := .lst (sa.map V.ref ++ [.ref s])) hst)
    have hs4 := upd_new (o := .lst (sa.map V.ref ++ [.ref s])) hst hs3
    have hst4 : upd (upd H2 l (.lst [.ref s])) st (.lst (sa.map V.ref ++ [.ref s])) st = some (.lst ((sa ++ [s]).map V.ref)) := by rw [upd_same, List.map_append]; rfl
    have st0 : H st = none := s3.free hst
    have sH : H s = none := s1.free hs
    dsimp only
    generalize upd (upd H2 l (.lst [.ref s])) st (.lst (sa.map V.ref ++ [.ref s])) = H4 at s4 hs4 hst4 ⊢
    have N4 := N.keep s4
    have len1 : (ss ++ [newS u]).length = ss.length + 1 := by simp
    have hsy : ∀ i, i < (ss ++ [newS u]).length → ∃ a : Addr, (sa ++ [s])[i]? = some a ∧ StayAt CS H4 a (ss ++ [newS u])[i]! := fun i hi => by
      by_cases e : i < ss.length
      · obtain ⟨a, q1, q2⟩ := N4.sy i e
        refine ⟨a, by rw [List.getElem?_append_left (by rw [N.sl]; exact e)]; exact q1, ?_⟩
        rw [getElem!_pos (ss ++ [newS u]) i hi, List.getElem_append_left e, ← getElem!_pos ss i e]
        exact q2
      · have e : i = ss.length := by omega
        subst e
        refine ⟨s, by rw [List.getElem?_append_right (by rw [N.sl]; exact Nat.le_refl _), N.sl, Nat.sub_self]; rfl, dxs, g, ?_, ?_⟩
        · rw [getElem!_pos (ss ++ [newS u]) _ hi, List.getElem_append_right (Nat.le_refl _)]
          simp only [Nat.sub_self, List.getElem_cons_zero]
          exact hs4
        · rw [getElem!_pos (ss ++ [newS u]) _ hi, List.getElem_append_right (Nat.le_refl _)]
          simp only [Nat.sub_self, List.getElem_cons_zero]
          exact s4 _ _ hg
    have hss : StaysAt CS H4 st (ss ++ [newS u]) := ⟨sa ++ [s], hst4, by rw [List.length_append, len1, N.sl]; rfl, hsy⟩
    -- self.check_room(self.lines, stays)
    refine ⟨_, rfl, h, dx, _, rfl, s4 _ _ ob, rfl, _, rfl, h, CH, dx, _, _, rfl, s4 _ _ ob, T.cl, T.nL, rfl, _, rfl, ?_⟩
    refine tNil_on ⟨h, dx, al, al, as, ag, st, TT, p, ls, ss ++ [newS u], rfl, s4 _ _ ob, N4.lines, hss, Y, S, hp, hr0, hlate, fun H5 s5 can => ?_, fun H5 dd l2 s5 hdd => kE H5 dd l2 (s4.trans s5) hdd⟩
    -- self.stays = stays
    have s15 := s4.trans s5
    refine ⟨_, rfl, _, rfl, h, CH, dx, _, rfl, s15 _ _ ob, T.cl, T.nS, (by show 5 < 1000; decide), ?_⟩
    rw [show putF "stays" (V.ref st) (handF TT al p as ag) = handF TT al p st ag from rfl]
    have hst5 := s5 _ _ hst4
    have sth : st ≠ h := ne_of hst5 (s15 _ _ ob) (by intro z; cases z)
    refine ⟨_, rfl, st, _, rfl, .inl (SqL.of ((upd_ne sth).trans hst5)), ?_⟩
    refine ⟨_, _, rfl, rfl, ?_⟩
    have el : ((((sa ++ [s]).map V.ref).length : Nat) : Int) - 1 = ((ss.length : Nat) : Int) := by
      rw [List.length_map, List.length_append, N.sl, List.length_singleton]; omega
    show Q (.int ((((sa ++ [s]).map V.ref).length : Nat) - 1)) _
    rw [el]
    have N5 := (N4.keep s5).setStays (dx := dx) (st := st) (sa2 := sa ++ [s]) (ss2 := ss ++ [newS u]) hst5 (by rw [List.length_append, len1, N.sl]; rfl) (fun i hi => let ⟨a, q1, q2⟩ := hsy i hi; ⟨a, q1, q2.keep s5⟩)
      (nodup_snoc N.nd fun z => by
        obtain ⟨i, hi, e⟩ := List.getElem_of_mem z
        obtain ⟨b, b1, dxb, gb, b2, _⟩ := N.sy i (by rw [← N.sl]; exact hi)
        rw [List.getElem?_eq_getElem hi, e] at b1
        cases b1
        rw [sH] at b2; cases b2) (none_ne st0 N.gv)
    refine kQ _ ⟨(s0.trans s15).put h0, h0, al, st, ag, sa ++ [s], gl, N5, e1, e2, s0.free st0, e4, fun a ha => ?_⟩ can
    rcases List.mem_append.mp ha with z | z
    · exact e5 a z
    · have : a = s := by simpa using z
      subst this
      exact s0.free sH
end
end Cy
end
section
namespace Cy
open PySem L2 NM
def kvG (F : List (Nat × Int)) : List (Key × V) := F.map fun p => (Sum.inl (p.1 : Int), V.int p.2)
theorem kvG_none {F : List (Nat × Int)} {x : Nat} (h : ∀ v, (x, v) ∉ F) : valV (kvG F) (Sum.inl (x : Int)) = none := by
  unfold valV kvG
  rw [Option.map_eq_none_iff, List.find?_eq_none]
  intro p hp e
  obtain ⟨q, hq, rfl⟩ := List.mem_map.mp hp
  have e1 := of_decide_eq_true e
  have e2 : (q.1 : Int) = (x : Int) := Sum.inl.inj e1
  have e3 : q.1 = x := by omega
  exact h q.2 (by rw [← e3]; exact hq)
theorem kvG_put {F : List (Nat × Int)} {x : Nat} {v : Int} (h : ∀ v, (x, v) ∉ F) : putK (kvG F) (Sum.inl (x : Int)) (.int v) = kvG (F ++ [(x, v)]) := by
  rw [putK_new _ (kvG_none h)]
  unfold kvG
  rw [List.map_append]
  rfl
theorem kvG_len (F : List (Nat × Int)) : (kvG F).length = F.length := by unfold kvG; rw [List.length_map]
theorem RowsAt.put {H : Hp} {p a : Addr} {T n : Nat} {x : Nat → Nat → Int} {o u : HO} (h : RowsAt H p T n x) (ha : H a = some u) (hu : ∀ xs, u ≠ .lst xs) : RowsAt (upd H a o) p T n x := by
  obtain ⟨ra, h1, h2, h3⟩ := h
  have k : ∀ {b : Addr} {xs : List V}, H b = some (.lst xs) → upd H a o b = some (.lst xs) := fun {b xs} e => (upd_ne fun z => by
    subst z
    rw [e] at ha
    exact hu _ (Option.some.inj ha).symm).trans e
  exact ⟨ra, k h1, h2, fun i hi => let ⟨b, e1, e2⟩ := h3 i hi; ⟨b, e1, k e2⟩⟩
theorem RowsAt.keep {H H' : Hp} {p : Addr} {T n : Nat} {x : Nat → Nat → Int} (h : RowsAt H p T n x) (s : Same H H') : RowsAt H' p T n x := by
  obtain ⟨ra, h1, h2, h3⟩ := h
  exact ⟨ra, s _ _ h1, h2, fun i hi => let ⟨b, e1, e2⟩ := h3 i hi; ⟨b, e1, s _ _ e2⟩⟩
def spTurn (CH CS : Addr) : Sp := fun vs H Q _ => ∃ (H0 : Hp) (h : Addr) (T p : Nat) (ls : List Ln) (ss : List Sy), vs = [.ref h] ∧ HandAt CH CS H0 H h T ls p ss ∧ YaOk T ls ∧ SyOk T ls.length ss ∧ p < T ∧ Can T ls p ss ∧
  ∀ H' q x y, Prom T ls p ss x y → H0 q = none → HandAt CH CS (upd H0 q (.dK (kvG (giftL (fun i => x i p) (List.range ss.length))))) H' h T ls (p + 1) (giveS ss fun i => x i p) → Q (.ref q) H'
section
variable {P : Program} {w : World} {K : PySem.W.Frag} {mg : Str → Option Value} {base : Heap}
theorem ok_turn {f CH CS : Addr} {fd : FuncData} (Fn : Fun K "turn" "Hand.turn" sHandTurn f fd) (T : TxHand K mg CH CS) (MO : C8.Met P w K mg base 2 CH "open_ones" (spOpen CH CS) []) (MA : C8.Met P w K mg base 2 CS "as_guest" (spAsGuest CS) []) (MF : C8.Met P w K mg base 1 CH "yard_left" (spLeft CH) [])
    (CB : C8.Cal P w K mg base 5 "best_filling" spBest []) : FnOk P w K mg base CX0 6 f fd ["self"] (spTurn CH CS) := by
  refine Fn.ok scHandTurn (fun vs H Q E h => ?_) (fun cdv A outer sh H vs Q Ex hr h => ?_)
  · obtain ⟨H0, h, TT, p, ls, ss, rfl, _⟩ := h
    rfl
  · obtain ⟨H0, h, TT, p, ls, ss, rfl, HA, Y, S, hp, ⟨x0, y0, PR⟩, k⟩ := h
    have nd := scHandTurn.nd
    have hu := hu_of hr
    refine ⟨_,
      pss_cons (ps_if (pt_cmpR op_eq (pe_fld (pv 0) rfl) (pe_fld (pv 0) rfl) (nomark _)) (pss_one ps_never) pss_nil) <|
      pss_cons (ps_set (i := 1) nd rfl (.inl rfl) pe_dnewK) <|
      pss_cons (ps_set (i := 2) nd rfl (.inl rfl) (C8.pe_mt0 MO hr (by decide) (pv 0))) <|
      pss_cons (ps_if (pt_cmpR (op_neD hr.units) (pv 2) (pe_lst pa_nil) (nomark _))
        (pss_cons (ps_setLc (i := 3) (own := [("number", 5)]) (g := gName 5) (tt := tYes) (te := tMeth CS "as_guest" (spAsGuest CS) [] E0 (tOp (rIxL K) (tFld K (tVar 0) "stays") (tVar 5)) (tCons (tFld K (tVar 0) "present") tNil)) rfl nd rfl rfl (sw_true rfl rfl rfl rfl) (pi_list (pv 2))
          (blkOk_by (N := ["self", "gifts", "numbers", "guests", "filling", "number", "row"]) (sc := defScope sHandTurn) (by decide +kernel)) (fun _ _ _ _ _ => pg_name (i := 5) nd rfl (.inl rfl)) (fun _ _ _ _ _ => pts_nil)
          (fun _ _ _ _ _ => C8.pe_mt MA hr (by decide) (pe_ix ix_list (pe_fld (pv 0) rfl) (pv 5) (fun _ _ => rfl)) (pa_cons (pe_fld (pv 0) rfl) pa_nil))) <|
        pss_cons (ps_set (i := 4) nd rfl (.inl rfl) (C8.pe_c CB hr (by decide) (by rfl) (pa_cons (C8.pe_mt MF hr (by decide) (pv 0) (pa_cons (pe_fld (pv 0) rfl) pa_nil)) (pa_cons (pv 3) pa_nil)))) <|
        pss_one (ps_for PassesOwn.never rfl (pi_zip (by rfl) T.zip (pa_cons (pv 2) (pa_cons (pv 4) pa_nil))) (pg_tup rfl (pgs_cons (pg_name (i := 5) nd rfl (.inl rfl)) (pgs_cons (pg_name (i := 6) nd rfl (.inl rfl)) pgs_nil)))
          (pss_one (ps_if (pt_cmpR op_gt (pe_ix ix_list (pv 6) pe_int (fun _ _ => rfl)) pe_int (nomark _)) (pss_cons (ps_dput hu (pv 1) (pv 5) (pe_ix ix_list (pv 6) pe_int (fun _ _ => rfl)) rfl) <|
            pss_one (ps_fldaug (pe_ix ix_list (pe_fld (pv 0) rfl) (pv 5) (fun _ _ => rfl)) (pe_ix ix_list (pv 6) pe_int (fun _ _ => rfl)) in_add)) pss_nil)))) pss_nil) <|
      pss_cons (ps_expr (pe_bm PySem.F.plainAttrs_list PySem.F.slot_list_append PySem.F.type_list_append mt_append (pe_fld (pv 0) rfl) (pa_cons (pv 1) pa_nil))) <|
      pss_cons (ps_fldaug (pv 0) pe_int in_add) <|
      pss_one (ps_ret (pe_callTy call_dictD (by rfl) T.dict (by decide +kernel) (pa_cons (pv 1) pa_nil))), ?_⟩
    have n8 := S.n8
    have h0r : ∀ i, i < ss.length → 0 ≤ NM.rest ss[i]! := fun i hi => PR.rest_nonneg hi
    have hlate : ∀ i, i < ss.length → 0 < NM.rest ss[i]! → p ≤ ss[i]!.g.last := fun i hi h => PR.late hi h
    obtain ⟨s0, hh0, al, as, ag, sa, gl, N, _⟩ := id HA
    obtain ⟨dx, ob⟩ := N.obj
    -- if self.present == self.turns
    refine ⟨_, rfl, h, CH, dx, _, _, rfl, ob, T.cl, T.nP, rfl, _, rfl, h, CH, dx, _, _, rfl, ob, T.cl, T.nT, rfl, rfl, _, rfl, ?_⟩
    refine ite2 (fun c => absurd (of_decide_eq_true c) (by intro z; injection z; omega)) (fun _ => ?_)
    -- gifts = {}
    refine fun gd hgd => ?_
    have gd0 : H0 gd = none := s0.free hgd
    have HA1 := HA.keep (Same.new (o := .dK (kvG [])) hgd)
    have g1 : upd H gd (.dK (kvG [])) gd = some (.dK (kvG [])) := upd_same
    change _ at g1
    show _
    have e0 : (HO.dK [] : HO) = .dK (kvG []) := rfl
    rw [e0]
    generalize upd H gd (.dK (kvG [])) = H1 at HA1 g1 ⊢
    obtain ⟨_, _, _, _, _, _, _, N1, _⟩ := id HA1
    obtain ⟨dx1, ob1⟩ := N1.obj
    -- numbers = self.open_ones()
    refine ⟨_, rfl, h, dx1, _, rfl, ob1, rfl, ?_⟩
    refine tNil_on ⟨H0, h, TT, p, ls, ss, rfl, HA1, by omega, fun H2 D s2 D0 hD => ?_⟩
    have HA2 := HA1.keep s2
    have g2 := s2 _ _ g1
    -- the tail
    have tail : ∀ (σ : List (Option V)) (H5 : Hp) (X : Nat → Int) (x y : Nat → Nat → Int), σ[0]? = some (some (.ref h)) → σ[1]? = some (some (.ref gd)) → Prom TT ls p ss x y → (∀ i, i < ss.length → X i = x i p) → H5 gd = some (.dK (kvG (giftL X (opens ss)))) → HandAt CH CS H0 H5 h TT ls p (giveS ss X) →
        tSeq (tDrop (tBM K "list" rAppend (tFld K (tVar 0) "given_so_far") (tCons (tVar 1) tNil))) (tSeq (sFldAug K (tVar 0) (tC (V.int 1)) rAdd "present") (tRet (tCB (fun xs H Q => ∃ (a : Addr) (kvs : List (Key × V)), xs = [V.ref a] ∧ Rd H a (HO.dK kvs) ∧ ∀ (p : Addr), H p = none → Q (V.ref p) (upd H p (HO.dK kvs))) (tCons (tVar 1) tNil))))
          { nx := fun _ H' => Q .non H', rt := Q } σ H5 := fun σ H5 X x y e0 e1 pr hX hg HA5 => by
      obtain ⟨s5, hh5, al5, as5, ag5, sa5, gl5, N5, f1, f2, f3, f4, f5⟩ := id HA5
      obtain ⟨dx5, ob5⟩ := N5.obj
      have T8 := Y.t8
      refine ⟨_, e0, h, CH, dx5, _, _, rfl, ob5, T.cl, T.nG, rfl, .inl ⟨rfl, _, SqL.of N5.gv⟩, _, e1, ag5, _, _, rfl, rfl, N5.gv, small' (by omega), ?_⟩
      have N6 := N5.setG (gl5 ++ [.ref gd])
      have s6 := s5.put (o := .lst (gl5 ++ [.ref gd])) f4
      have g6 : upd H5 ag5 (.lst (gl5 ++ [.ref gd])) gd = some (.dK (kvG (giftL X (opens ss)))) := (upd_ne (ne_of hg N5.gv (by intro z; cases z))).trans hg
      generalize upd H5 ag5 (.lst (gl5 ++ [.ref gd])) = H6 at N6 s6 g6 ⊢
      obtain ⟨dx6, ob6⟩ := N6.obj
      refine ⟨_, e0, h, CH, dx6, _, _, rfl, ob6, T.cl, T.nP, rfl, _, _, rfl, rfl, dx6, _, ob6, (by show 5 < 1000; decide), ?_⟩
      rw [show putF "present" (V.int ((p : Int) + 1)) (handF TT al5 p as5 ag5) = handF TT al5 (p + 1) as5 ag5 from rfl]
      have N7 := N6.setH (dx := dx6) (p + 1)
      have s7 := s6.put (o := .ins CH dx6 (handF TT al5 (p + 1) as5 ag5)) hh5
      have g7 : upd H6 h (.ins CH dx6 (handF TT al5 (p + 1) as5 ag5)) gd = some (.dK (kvG (giftL X (opens ss)))) := (upd_ne (ne_of g6 ob6 (by intro z; cases z))).trans g6
      generalize upd H6 h (.ins CH dx6 (handF TT al5 (p + 1) as5 ag5)) = H7 at N7 s7 g7 ⊢
      refine ⟨_, e1, gd, _, rfl, Rd.of g7, fun q hq => ?_⟩
      have HA7 : HandAt CH CS H0 H7 h TT ls (p + 1) (giveS ss X) := ⟨s7, hh5, al5, as5, ag5, sa5, _, N7, by rw [List.length_append, f1]; rfl, f2, f3, f4, f5⟩
      have ex : giveS ss X = giveS ss fun i => x i p := giveS_congr hX
      have eg : giftL X (opens ss) = giftL (fun i => x i p) (List.range ss.length) := by
        rw [giftL_opens fun i hi hx => pr.pay hi hp (by rw [← hX i hi]; exact hx)]
        unfold giftL
        have ef : (List.range ss.length).filter (fun i => decide (0 < X i)) = (List.range ss.length).filter fun i => decide (0 < x i p) := List.filter_congr fun i hi => by rw [hX i (List.mem_range.mp hi)]
        rw [ef]
        refine List.map_congr_left fun i hi => ?_
        rw [hX i (List.mem_range.mp (List.mem_filter.mp hi).1)]
      have HA8 := HA7.upd (a := q) (o := .dK (kvG (giftL X (opens ss)))) (.inr hq)
      rw [ex, eg] at HA8
      rw [eg]
      exact k _ q x y pr (s7.free hq) HA8
    refine ⟨_, rfl, Nat.zero_le _, fun z hz => ?_⟩
    have hDz := upd_new (o := .lst []) hz hD
    have gz := upd_new (o := .lst []) hz g2
    refine neI (ns := (opens ss).map Int.ofNat) (ms := []) (SqL.of (by rw [← mapN]; exact hDz)) (SqL.of upd_same) ⟨_, rfl, ?_⟩
    have HA3 := HA2.keep (Same.new (o := .lst []) hz)
    generalize upd H2 z (.lst []) = H3 at hDz gz HA3
    refine ite2 (fun c => ?_) (fun c => ?_)
    · have YL := dropL_ok (T := TT) Y hp
      have GO : GuOk (TT - p) (dropL p ls).length (red p ss) := red_ok S hlate
      obtain ⟨s03, _, al3, as3, ag3, sa3, gl3, N3, _⟩ := id HA3
      obtain ⟨dx3, ob3⟩ := N3.obj
      -- guests = [..]
      refine ⟨_, rfl, D, rfl, ⟨_, SqL.of hDz⟩, fun G hG => ?_⟩
      refine lc_list (K := K) (a := D) (xs := (opens ss).map nV) (fun i H4 => Same H3 H4 ∧ GuestsIn H4 G (red p ss) i) ⟨Same.new hG, [], upd_same, rfl, fun i hi => absurd hi (Nat.not_lt_zero i)⟩ (fun i H4 _ hh => SqL.of (hh.1 _ _ hDz)) ?_ ?_
      · rintro i x H4 hi ⟨s4, gi4⟩
        have hi' : i < (opens ss).length := by
          have := (List.getElem?_eq_some_iff.mp hi).1
          rw [List.length_map] at this; exact this
        rw [opens_str hi'] at hi
        cases hi
        obtain ⟨o1, o2⟩ := opens_at hi'
        obtain ⟨a, ha, sy⟩ := N3.sy _ o1
        obtain ⟨dxs, ga, q1, q2⟩ := id (sy.keep s4)
        refine ⟨rfl, tYes_on (iteT ?_)⟩
        refine ⟨_, rfl, h, CH, dx3, _, _, rfl, s4 _ _ ob3, T.cl, T.nS, rfl, _, rfl, as3, _, _, .ref a, rfl, rfl, SqL.of (s4 _ _ N3.st), atI_nat (by rw [List.getElem?_map, ha]; rfl), a, dxs, _, rfl, q1, rfl, _, rfl, h, CH, dx3, _, _, rfl, s4 _ _ ob3, T.cl, T.nP, rfl, ?_⟩
        refine tNil_on ⟨a, ss[(opens ss)[i]!]!, p, rfl, sy.keep s4, hlate _ o1 o2, fun q hq => ?_⟩
        have e := red_at (p := p) hi'
        rw [← e]
        have gs := gi4.snoc hq
        have cs := Classical.choose_spec gi4
        refine ⟨_, upd_new hq cs.1, ?_, ?_, gs⟩
        · rw [List.length_map, cs.2.1]
          have := opens_len (ss := ss)
          exact small' (by omega)
        · exact (s4.put (s4.free hq)).put hG
      · rintro H4 ⟨s4, ga4, g1', g2', g3'⟩
        rw [List.length_map] at g2' g3'
        have GA : GuestsAt H4 G (red p ss) := ⟨ga4, g1', by rw [red_len]; exact g2', fun i hi => g3' i (by rw [red_len] at hi; exact hi)⟩
        -- filling = best_filling(self.yard_left(self.lines), guests)
        refine ⟨_, rfl, h, dx3, _, rfl, s4 _ _ ob3, rfl, _, rfl, h, CH, dx3, _, _, rfl, s4 _ _ ob3, T.cl, T.nL, rfl, ?_⟩
        refine tNil_on ⟨h, dx3, al3, al3, as3, ag3, TT, p, ls, rfl, s4 _ _ ob3, N3.lines.keep s4, Y, hp, fun H5 y s5 y0' hy => ?_⟩
        refine ⟨_, rfl, ?_⟩
        refine tNil_on ⟨y, G, TT - p, dropL p ls, red p ss, rfl, hy, GA.keep s5, YL, GO, fun H6 fl L tot F s6 fl0 DN hR => ?_⟩
        have fill := DN.fill GO YL (DN.full GO YL PR.fill)
        have prom := fill.prom h0r (fun i hi => S.most i hi) hlate
        have s36 := (s4.trans s5).trans s6
        have HA6 := HA3.keep s36
        have hD6 := s36 _ _ hDz
        have g6 := s36 _ _ gz
        obtain ⟨XX, hXX⟩ : ∃ XX : Nat → Int, XX = fun i => xFrom p ss (xOf (TT - p) (dropL p ls) (red p ss) L) i p := ⟨_, rfl⟩
        have hXk : ∀ j, j < (opens ss).length → XX (opens ss)[j]! = xOf (TT - p) (dropL p ls) (red p ss) L j 0 := fun j hj => by
          obtain ⟨o1, o2⟩ := opens_at hj
          rw [hXX]
          show xFrom p ss _ (opens ss)[j]! p = _
          unfold xFrom
          rw [if_pos o2, idx_opens hj, Nat.sub_self]
        -- for number, row in zip(numbers, filling)
        obtain ⟨ra, hra1, hra2, hra3⟩ := id hR
        rw [red_len] at hra2 hra3
        refine ⟨_, rfl, _, rfl, D, fl, _, _, rfl, SqL.of hD6, SqL.of hra1, for_it (walk_zip (K := K) (a := D) (b := fl) (xs := (opens ss).map nV) (ys := ra.map V.ref) (n := (opens ss).length) (by rw [List.length_map, List.length_map, hra2, Nat.min_self]))
          (fun i σ H7 => ∃ v5 v6 : Option V, σ = [some (.ref h), some (.ref gd), some (.ref D), some (.ref G), some (.ref fl), v5, v6] ∧ H7 D = some (.lst ((opens ss).map nV)) ∧ H7 fl = some (.lst (ra.map V.ref)) ∧
            (∀ j, j < (opens ss).length → ∃ a : Addr, ra[j]? = some a ∧ H7 a = some (.lst ((List.range (TT - p)).map fun t => V.int (xOf (TT - p) (dropL p ls) (red p ss) L j t)))) ∧
            H7 gd = some (.dK (kvG (giftL XX ((opens ss).take i)))) ∧ HandAt CH CS H0 H7 h TT ls p (giveS ss fun j => if j ∈ (opens ss).take i then XX j else 0))
          ⟨none, none, rfl, hD6, hra1, hra3, g6, by rw [giveS_zero fun i hi => if_neg (by simp)]; exact HA6⟩ (fun i σ H7 _ ⟨_, _, _, a1, a2, _⟩ => ⟨SqL.of a1, SqL.of a2⟩) ?_ ?_⟩
        · rintro i x σ H7 H8 hi ⟨v5, v6, rfl, d7, f7, r7, g7, HA7⟩ ⟨q, x1, x2, rfl, hq, rfl, hx1, hx2⟩
          have hi' : i < (opens ss).length := hi
          obtain ⟨a, ha, hau⟩ := r7 i hi'
          have hx1 : ((opens ss).map nV)[i]? = some x1 := hx1
          have hx2 : (ra.map V.ref)[i]? = some x2 := hx2
          rw [opens_str hi'] at hx1
          rw [List.getElem?_map, ha] at hx2
          cases hx1
          cases hx2
          obtain ⟨o1, o2⟩ := opens_at hi'
          have sq := Same.new (H := H7) (o := .tup [nV (opens ss)[i]!, .ref a]) hq
          refine ⟨q, _, rfl, SqT.of upd_same, rfl, _, _, rfl, _, _, rfl, rfl, ?_⟩
          have d8 := sq _ _ d7
          have f8 := sq _ _ f7
          have r8 : ∀ j, j < (opens ss).length → ∃ a2 : Addr, ra[j]? = some a2 ∧ upd H7 q (.tup [nV (opens ss)[i]!, .ref a]) a2 = some (.lst ((List.range (TT - p)).map fun t => V.int (xOf (TT - p) (dropL p ls) (red p ss) L j t))) := fun j hj => let ⟨a2, e1, e2⟩ := r7 j hj; ⟨a2, e1, sq _ _ e2⟩
          have g8 := sq _ _ g7
          have HA8 := HA7.keep sq
          have ha8 := sq _ _ hau
          generalize upd H7 q (.tup [nV (opens ss)[i]!, .ref a]) = H8 at d8 f8 r8 g8 HA8 ha8 ⊢
          have row0 : atI ((List.range (TT - p)).map fun t => V.int (xOf (TT - p) (dropL p ls) (red p ss) L i t)) 0 = some (.int (xOf (TT - p) (dropL p ls) (red p ss) L i 0)) := by
            refine atI_nat (j := 0) ?_
            rw [List.getElem?_map, List.getElem?_range (by omega)]; rfl
          have nin : (opens ss)[i]! ∉ (opens ss).take i := fun m => by
            obtain ⟨j, hj, e⟩ := List.getElem_of_mem m
            rw [List.length_take] at hj
            rw [List.getElem_take] at e
            rw [getElem!_pos _ i hi'] at e
            have := (List.getElem_inj opens_nodup).mp e
            omega
          have tk : (opens ss).take (i + 1) = (opens ss).take i ++ [(opens ss)[i]!] := take_snoc (getB hi')
          -- if row[0] > 0
          refine ⟨_, rfl, a, _, _, _, rfl, rfl, SqL.of ha8, row0, _, _, rfl, rfl, _, rfl, ?_⟩
          rw [← hXk i hi'] at row0 ⊢
          refine ite2 (fun c => ?_) (fun c => ?_)
          · have c : 0 < XX (opens ss)[i]! := of_decide_eq_true c
            -- gifts[number] = row[0]
            refine ⟨_, rfl, a, _, _, _, rfl, rfl, SqL.of ha8, row0, _, rfl, _, rfl, gd, _, rfl, DPut.k (k := Sum.inl (((opens ss)[i]! : Nat) : Int)) g8 (by
              rw [kvG_len]
              have h1 := giftL_len XX ((opens ss).take i)
              have h2 := opens_len (ss := ss)
              rw [List.length_take] at h1
              exact small' (by omega)), ?_⟩
            rw [kvG_put fun v m => nin (giftL_keys m).1]
            have eg : giftL XX ((opens ss).take i) ++ [((opens ss)[i]!, XX (opens ss)[i]!)] = giftL XX ((opens ss).take (i + 1)) := by rw [tk, giftL_snoc, if_pos c]
            rw [eg]
            have HA9 := HA8.side (o := .dK (kvG (giftL XX ((opens ss).take (i + 1))))) g8 gd0
            have kp : ∀ {b : Addr} {xs : List V}, H8 b = some (.lst xs) → upd H8 gd (.dK (kvG (giftL XX ((opens ss).take (i + 1))))) b = some (.lst xs) := fun {b xs} e => (upd_ne (ne_of e g8 (by intro z; cases z))).trans e
            have d9 := kp d8
            have f9 := kp f8
            have ha9 := kp ha8
            have r9 : ∀ j, j < (opens ss).length → ∃ a2 : Addr, ra[j]? = some a2 ∧ upd H8 gd (.dK (kvG (giftL XX ((opens ss).take (i + 1))))) a2 = some (.lst ((List.range (TT - p)).map fun t => V.int (xOf (TT - p) (dropL p ls) (red p ss) L j t))) := fun j hj => let ⟨a2, e1, e2⟩ := r8 j hj; ⟨a2, e1, kp e2⟩
            have g9 : upd H8 gd (.dK (kvG (giftL XX ((opens ss).take (i + 1))))) gd = _ := upd_same
            generalize upd H8 gd (.dK (kvG (giftL XX ((opens ss).take (i + 1))))) = H9 at HA9 d9 f9 ha9 r9 g9 ⊢
            -- self.stays[number].given += row[0]
            obtain ⟨s9, hh9, al9, as9, ag9, sa9, gl9, N9, w1, w2, w3, w4, w5⟩ := id HA9
            obtain ⟨dx9, ob9⟩ := N9.obj
            have o1' : (opens ss)[i]! < (giveS ss fun j => if j ∈ (opens ss).take i then XX j else 0).length := by rw [giveS_len]; exact o1
            obtain ⟨sx, hsx, dxs, gx, q1, q2⟩ := N9.sy _ o1'
            refine ⟨_, rfl, h, CH, dx9, _, _, rfl, ob9, T.cl, T.nS, rfl, _, rfl, as9, _, _, .ref sx, rfl, rfl, SqL.of N9.st, atI_nat (by rw [List.getElem?_map, hsx]; rfl), sx, CS, dxs, _, _, rfl, q1, T.scl, T.sV, rfl,
              _, rfl, a, _, _, _, rfl, rfl, SqL.of ha9, row0, _, _, rfl, rfl, dxs, _, q1, (by show 3 < 1000; decide), ?_⟩
            rw [show ∀ z : Int, putF "given" (V.int z) (stayF gx (giveS ss fun j => if j ∈ (opens ss).take i then XX j else 0)[(opens ss)[i]!]!.given (giveS ss fun j => if j ∈ (opens ss).take i then XX j else 0)[(opens ss)[i]!]!.gone) = stayF gx z (giveS ss fun j => if j ∈ (opens ss).take i then XX j else 0)[(opens ss)[i]!]!.gone from fun _ => rfl]
            have N10 := N9.setS (dx := dxs) (ga := gx) (sy := { (giveS ss fun j => if j ∈ (opens ss).take i then XX j else 0)[(opens ss)[i]!]! with given := (giveS ss fun j => if j ∈ (opens ss).take i then XX j else 0)[(opens ss)[i]!]!.given + XX (opens ss)[i]! }) hsx o1' q2
            have sxm := List.mem_of_getElem? hsx
            have kq : ∀ {b : Addr} {u o : HO}, H9 b = some u → (∀ dx fs, u ≠ .ins CS dx fs) → upd H9 sx o b = some u := fun {b u o} e d => (upd_ne (ne_of e q1 (d _ _))).trans e
            refine ⟨_, _, rfl, kq d9 (by intro _ _ z; cases z), kq f9 (by intro _ _ z; cases z), fun j hj => let ⟨a2, e1, e2⟩ := r9 j hj; ⟨a2, e1, kq e2 (by intro _ _ z; cases z)⟩, kq g9 (by intro _ _ z; cases z), ?_⟩
            have es : (giveS ss fun j => if j ∈ (opens ss).take i then XX j else 0).set (opens ss)[i]! { (giveS ss fun j => if j ∈ (opens ss).take i then XX j else 0)[(opens ss)[i]!]! with given := (giveS ss fun j => if j ∈ (opens ss).take i then XX j else 0)[(opens ss)[i]!]!.given + XX (opens ss)[i]! } = giveS ss fun j => if j ∈ (opens ss).take (i + 1) then XX j else 0 := by
              rw [giveS_set o1]
              refine giveS_congr fun j hj => ?_
              by_cases e : j = (opens ss)[i]!
              · rw [if_pos e, e, if_neg nin, if_pos (by rw [tk]; simp)]; omega
              · rw [if_neg e]
                have : j ∈ (opens ss).take (i + 1) ↔ j ∈ (opens ss).take i := by rw [tk, List.mem_append, List.mem_singleton]; exact ⟨fun z => z.resolve_right e, .inl⟩
                by_cases m : j ∈ (opens ss).take i
                · rw [if_pos m, if_pos (this.mpr m)]
                · rw [if_neg m, if_neg fun z => m (this.mp z)]
            rw [← es]
            exact ⟨s9.put (w5 sx sxm), hh9, al9, as9, ag9, sa9, gl9, N10, w1, w2, w3, w4, w5⟩
          · have c : ¬ 0 < XX (opens ss)[i]! := by simpa using c
            have z0 : XX (opens ss)[i]! = 0 := by
              have := (prom.pos _ o1 p (Nat.le_refl _) hp).1
              rw [hXX] at c ⊢
              have c : ¬ 0 < xFrom p ss (xOf (TT - p) (dropL p ls) (red p ss) L) (opens ss)[i]! p := c
              show xFrom p ss (xOf (TT - p) (dropL p ls) (red p ss) L) (opens ss)[i]! p = 0
              have this : 0 ≤ xFrom p ss (xOf (TT - p) (dropL p ls) (red p ss) L) (opens ss)[i]! p := this
              omega
            refine ⟨_, _, rfl, d8, f8, r8, ?_, ?_⟩
            · rw [tk, giftL_snoc, if_neg c]; exact g8
            · have es : (giveS ss fun j => if j ∈ (opens ss).take (i + 1) then XX j else 0) = giveS ss fun j => if j ∈ (opens ss).take i then XX j else 0 := giveS_congr fun j hj => by
                by_cases e : j = (opens ss)[i]!
                · rw [if_neg (show ¬ j ∈ (opens ss).take i by rw [e]; exact nin), e, z0]
                  split <;> rfl
                · have : j ∈ (opens ss).take (i + 1) ↔ j ∈ (opens ss).take i := by rw [tk, List.mem_append, List.mem_singleton]; exact ⟨fun z => z.resolve_right e, .inl⟩
                  by_cases m : j ∈ (opens ss).take i
                  · rw [if_pos m, if_pos (this.mpr m)]
                  · rw [if_neg m, if_neg fun z => m (this.mp z)]
              rw [es]; exact HA8
        · rintro σ H7 ⟨v5, v6, rfl, d7, f7, r7, g7, HA7⟩
          rw [List.take_length] at g7 HA7
          refine tail _ H7 XX (xFrom p ss (xOf (TT - p) (dropL p ls) (red p ss) L)) _ rfl rfl prom (fun i _ => by rw [hXX]) g7 ?_
          have es : (giveS ss fun j => if j ∈ opens ss then XX j else 0) = giveS ss XX := giveS_congr fun j hj => by
            by_cases m : j ∈ opens ss
            · rw [if_pos m]
            · rw [if_neg m, hXX]
              show _ = xFrom p ss _ j p
              unfold xFrom
              rw [if_neg fun z => m (mem_opens.mpr ⟨hj, z⟩)]
          rw [← es]
          exact HA7
    · have he : opens ss = [] := by simpa using c
      have hz0 : ∀ i, i < ss.length → x0 i p = 0 := fun i hi => by
        refine PR.zero hi hp ?_
        have := h0r i hi
        refine Decidable.byContradiction fun c => ?_
        have m : i ∈ opens ss := mem_opens.mpr ⟨hi, by omega⟩
        rw [he] at m; cases m
      refine tail _ H3 (fun i => x0 i p) x0 y0 rfl rfl PR (fun _ _ => rfl) ?_ ?_
      · rw [he]; exact gz
      · rw [giveS_zero hz0]; exact HA3
end
end Cy
end
section
/-! own rules: the name of an except clause is captured (a cell); a list comprehension in an except suite -/
namespace Cy
open PySem PySem.Spec PyProof.Rows L2
section
variable {M : Model} {A : Around} {E : Value → Shared → Prop} {s : Shared}
theorem nameGoes_cell {env : Env} {n : Str} {pos : Pos} {c : Addr} {v0 : Option Value} {Q : Unit → Shared → Prop} (hk : env.scope.kind = .function) (hl : env.kindOf n = some .cell) (hc : env.cells.lookup n = some c) (hv : s.heap.IsCell c v0)
    (h : ∀ h', h'.IsCell c none → Heap.SameBut c s.heap h' → Q () { s with heap := h' }) : wpAny M A (do bindName env n .none; unbindBehindTheSuite env n pos) Q E s := by
  refine wpAny_bind (wpAny_bindName (wpAny_storeName_cell hk hl hc hv fun h1 hc1 hs1 => ?_))
  unfold unbindBehindTheSuite unbindName
  refine wpAny_onRaise (wpAny_bind (wpAny_point (wpAny_bind ?_)))
  unfold deleteName
  simp only [hl]
  refine wpAny_bind (wpAny_cellOf hc (wpAny_bind (wpAny_cellGet hc1 ?_)))
  simp only [Option.isSome_some, if_true]
  exact wpAny_cellSet hc1 fun h2 hc2 hs2 => wpAny_point (h h2 hc2 (hs1.trans hs2))
end
section
variable {X : Cx} {pins : List (Addr × Obj)} {σ : L2.St} {H : Hp} {s : Shared}
theorem gone_cell {M : Model} {A : Around} {E : Value → Shared → Prop} {i : Nat} {n : Str} {pos : Pos} {Q : Unit → Shared → Prop} (I : Inv X pins σ H s) (hN : X.N.Nodup) (hi : X.N[i]? = some n) (hl : X.env.kindOf n = some .cell) (hfn : X.fn n = true)
    (h : ∀ s', Inv X pins (σ.set i none) H s' → Q () s') : wpAny M A (do bindName X.env n .none; unbindBehindTheSuite X.env n pos) Q E s := by
  obtain ⟨m, hn, hlk⟩ := id I.loc
  obtain ⟨c, hc⟩ := I.ok.has n (.inl hl)
  obtain ⟨w', z⟩ := I.cell n c hc
  refine nameGoes_cell I.ok.kind hl hc z fun h' hc' hs => h { s with heap := h' } ?_
  obtain ⟨oc, hoc, hocd⟩ := id z
  have lt : ∀ {b : Addr} {o : Obj}, X.s_0.heap.get? b = some o → b ≠ c := fun {b o} e => Nat.ne_of_lt (Nat.lt_of_lt_of_le (Heap.lt_size e) (I.ok.cab n c hfn hc))
  have cne := I.cne
  refine ⟨I.ok, I.os, I.bare, ⟨fun b o e n hb hx => (hs.2 b (lt e)).trans (I.base.keep b o e n hb hx), fun b o e n hb hx => ?_, I.base.free, fun b o e hx => ?_, I.base.tups, I.base.frzs, I.base.tbls⟩, ⟨m, hn.sameBut hs (Ne.symm (cne n c hc)), fun j y v' e1 e2 e3 => ?_⟩, fun y c' e => ?_, I.free, I.freeC, fun p hp => ?_, fun b ob e => ?_, by simpa using I.len⟩
  · obtain ⟨sl, e1⟩ := I.base.slot b o e n hb hx
    exact ⟨sl, (hs.2 b (lt e)).trans e1⟩
  · obtain ⟨o', e1⟩ := I.base.there b o e hx
    exact ⟨o', (hs.2 b (lt e)).trans e1⟩
  · by_cases hj : j = i
    · subst hj
      by_cases hlt : j < σ.length
      · rw [List.getElem?_set_self hlt] at e2; cases e2
      · rw [List.getElem?_eq_none (by simpa using hlt)] at e2; cases e2
    · rw [List.getElem?_set_ne (Ne.symm hj)] at e2
      obtain ⟨u', r', q⟩ := hlk j y v' e1 e2 e3
      refine ⟨u', r', ?_⟩
      rcases q with q | ⟨k, c', e, z'⟩
      · exact .inl q
      · refine .inr ⟨k, c', e, z'.sameBut hs fun w => ?_⟩
        subst w
        exact hj (nodup_ix hN e1 (I.ok.inj _ _ _ e hc ▸ hi))
  · by_cases hcc : c' = c
    · subst hcc; exact ⟨_, hc'⟩
    · obtain ⟨w2, z2⟩ := I.cell y c' e
      exact ⟨w2, z2.sameBut hs hcc⟩
  · obtain ⟨e, n1, ne, nf, d⟩ := I.pin p hp
    refine ⟨(hs.2 p.1 fun q => ?_).trans e, n1, ne, nf, d⟩
    rw [q, hoc] at e
    exact d w' ((Option.some.inj e) ▸ hocd)
  · refine (I.hok b ob e).stay (fun b2 w2 hb2 q => (hs.2 b2 fun w => ?_).trans q) (fun _ q => q) fun _ _ q => q
    subst w
    have f := I.freeC n b2 hc
    rcases hb2 with hb2 | hb2
    · rw [← hb2, f] at e; cases e
    · rw [f] at hb2; cases hb2
end
/-- what the clause 'except x as n', n captured, wishes: it takes the exception -/
def wCell (K : PySem.W.Frag) (c : Value) (i : Nat) (ts : Addr → Value → Option Addr → TS) (D : Ends) : WX := fun cls d σ H =>
  PySem.W.exmOne K cls c = some true ∧ ∀ a, H a = none → ts a cls d { nx := fun σ' H' => D.nx (σ'.set i none) H', rt := fun _ _ => False } (σ.set i (some (.ref a))) H
section
variable {X : Cx} {x n : Str} {c : Value} {i : Nat} {body suite : List Stmt} {b0 : Stmt} {np pos pos' : Pos} {tb : WX → TS} {ts : Addr → Value → Option Addr → TS}
theorem ps_try_cell (hs : X.stack = X.env :: X.outer) (hf : X.env.frame = some X.env.locals) (hN : X.N.Nodup) (hi : X.N[i]? = some n) (hln : X.env.kindOf n = some .cell) (hfn : X.fn n = true) (hc : Names X x c)
    (hb : ∀ (W : WX) (pn : List (Addr × Obj)) (xe : Value → Shared → Prop), L2N.Takes (X.tr pn xe) W → PassesOwn (model X.prog X.w) X.A X.env xe → PSs (X.tr pn xe) body (tb W))
    (hsu : ∀ (a : Addr) (oe : Obj) (cls : Value) (d : Option Addr) (pn : List (Addr × Obj)), L2N.Zn cls d oe → (∃ vs, oe.data = .fields vs) → PSs (X.suite a ((a, oe) :: pn)) (b0 :: suite) (ts a cls d)) :
    PS X (.Try body [.ExceptHandler (some (.Name x np)) (some n) (b0 :: suite) pos'] [] [] pos) (fun D σ H => tb (wCell X.K c i ts D) D σ H) := by
  refine ⟨fun pins s σ H D I h => wpAny_Try_except ?_⟩
  have ok := I.ok
  have hfr : X.A.frames = some (X.env :: X.outer) := by rw [ok.frames, hs]
  refine wpAny_mono ((hb (wCell X.K c i ts D) (X.pn ++ pins) (fun e s₁ => wpAny (model X.prog X.w) X.A (noteFrame e X.env) (fun _ s₂ => wpAny (model X.prog X.w) X.A (setFlight e none) (fun _ s₃ =>
    wpAny (model X.prog X.w) X.A (handleBy e X.env [.ExceptHandler (some (.Name x np)) (some n) (b0 :: suite) pos']) (SP X pins D) X.xe s₃) X.xe s₂) X.xe s₁) (fun u s' xx => ?_) PassesOwn.looking).run [] s σ H D (I.toTry _) h) (fun f s1 hsp => ?_) (fun e s1 he => he)
  · obtain ⟨a, B, sI, pins', σ', H', cls, d, rfl, J', nb, up, sky, na, os, ag, hb1, hyes⟩ := xx
    have J : Inv X pins σ' H' sI := J'.ofTry ok
    rw [show (X.tr (X.pn ++ pins) _).stack = X.env :: X.outer from hs] at sky
    show wpAny (model X.prog X.w) X.A (noteFrame (.ref a) X.env) _ _ _
    refine L2N.Sky.land L2N.Zn.steady hfr hf sky fun h3 fl3 up3 => ?_
    have J3 : Inv X pins σ' H' { s' with heap := h3 } := J.landed nb fl3.1 (up.trans up3) os ag
    obtain ⟨oe3, vs3, he3, hz3, hd3⟩ := fl3.there
    have nfr : a ∉ frs (X.env :: X.outer) := fun hm => by
      obtain ⟨_, o', e', hnf⟩ := fl3.2.2.1.mem hm
      rw [he3] at e'
      exact hnf vs3 ((Option.some.inj e') ▸ hd3)
    have nL : a ≠ X.env.locals := fun z => nfr (List.mem_filterMap.mpr ⟨X.env, List.mem_cons_self, by rw [hf, z]⟩)
    have nF : a ∉ X.fs := fun hm => by
      obtain ⟨e, he, q⟩ := List.mem_filterMap.mp hm
      exact nfr (List.mem_filterMap.mpr ⟨e, List.mem_cons_of_mem _ he, q⟩)
    have S3 := J3.suite he3 hd3 na nL nF
    refine wpAny_handleBy_cons (codeAny_handlers_test ?_) (by intro q; cases q)
    have LT : PySem.W.Looks (model X.prog X.w) h3 (typeOf (.ref a)) cls := fun A Q E s k q => wpAny_typeOf_ref (k _ _ he3) (by rw [hz3.1]; exact q)
    have LM := PySem.W.exm_one (M := model X.prog X.w) (J3.kIn) LT hb1
    have test : ∀ {Q : Value → Shared → Prop} {E : Value → Shared → Prop}, Q c { s' with heap := h3 } → wpAny (model X.prog X.w) (X.A.mark (some (.ref a))) (eval (.Name x np) X.env) Q E { s' with heap := h3 } := fun {Q E} q => by
      obtain ⟨hg, hdbg, hm | ⟨hm, hv, hnn⟩⟩ := hc
      · exact ld_glob (X := X.suite a ((a, oe3) :: (X.pn ++ pins))) S3 hg hm q hdbg
      · exact ld_blt (X := X.suite a ((a, oe3) :: (X.pn ++ pins))) S3 hg hm hv q hnn hdbg
    refine test (LM.here (codeAny_handlers_suite_as (HandSPX.lands_againZ fl3 fun h4 fl4 up4 => ?_)))
    have J4 : Inv X pins σ' H' { s' with heap := h4 } := J.landed nb fl4.1 ((up.trans up3).trans up4) os ag
    obtain ⟨oe4, vs4, he4, hz4, hd4⟩ := fl4.there
    refine store_ok (X := X.suite a ((a, oe4) :: (X.pn ++ pins))) (v := .ref a) (J4.suite he4 hd4 na nL nF) hN hi (.inr hln) rfl (fun s5 S5 => ?_) (.inl hfn)
    refine wpAny_mono ((hsu a oe4 cls d (X.pn ++ pins) hz4 ⟨_, hd4⟩).run [] s5 _ H' _ S5 (hyes a na)) (fun f s6 hsp => ?_) (fun _ _ z => False.elim z)
    cases f with
    | next =>
      obtain ⟨σ6, H6, S6, q6⟩ := hsp
      exact gone_cell (S6.unsuite ok) hN hi hln hfn fun s7 J7 => ⟨_, _, J7, q6⟩
    | brk => obtain ⟨_, _, _, q6⟩ := hsp; exact False.elim q6
    | cont => obtain ⟨_, _, _, q6⟩ := hsp; exact False.elim q6
    | ret u => obtain ⟨_, _, _, _, _, q6⟩ := hsp; exact False.elim q6
  · cases f with
    | next => obtain ⟨σ', H', J', q⟩ := hsp; exact wpAny_execs_nil ⟨σ', H', J'.ofTry ok, q⟩
    | brk => obtain ⟨σ', H', J', q⟩ := hsp; exact ⟨σ', H', J'.ofTry ok, q⟩
    | cont => obtain ⟨σ', H', J', q⟩ := hsp; exact ⟨σ', H', J'.ofTry ok, q⟩
    | ret u => obtain ⟨v, σ', H', J', r, q⟩ := hsp; exact ⟨v, σ', H', J'.ofTry ok, r, q⟩
end
end Cy
end
section
/-! own rule: name = [e for x in range(n) if ..] in an except suite: the turns' context bears the handled exception's pin -/
namespace Cy
open PySem PySem.Spec PyProof.Rows L2
/-- a block's context with one pin -/
abbrev hotBlk (X : Cx) (p : Addr × Obj) (s : Shared) (H : Hp) (scope : Scope) (cenv : Env) (fp : List Addr) : Cx := (X.blk s H scope cenv fp).tr [p] (fun _ _ => False)
section
variable {X : Cx}
theorem ps_setLcH {p : Addr × Obj} {i : Nat} {y : Str} {py : Pos} {elt tg iter : Expr} {ifs : List Expr} {scope : Scope} {own : List (Str × Nat)} {pos spos : Pos} {wi : TI} {g : TG} {tt : TT} {te : TE} (hot : L2H.Hot1 X.A p) (hp : p ∈ X.pn) (hN : X.N.Nodup) (hy : X.N[i]? = some y) (hyl : X.env.scope.names.lookup y = some .local)
    (hsw : swapsWith (.ListComp elt [⟨tg, iter, ifs, 0⟩] scope pos) (some (.Name y py)) spos.line X.env = pure true) (hi : L2H.PIH X tg iter wi) (ok : BlkOk X.N X.env.scope scope own)
    (hg : ∀ (s : Shared) (H : Hp) (C : Addr) (cl : List (Str × Addr)) (fp : List Addr), PG (hotBlk X p s H scope (compEnvC scope cl C X.env) fp) tg g) (ht : ∀ (s : Shared) (H : Hp) (C : Addr) (cl : List (Str × Addr)) (fp : List Addr), PTs (hotBlk X p s H scope (compEnvC scope cl C X.env) fp) ifs tt)
    (he : ∀ (s : Shared) (H : Hp) (C : Addr) (cl : List (Str × Addr)) (fp : List Addr), PE (hotBlk X p s H scope (compEnvC scope cl C X.env) fp) elt te) (hs : ∀ x, foldedSetIterable iter X.env x = pure x := by intro _; rfl) :
    PS X (.Assign [.Name y py] (.ListComp elt [⟨tg, iter, ifs, 0⟩] scope pos) spos) (tAsg (tLc wi g tt te (own.map (·.2))) (gName i)) := by
  refine ⟨fun pins s σ H D I h => ?_⟩
  have h : tLc wi g tt te (own.map (·.2)) σ H (fun x H1 => gName i x σ H1 D.nx) := h
  rw [exec_Assign_Name_used _ _ _ _ hsw]
  refine wpAny_bind (wpAny_standAt (wpAny_bind ?_))
  show wpAny _ X.A (do let _ ← comprehension (.ListComp elt [⟨tg, iter, ifs, 0⟩] scope pos) scope X.env (firstIterPos [⟨tg, iter, ifs, 0⟩] pos) (newList []) false (eval iter X.env) (some (assign (.Name y py) X.env))) _ _ s
  refine wpAny_bind (thn (Q := fun _ s' => SP X pins D .next s') ?_ fun _ s' hq => wpAny_pure (wpAny_pure hq))
  refine wpAny_comprehension_free (use := some (assign (.Name y py) X.env)) rfl hs (closure_ok fun n hn e => (ok.free n hn e).elim (fun k => I.ok.has _ (.inl k)) fun k => I.ok.has _ (.inr k)) ok.kind (fun n hn e => by rw [ok.uniq n hn, e])
    (thn (hi.run pins s σ H _ I h) fun xv s1 hx => thn hx fun itv s2 h2 => ?_)
  obtain ⟨it, fp, tn, J, H2, rfl, I2, T, st2, f2, q⟩ := h2
  refine wpAny_newObj_type (newEnv_comp ?_) (by show 0 ≤ sizeLine; decide)
  -- the new list, L
  obtain ⟨L, hL⟩ : ∃ L, s2.heap.objs.size = L := ⟨_, rfl⟩
  obtain ⟨W, ⟨m0, w0⟩, turn⟩ := q L (I2.hok.fresh (Nat.le_of_eq hL))
  obtain ⟨s3, hs3⟩ : ∃ s3 : Shared, ({ s2 with heap := s2.heap.push { cls := .type "list", data := .seq ([] : List Value).toArray } } : Shared) = s3 := ⟨_, rfl⟩
  have h3 : s3.heap = s2.heap.push { cls := .type "list", data := .seq ([] : List Value).toArray } := by rw [← hs3]
  have I3 : Inv X pins σ (upd H2 L (.lst [])) s3 := by
    rw [← hs3]
    refine I2.laid (t' := s2.toks) (fun b o e => Heap.get?_push_of_some _ e) (Nat.le_of_eq hL) ⟨Nat.zero_le _, [], 0, .nil, ?_⟩
    rw [← hL]
    exact Heap.get?_push_size _ rfl
  have f3 : ∀ b ∈ fp, FpOk X pins (upd H2 L (.lst [])) b ∧ b < s3.heap.objs.size := fun b hb => by
    obtain ⟨o, e, _⟩ := T.obj _ _ st2 b hb
    have lt := Heap.lt_size e
    exact ⟨⟨(upd_ne (by rw [← hL]; exact Nat.ne_of_lt lt)).trans (f2 b hb).1, (f2 b hb).2⟩, by rw [h3, Heap.size_push]; exact Nat.lt_succ_of_lt lt⟩
  have st3 : tn 0 s3.heap := T.keep _ _ _ st2 fun b _ o e => by rw [h3]; exact Heap.get?_push_of_some _ e
  rw [hs3, hL]
  have I4 := block_start I3 ok hN f3
  have pg := hg s3 (upd H2 L (.lst [])) s3.heap.objs.size (cellsFrom (s3.heap.objs.size + 1) scope.names (cloFrom X.env.cells scope.names [])) fp
  have pt := ht s3 (upd H2 L (.lst [])) s3.heap.objs.size (cellsFrom (s3.heap.objs.size + 1) scope.names (cloFrom X.env.cells scope.names [])) fp
  have pe := he s3 (upd H2 L (.lst [])) s3.heap.objs.size (cellsFrom (s3.heap.objs.size + 1) scope.names (cloFrom X.env.cells scope.names [])) fp
  show codeAny _ _ (.compStart (.ListComp elt [⟨tg, iter, ifs, 0⟩] scope pos) 0 (.ref it) (.ref L) (compEnvC scope (cellsFrom (s3.heap.objs.size + 1) scope.names (cloFrom X.env.cells scope.names [])) s3.heap.objs.size X.env)) (compPost (model X.prog X.w) X.A X.xe _ (fun _ s' => SP X pins D .next s') (.ref L) s3.heap.objs.size) { s3 with heap := pushCells (s3.heap.push { cls := .type "dict", data := .dict #[] }) scope.names }
  generalize hce : compEnvC scope (cellsFrom (s3.heap.objs.size + 1) scope.names (cloFrom X.env.cells scope.names [])) s3.heap.objs.size X.env = ce at I4 pg pt pe ⊢
  have cL : ce.locals = s3.heap.objs.size := by subst hce; rfl
  have nfp : ∀ b ∈ fp, (upd H2 L (.lst [])) b = none := fun b hb => (f3 b hb).1.1
  generalize upd H2 L (.lst []) = H3 at I3 I4 pg pt pe w0 nfp f3
  generalize hs4 : ({ s3 with heap := pushCells (s3.heap.push { cls := .type "dict", data := .dict #[] }) scope.names } : Shared) = s4 at I4 ⊢
  have kp : ∀ b o, s3.heap.get? b = some o → s4.heap.get? b = some o := fun b o e => by rw [← hs4]; exact pushCells_keeps _ _ _ _ (Heap.get?_push_of_some _ e)
  have st4 : tn 0 s4.heap := T.keep _ _ _ st3 fun b _ o e => kp b o e
  -- the block bears the pin
  obtain ⟨pe1, pe2, pe3, pe4, pe5⟩ := I3.pin p (List.mem_append_left _ hp)
  have I5 : Inv (hotBlk X p s3 H3 scope ce fp) [] (wipe σ (own.map (·.2))) H3 s4 := by
    refine ⟨I4.ok.toTry _ _, I4.os, I4.bare, I4.base, I4.loc, I4.cell, I4.free, I4.freeC, fun r hr => ?_, I4.hok, I4.len⟩
    have e : r = p := by simpa using (show r ∈ [p] ++ ([] : List (Addr × Obj)) from hr)
    subst e
    refine ⟨kp _ _ pe1, pe2, ?_, fun hm => ?_, pe5⟩
    · show r.1 ≠ ce.locals
      rw [cL]; exact Nat.ne_of_lt (Heap.lt_size pe1)
    · exact (List.mem_cons.mp (I3.stkSub r.1 hm)).elim pe3 pe4
  have hc : L2H.HotC (hotBlk X p s3 H3 scope ce fp) := ⟨p, hot, List.mem_singleton.mpr rfl⟩
  have stat : ∀ {σ' : L2.St} {H' : Hp} {s' : Shared}, Inv (hotBlk X p s3 H3 scope ce fp) [] σ' H' s' → (∀ b ∈ fp, H' b = none) → ∀ b ∈ fp, FpOk (hotBlk X p s3 H3 scope ce fp) [] H' b := fun {σ' H' s'} I' hn b hb =>
    ⟨hn b hb, (I'.ok.exf b hb).1, I'.ok.exfs b hb, .inl hb, fun x c e => (I'.ok.exf b hb).2 x c e, fun r hr => by
      have e : r = p := by simpa using (show r ∈ [p] ++ ([] : List (Addr × Obj)) from hr)
      subst e
      exact (f3 b hb).1.2.2.2.2.2 r (List.mem_append_left _ hp)⟩
  have loop : codeAny (model X.prog X.w) X.A (.compLoop (.ListComp elt [⟨tg, iter, ifs, 0⟩] scope pos) 0 (.ref it) (.ref L) ce) (compPost (model X.prog X.w) X.A X.xe (some (assign (.Name y py) X.env)) (fun _ s' => SP X pins D .next s') (.ref L) s3.heap.objs.size) s4 := by
    refine compLoop_any (fun n s' => ∃ i H', Inv (hotBlk X p s3 H3 scope ce fp) [] (wipe σ (own.map (·.2))) H' s' ∧ tn i s'.heap ∧ (∀ b ∈ fp, H' b = none) ∧ W i n H') ?_ m0 ⟨0, H3, I5, st4, nfp, w0⟩
    rintro n s5 ⟨i, H5, I6, st5, n5, w5⟩
    rcases turn i n H5 w5 with ⟨stop, qq⟩ | ⟨go, Nx, hNx, step⟩
    · refine thnF (T.done (hotBlk X p s3 H3 scope ce fp) rfl rfl rfl hc i [] s5 _ H5 (fun _ _ => False) I6 (stat I6 n5) st5 stop) fun r s6 ⟨hr, I7⟩ => ?_
      subst hr
      have I8 : Inv X pins σ H5 s6 := I3.call' (ch := fp) I7.os I7.base I7.hok I7.bare fun b hb => ⟨(f3 b hb).1.2.2.2.1, (f3 b hb).1.2.1, (f3 b hb).1.2.2.2.2.1, (f3 b hb).1.2.2.2.2.2⟩
      have nC : H5 s3.heap.objs.size = none := by
        have z : H5 ce.locals = none := I7.free
        rw [cL] at z
        exact z
      obtain ⟨m, hn, _⟩ := I7.loc
      have hn : s6.heap.Ns ce.locals m := hn
      rw [cL] at hn
      obtain ⟨f0, f1, f2', f3', f4, f5⟩ := I3.fpOk (Nat.le_refl s3.heap.objs.size) nC
      show wpAny _ _ (assign (.Name y py) X.env (.ref L)) _ _ _
      refine wpAny_assign_Name (store_ok2 (v := V.ref L) I8 hN hy (.inl hyl) rfl (fun s7 I9 ⟨a, sb, ha⟩ => ?_) (.inr hyl))
      have haC : s3.heap.objs.size ≠ a := ha.elim (fun z => by rw [z]; exact f1) fun z e => f4 y a z e.symm
      exact ⟨m, hn.sameBut sb haC, fun h8 sb3 => ⟨_, H5, I9.turned (t' := s7.toks) (fun b o hb e => (sb3.2 b hb).trans e) f0 f1 f3' f4 f5, qq⟩⟩
    · refine thnF (T.item (hotBlk X p s3 H3 scope ce fp) rfl rfl rfl hc i [] s5 _ H5 (fun _ _ => False) I6 (stat I6 n5) st5 go) fun r s6 ⟨u, hr, h6⟩ => ?_
      subst hr
      refine thnF h6 fun _ s7 ⟨x, H7, I7, r7, y7, st7, n7⟩ => ?_
      refine thnF (pg.run _ s7 _ H7 x u _ (I7.pinned (stat I7 n7) (T.obj _ _ st7)) r7 (step x H7 y7)) fun _ s8 ⟨σ8, H8, I8, hw8, q8⟩ => ?_
      refine thnF (pt.run _ s8 σ8 H8 _ I8 q8) fun b s9 ⟨H9, I9, q9⟩ => ?_
      have fin : ∀ {s' : Shared} {H' : Hp}, Inv (hotBlk X p s3 H3 scope ce fp) ([] ++ pinsAt fp s7.heap) σ8 H' s' → Nx H' → ∃ m, m < n ∧ ∃ i H', Inv (hotBlk X p s3 H3 scope ce fp) [] (wipe σ (own.map (·.2))) H' s' ∧ tn i s'.heap ∧ (∀ b ∈ fp, H' b = none) ∧ W i m H' := fun {s' H'} I' nx => by
        obtain ⟨m', hm, w'⟩ := hNx H' nx
        have pin' : ∀ b ∈ fp, ∀ o, s7.heap.get? b = some o → s'.heap.get? b = some o ∧ H' b = none := fun b hb o e =>
          let z := I'.pin (b, o) (List.mem_append_right _ (List.mem_append_right _ (mem_pinsAt hb e)))
          ⟨z.1, z.2.1⟩
        refine ⟨m', hm, i + 1, H', (I'.unpinned (pins := [])).weak (by rw [← hw8, wipe_length]) (fun j v e => ?_), T.keep _ _ _ st7 fun b hb o e => (pin' b hb o e).1, fun b hb => ?_, w'⟩
        · rw [← hw8] at e
          exact (wipe_some e).1
        · obtain ⟨o, e, _⟩ := T.obj _ _ st7 b hb
          exact (pin' b hb o e).2
      cases b with
      | false =>
        simp only [Bool.false_eq_true, if_false] at q9 ⊢
        exact fin I9 q9
      | true =>
        simp only [if_true] at q9 ⊢
        refine thnF (pe.run _ s9 σ8 H9 _ I9 q9) fun z s10 ⟨yv, H10, I10, r10, acc, hD10, hz10, nx⟩ => ?_
        exact app_ok (X := hotBlk X p s3 H3 scope ce fp) I10 hD10 hz10 r10 fun s11 I11 => fin I11 nx
  exact codeAny_compStart_list loop (T.self X.A 0 _ _ _ st4 loop)
end
end Cy
end
section
namespace Cy
open PySem L2 NM
theorem pss_cls {X : Cx} {sts : List Stmt} {cls c : Value} {t : TS} (h : cls = c → PSs X sts t) : PSs X sts (fun D σ H => cls = c ∧ t D σ H) :=
  ⟨fun pins s σ H D I q => (h q.1).run pins s σ H D I q.2⟩
structure TxAsk (K : PySem.W.Frag) (mg : Str → Option Value) (CY CG CT CR CN : Addr) : Prop where
  isi : mg "isinstance" = none
  range : mg "range" = none
  ve : mg "ValueError" = none
  mgY : mg "YardError" = some (.ref CY)
  mgG : mg "NoGuest" = some (.ref CG)
  mgT : mg "NoTime" = some (.ref CT)
  mgR : mg "NoRoom" = some (.ref CR)
  mgN : mg "NoNumber" = some (.ref CN)
  eR : PySem.W.exmOne K (.ref CR) (.ref CY) = some true
  eN : PySem.W.exmOne K (.ref CN) (.ref CY) = some true
  rG : PySem.W.kitOne K (.ref CR) (.ref CG) = some false
  rT : PySem.W.kitOne K (.ref CR) (.ref CT) = some false
  rR : PySem.W.kitOne K (.ref CR) (.ref CR) = some true
  rV : PySem.W.kitOne K (.ref CR) (.type "ValueError") = some true
  nN : PySem.W.kitOne K (.ref CN) (.ref CN) = some true
  nV : PySem.W.kitOne K (.ref CN) (.type "ValueError") = some true
  xR : ExcC K CR
  xN : ExcC K CN
  fR : XfC K CR
  fN : XfC K CN
  sR : PySem.W.findIn K (.ref CR) "some" = some none
  sN : PySem.W.findIn K (.ref CN) "number" = some none
def spLLeft (CH CS : Addr) : Sp := fun vs H Q _ => ∃ (H0 : Hp) (h : Addr) (T p i : Nat) (ls : List Ln) (ss : List Sy), vs = [.ref h, nV i] ∧ HandAt CH CS H0 H h T ls p ss ∧ ss.length ≤ 100 ∧ i < ss.length ∧
  (ss[i]!.gone = false → ∀ H', HandAt CH CS H0 H' h T ls p (outS ss i) → Q (.int ss[i]!.given) H') ∧ (ss[i]!.gone = true → ∀ H' q, Same H H' → H' q = some (.lst [nV i]) → Q (.ref q) H')
def spLCome (CH CS : Addr) : Sp := fun vs H Q _ => ∃ (H0 : Hp) (h g : Addr) (T p : Nat) (ls : List Ln) (ss : List Sy) (u : Gu), vs = [.ref h, .ref g] ∧ HandAt CH CS H0 H h T ls p ss ∧ H g = some (.tup (guV u)) ∧ GuVal T ls.length u ∧ p ≤ u.first ∧
  YaOk T ls ∧ SyOk T ls.length (ss ++ [newS u]) ∧ p < T ∧ (∀ i, i < (ss ++ [newS u]).length → 0 ≤ NM.rest (ss ++ [newS u])[i]!) ∧ (∀ i, i < (ss ++ [newS u]).length → 0 < NM.rest (ss ++ [newS u])[i]! → p ≤ (ss ++ [newS u])[i]!.g.last) ∧
  (∀ H' q, HandAt CH CS H0 H' h T ls p (ss ++ [newS u]) → Can T ls p (ss ++ [newS u]) → H' q = some (.lst [.str "in", nV ss.length]) → Q (.ref q) H') ∧ (∀ H' q xs, Same H H' → H' q = some (.lst (.str "room" :: xs)) → Q (.ref q) H')
section
variable {P : Program} {w : World} {K : PySem.W.Frag} {mg : Str → Option Value} {base : Heap}
theorem ok_lleft {f CH CS CY CG CT CR CN : Addr} {fd : FuncData} (Fn : Fun K "_law_left" "_law_left" sLLeft f fd) (T : TxAsk K mg CY CG CT CR CN) (ML : MetN P w K mg base 3 CH "leave" (spLeave CH CS CN)) : FnOk P w K mg base CX0 4 f fd ["_law_hand", "_law_number"] (spLLeft CH CS) := by
  refine Fn.ok scLLeft (fun vs H Q E h => ?_) (fun cdv A outer sh H vs Q Ex hr h => ?_)
  · obtain ⟨H0, h, TT, p, i, ls, ss, rfl, _⟩ := h
    rfl
  · obtain ⟨H0, h, TT, p, i, ls, ss, rfl, HA, h8, hi, kQ, kE⟩ := h
    have nd := scLLeft.nd
    refine ⟨_, pss_cons (ps_set (i := 2) nd rfl (.inl rfl) pe_non) <|
      pss_cons (L2N.ps_try_as (i := 3) (ts := fun a cls d => fun D σ H => cls = .ref CN ∧ tSeq (tAsg (tC (.str "other")) (gName 2)) (tIfS (tAnd (tB (tCB (rIsD K CN a d) (tCons (tVar 3) (tCons (tC (.ref CN)) tNil)))) (tB (tCB (rIsD K CN a d) (tCons (tVar 3) (tCons (tC (.ty "ValueError")) tNil))))) (tAsg (tLst (tCons (tXf a (.ref CN) d CN "number" (tVar 3)) tNil)) (gName 2)) tNext) D σ H)
        rfl rfl nd rfl rfl ⟨rfl, by decide, .inl T.mgY⟩ takesN0 (fun W pn xe tk _ => pss_one (ps_set (i := 2) nd rfl (.inl rfl) (pe_mtN ML hr (by decide) (fun σ => L2N.passAt tk σ) (pv 0) (pa_cons (pv 1) pa_nil))))
        (fun a oe cls d pn hz hf => pss_cls fun e => by
          subst e
          exact pss_cons (ps_set (i := 2) nd rfl (.inl rfl) pe_str) <| pss_one (ps_if (PW.pt (pw_and (pt_val (pe_callB (call_isD T.xN List.mem_cons_self hz.zc hf) (by rfl) T.isi (by decide +kernel) (pa_cons (pv 3) (pa_cons (pe_glob (by rfl) T.mgN rfl) pa_nil))))
            (pw_and1 (pt_val (pe_callB (call_isD T.xN List.mem_cons_self hz.zc hf) (by rfl) T.isi (by decide +kernel) (pa_cons (pv 3) (pa_cons (pe_bltn (by rfl) T.ve (v := .ty "ValueError") (u := .type "ValueError") (by decide +kernel) rfl) pa_nil))))))) (pss_one (ps_set (i := 2) nd rfl (.inl rfl) (pe_lst (pa_cons (pe_xf T.fN T.sN hz.zc hf (pv 3)) pa_nil)))) pss_nil))) <|
      pss_one (ps_ret (pv 2)), ?_⟩
    obtain ⟨s0, h0, al, as, ag, sa, gl, N, _⟩ := id HA
    obtain ⟨dx, ob⟩ := N.obj
    refine ⟨_, rfl, h, dx, _, rfl, ob, rfl, _, rfl, ?_⟩
    refine tNil_on ⟨H0, h, TT, p, i, ls, ss, rfl, HA, h8, hi, fun c H' HA' => ?_, fun c H' dd s1 hdd => ?_⟩
    · exact ⟨_, rfl, kQ c H' HA'⟩
    · refine ⟨true, T.eN, fun _ a ha => ?_, fun z => Bool.noConfusion z⟩
      refine ⟨rfl, ?_⟩
      refine ⟨_, rfl, ?_⟩
      refine ⟨_, _, _, dd, _, rfl, rfl, hdd, fun u hu => hu, T.nN, _, rfl, ?_⟩
      refine iteT ?_
      refine ⟨_, rfl, ?_⟩
      refine ⟨_, _, _, dd, _, rfl, rfl, hdd, fun u hu => hu, T.nV, _, rfl, ?_⟩
      refine iteT ?_
      refine ⟨_, rfl, rfl, rfl, dd, _, _, rfl, hdd, rfl, ?_⟩
      refine tNil_on ⟨(by show 1 ≤ sizeLine; decide), fun q hq => ?_⟩
      exact ⟨_, rfl, kE c _ q (s1.trans (Same.new hq)) upd_same⟩
def comeSuite (K : PySem.W.Frag) (CG CT CR : Addr) (a : Addr) (d : Option Addr) : TS :=
  tSeq (tAsg (tLst (tCons (tCB (rIsD K CR a d) (tCons (tVar 3) (tCons (tC (.ref CG)) tNil))) (tCons (tCB (rIsD K CR a d) (tCons (tVar 3) (tCons (tC (.ref CT)) tNil))) (tCons (tCB (rIsD K CR a d) (tCons (tVar 3) (tCons (tC (.ref CR)) tNil))) tNil)))) (gName 4)) <|
  tSeq (tAsg (tLc (iRng1 (tCons (tC (.int 3)) tNil)) (gName 5) (tAnd (tB (tOp (rIxL K) (tVar 4) (tVar 5))) (tB (tCB (rIsD K CR a d) (tCons (tVar 3) (tCons (tC (.ty "ValueError")) tNil))))) (tOp (rIxL K) (tLst (tCons (tC (.str "guest")) (tCons (tC (.str "time")) (tCons (tC (.str "room")) tNil)))) (tVar 5)) [5]) (gName 2)) <|
  tIfS (tTest (tOp (rEqD K) (tVar 2) (tLst (tCons (tC (.str "room")) tNil)))) (tDrop (tBM K "list" rAppend (tVar 2) (tCons (tXf a (.ref CR) d CR "some" (tVar 3)) tNil))) tNext
theorem hot_zn {X : Cx} {a : Addr} {oe : Obj} {cls : Value} {d : Option Addr} {pn : List (Addr × Obj)} (hz : L2N.Zn cls d oe) (hf : ∃ vs, oe.data = .fields vs) : L2H.Hot1 (X.suite a ((a, oe) :: pn)).A (a, oe) := by
  obtain ⟨vs, hv⟩ := hf
  exact ⟨rfl, vs, hv, hz.2.2 vs hv⟩
theorem ok_lcome {f CH CS CY CG CT CR CN : Addr} {fd : FuncData} (Fn : Fun K "_law_come" "_law_come" sLCome f fd) (T : TxAsk K mg CY CG CT CR CN) (MC : MetN P w K mg base 7 CH "come" (spCome CH CS CR)) : FnOk P w K mg base CX0 8 f fd ["_law_hand", "_law_guest_here"] (spLCome CH CS) := by
  refine Fn.ok scLCome (fun vs H Q E h => ?_) (fun cdv A outer sh H vs Q Ex hr h => ?_)
  · obtain ⟨H0, h, g, TT, p, ls, ss, u, rfl, _⟩ := h
    rfl
  · obtain ⟨H0, h, g, TT, p, ls, ss, u, rfl, HA, hg, GV, hpf, Y, S, hp, hr0, hlate, kQ, kE⟩ := h
    have nd := scLCome.nd
    refine ⟨_, pss_cons (ps_set (i := 2) nd rfl (.inl rfl) pe_non) <|
      pss_cons (ps_try_cell (i := 3) (ts := fun a cls d => fun D σ H => cls = .ref CR ∧ comeSuite K CG CT CR a d D σ H)
        rfl rfl nd rfl rfl rfl ⟨rfl, by decide, .inl T.mgY⟩ (fun W pn xe tk _ => pss_one (ps_set (i := 2) nd rfl (.inl rfl) (pe_lst (pa_cons pe_str (pa_cons (pe_mtN MC hr (by decide) (fun σ => L2N.passAt tk σ) (pv 0) (pa_cons (pv 1) pa_nil)) pa_nil)))))
        (fun a oe cls d pn hz hf => pss_cls fun e => by
          subst e
          exact pss_cons (ps_set (i := 4) nd rfl (.inr rfl) (pe_lst (pa_cons (pe_callB (call_isD T.xR List.mem_cons_self hz.zc hf) (by rfl) T.isi (by decide +kernel) (pa_cons (pv 3) (pa_cons (pe_glob (by rfl) T.mgG rfl) pa_nil)))
              (pa_cons (pe_callB (call_isD T.xR List.mem_cons_self hz.zc hf) (by rfl) T.isi (by decide +kernel) (pa_cons (pv 3) (pa_cons (pe_glob (by rfl) T.mgT rfl) pa_nil))) (pa_cons (pe_callB (call_isD T.xR List.mem_cons_self hz.zc hf) (by rfl) T.isi (by decide +kernel) (pa_cons (pv 3) (pa_cons (pe_glob (by rfl) T.mgR rfl) pa_nil))) pa_nil))))) <|
            pss_cons (ps_setLcH (i := 2) (own := [("_law_k", 5)]) (hot_zn (X := (cxOf CX0 P w K mg base ["_law_hand", "_law_guest_here", "_law_told", "e", "_law_marks", "_law_k"] "_law_come" (defScope sLCome) f cdv A outer sh H Ex).nox) (pn := pn) hz hf) List.mem_cons_self nd rfl rfl (sw_true rfl rfl rfl rfl) (L2H.pi_range1H (by rfl) T.range (pa_cons pe_int pa_nil))
              (blkOk_by (N := ["_law_hand", "_law_guest_here", "_law_told", "e", "_law_marks", "_law_k"]) (sc := defScope sLCome) (by decide +kernel)) (fun _ _ _ _ _ => pg_name (i := 5) nd rfl (.inl rfl))
              (fun _ _ _ _ _ => pts_one (PW.pt (pw_and (pt_val (pe_ix ix_list (pv 4) (pv 5) (fun _ _ => rfl))) (pw_and1 (pt_val (pe_callB (call_isD T.xR List.mem_cons_self hz.zc hf) (by rfl) T.isi (by decide +kernel) (pa_cons (pv 3) (pa_cons (pe_bltn (by rfl) T.ve (v := .ty "ValueError") (u := .type "ValueError") (by decide +kernel) rfl) pa_nil))))))))
              (fun _ _ _ _ _ => pe_ix ix_list (pe_lst (pa_cons pe_str (pa_cons pe_str (pa_cons pe_str pa_nil)))) (pv 5) (fun _ _ => rfl))) <|
            pss_one (ps_if (pt_cmpR (op_eqD hr.units) (pv 2) (pe_lst (pa_cons pe_str pa_nil)) (nomark _)) (pss_one (ps_expr (pe_bm PySem.F.plainAttrs_list PySem.F.slot_list_append PySem.F.type_list_append mt_append (pv 2) (pa_cons (pe_xf T.fR T.sR hz.zc hf (pv 3)) pa_nil)))) pss_nil))) <|
      pss_one (ps_ret (pv 2)), ?_⟩
    obtain ⟨s0, h0, al, as, ag, sa, gl, N, _⟩ := id HA
    obtain ⟨dx, ob⟩ := N.obj
    refine ⟨_, rfl, h, dx, _, rfl, ob, rfl, _, rfl, ?_⟩
    refine tNil_on ⟨H0, h, g, TT, p, ls, ss, u, rfl, HA, hg, GV, hpf, Y, S, hp, hr0, hlate, fun H' HA' can => ?_, fun H' dd l s1 hdd => ?_⟩
    · refine tNil_on ⟨(by show 2 ≤ sizeLine; decide), fun q hq => ?_⟩
      exact ⟨_, rfl, kQ _ q (HA'.keep (Same.new hq)) can upd_same⟩
    · refine ⟨T.eR, fun a ha => ⟨rfl, ?_⟩⟩
      -- _law_marks = [..]
      refine ⟨_, rfl, _, _, false, dd, _, rfl, rfl, hdd, fun u hu => hu, T.rG, _, rfl, _, _, false, dd, _, rfl, rfl, hdd, fun u hu => hu, T.rT, _, rfl, _, _, true, dd, _, rfl, rfl, hdd, fun u hu => hu, T.rR, ?_⟩
      refine tNil_on ⟨(by show 3 ≤ sizeLine; decide), fun m hm => ?_⟩
      have hd1 := upd_new (o := .lst [.bl false, .bl false, .bl true]) hm hdd
      have s2 : Same H (upd H' m (.lst [.bl false, .bl false, .bl true])) := s1.trans (Same.new hm)
      have hm1 : upd H' m (.lst [.bl false, .bl false, .bl true]) m = some (.lst [.bl false, .bl false, .bl true]) := upd_same
      generalize upd H' m (.lst [.bl false, .bl false, .bl true]) = H1 at hd1 s2 hm1 ⊢
      -- _law_told = [.. for _law_k in range(3) if ..]
      refine ⟨3, rfl, by omega, by omega, fun D hD => ?_⟩
      refine lc_range (lo := 0) (n := 3) (fun i H2 => Same H1 H2 ∧ H2 D = some (.lst (if i < 3 then [] else [.str "room"]))) ⟨Same.new hD, upd_same⟩ ?_ ?_
      · rintro i H2 hi ⟨s3, h2⟩
        rw [if_pos hi] at h2
        refine ⟨rfl, ?_⟩
        rw [show (0 : Int) + (i : Int) = ((i : Nat) : Int) from Int.zero_add _]
        obtain rfl | rfl | rfl : i = 0 ∨ i = 1 ∨ i = 2 := by omega
        · refine ⟨_, rfl, _, rfl, m, _, _, .bl false, rfl, rfl, SqL.of (s3 _ _ hm1), rfl, _, rfl, ?_⟩
          exact iteF (iteF ⟨s3, h2⟩)
        · refine ⟨_, rfl, _, rfl, m, _, _, .bl false, rfl, rfl, SqL.of (s3 _ _ hm1), rfl, _, rfl, ?_⟩
          exact iteF (iteF ⟨s3, h2⟩)
        · refine ⟨_, rfl, _, rfl, m, _, _, .bl true, rfl, rfl, SqL.of (s3 _ _ hm1), rfl, _, rfl, ?_⟩
          refine iteT ?_
          refine ⟨_, rfl, _, _, true, dd, _, rfl, rfl, s3 _ _ hd1, fun u hu => hu, T.rV, _, rfl, ?_⟩
          refine iteT ?_
          refine ⟨(by show 3 ≤ sizeLine; decide), fun z hz => ?_⟩
          refine ⟨_, rfl, z, _, _, .str "room", rfl, rfl, SqL.of upd_same, rfl, [], upd_new hz h2, (by show 0 < sizeLine; decide), (s3.trans (Same.new hz)).put hD, ?_⟩
          exact upd_same
      · rintro H2 ⟨s3, h2⟩
        have h2 : H2 D = some (.lst [.str "room"]) := h2
        -- if _law_told == ['room']
        refine ⟨_, rfl, (by show 1 ≤ sizeLine; decide), fun z hz => ?_⟩
        have h3 := upd_new (o := .lst [.str "room"]) hz h2
        have hd3 := upd_new (o := .lst [.str "room"]) hz (s3 _ _ hd1)
        have s4 : Same H (upd H2 z (.lst [.str "room"])) := (s2.trans s3).trans (Same.new hz)
        refine ⟨_, _, .lst (SqL.of h3) (.cons (.str _) .nil), .lst (SqL.of upd_same) (.cons (.str _) .nil), by decide +kernel, by decide +kernel, _, rfl, ?_⟩
        refine ite2 (fun _ => ?_) (fun c => absurd (by decide +kernel) c)
        refine ⟨_, rfl, .inl ⟨rfl, _, SqL.of h3⟩, _, rfl, rfl, rfl, dd, _, _, rfl, hd3, rfl, D, _, _, rfl, rfl, h3, (by show 1 < sizeLine; decide), ?_⟩
        exact ⟨_, rfl, kE _ D _ (s4.put (s2.free hD)) upd_same⟩
end
end Cy
end
section
/-! own rule: max of a tuple of ints (which one it is, is not told) -/
namespace Cy
open PySem PySem.Spec PyProof.Rows L2
theorem max_tupI {prog : Program} {w : World} {A : Around} {E : Value → Shared → Prop} {s : Shared} {a : Addr} {xs : Array (Int × Tok)} {Q : Value → Shared → Prop} (hh : A.handled = none) (ht : s.heap.IsTuple a (intItems xs)) (hne : 0 < xs.size)
    (h : ∀ n t h' tk, (∀ b o, s.heap.get? b = some o → h'.get? b = some o) → Q (.int n t) { s with heap := h', toks := tk }) : wpAny (model prog w) A (call (.builtin "max") [.ref a]) Q E s := by
  have lt : a < s.heap.objs.size := by
    obtain ⟨o, ho, _⟩ := ht
    exact Heap.lt_size ho
  refine call_max_walk (wpAny_pyIter_tuple ht ?_)
  have ne : a ≠ s.heap.objs.size := Nat.ne_of_lt lt
  refine ⟨_, _, _, _, _, _, _, rfl, Walks.tuple (A := A.in1) hh _ a ne (intItems xs), ⟨⟨_, Heap.get?_push_size _ rfl, rfl, rfl⟩, ht.at fun o e => Heap.get?_push_of_some _ e⟩, fun b hb => ?_, by simpa [intItems] using hne, CmpOf.ints_gt (numAt xs) (fun _ _ => intItems_at), fun v h' tk hP hk => ?_⟩
  · show b < (s.heap.push _).objs.size
    rw [Heap.size_push]
    have e : b = s.heap.objs.size ∨ b = a := by simpa using hb
    rcases e with rfl | rfl
    · exact Nat.lt_succ_self _
    · exact Nat.lt_succ_of_lt lt
  · obtain ⟨t, rfl⟩ := intItems_at hP
    refine h _ t h' tk fun b o e => hk b o (fun hm => ?_) (Heap.get?_push_of_some _ e)
    have e' : b = s.heap.objs.size := by simpa using hm
    subst e'
    exact absurd (Heap.lt_size e) (Nat.lt_irrefl _)
section
variable {X : Cx}
def rMaxT (K : PySem.W.Frag) : List V → Hp → VK → Prop := fun vs H Q => ∃ (a : Addr) (ns : List Int), vs = [V.ref a] ∧ SqT K H a (ns.map V.int) ∧ 0 < ns.length ∧ ∀ m : Int, Q (.int m) H
theorem cr_maxT (hc : X.calm = true) : CallR X (.builtin "max") (rMaxT X.K) := by
  intro pins s σ H vs us Q I r h
  obtain ⟨a, ns, rfl, hs, hne, q⟩ := h
  obtain ⟨its, rv, ht, _⟩ := I.tuple hs
  rw [Vals.ref1 r]
  have hi := rv.ints
  obtain ⟨xs, e⟩ := hi.allInts.items
  have hl := hi.length
  rw [e] at ht
  have hsz : 0 < xs.size := by
    have e2 : its.toArray.size = xs.size := by rw [e]; simp [intItems]
    rw [List.size_toArray] at e2
    omega
  exact max_tupI (I.ok.hd hc) ht hsz fun n t h' tk hk => ⟨.int n, H, I.kept hk, ⟨t, rfl⟩, q n⟩
end
end Cy
end
section
namespace Cy
open PySem L2 NM
structure TxLaw (K : PySem.W.Frag) (mg : Str → Option Value) : Prop where
  len : mg "len" = none
  range : mg "range" = none
  int : mg "int" = none
  tuple : mg "tuple" = none
  max : mg "max" = none
  min : mg "min" = none
def spGoes (CH CS : Addr) : Sp := fun vs H Q _ => ∃ (H0 : Hp) (h : Addr) (T p i : Nat) (ls : List Ln) (ss : List Sy), vs = [.ref h, nV i, .int ss[i]!.given] ∧ HandAt CH CS H0 H h T ls p ss ∧ ss.length ≤ 100 ∧ i < ss.length ∧ ss[i]!.gone = false ∧ ∀ H', HandAt CH CS H0 H' h T ls p (outS ss i) → Q (.bl true) H'
def spCell (K : PySem.W.Frag) : Sp := fun vs H Q _ => ∃ (l : Addr) (k : Nat) (ns : List Int), vs = [.ref l, nV k] ∧ SqL K H l (ns.map V.int) ∧ ∀ n : Int, Q (.int n) H
def FeedAt (H : Hp) (f : Addr) : Prop := ∃ a b : Int, H f = some (.lst [.int a, .int b])
def spFeed : Sp := fun vs H Q _ => ∃ n : Int, vs = [.int n] ∧ ∀ H' f, Same H H' → H f = none → FeedAt H' f → Q (.ref f) H'
def spDigit : Sp := fun vs H Q _ => ∃ (f : Addr) (m : Int), vs = [.ref f, .int m] ∧ FeedAt H f ∧ 0 < m ∧ m ≤ 10 ^ 30 ∧ ∀ (d a b : Int), 0 ≤ d → d < m → Q (.int d) (upd H f (.lst [.int a, .int b]))
theorem outS_len (ss : List Sy) (i : Nat) : (outS ss i).length = ss.length := by unfold outS; rw [List.length_set]
theorem outS_self {ss : List Sy} {i : Nat} (h : i < ss.length) : (outS ss i)[i]! = { ss[i]! with gone := true } := by
  unfold outS
  rw [getElem!_pos _ i (by rw [List.length_set]; exact h), List.getElem_set_self]
theorem outS_ne {ss : List Sy} {i j : Nat} (h : j < ss.length) (e : i ≠ j) : (outS ss i)[j]! = ss[j]! := by
  unfold outS
  rw [getElem!_pos _ j (by rw [List.length_set]; exact h), getElem!_pos ss j h, List.getElem_set_ne e]
theorem outS_rest {ss : List Sy} {i : Nat} (h : i < ss.length) : NM.rest (outS ss i)[i]! = 0 := by rw [outS_self h]; exact if_pos rfl
theorem inV_nat {n : Nat} {l : List Nat} : inV (nV n) (l.map nV) = decide (n ∈ l) := by
  unfold inV
  rw [List.any_map, Bool.eq_iff_iff, List.any_eq_true, decide_eq_true_eq]
  constructor
  · rintro ⟨x, hx, e⟩
    have e : ((x : Int) == (n : Int)) = true := e
    have e2 : x = n := by have := eq_of_beq e; omega
    exact e2 ▸ hx
  · intro h
    exact ⟨n, h, by show ((n : Int) == (n : Int)) = true; exact beq_self_eq_true _⟩
section
variable {P : Program} {w : World} {K : PySem.W.Frag} {mg : Str → Option Value} {base : Heap}
theorem ok_lgoes {f CH CS : Addr} {fd : FuncData} (Fn : Fun K "_law_goes" "_law_goes" sLGoes f fd) (MG : C8.Met P w K mg base 2 CH "got" (spGot CH CS) []) (MR : C8.Met P w K mg base 2 CH "rest" (spRest CH CS) []) (MO : C8.Met P w K mg base 2 CH "open_ones" (spOpen CH CS) []) (CL : C8.Cal P w K mg base 4 "_law_left" (spLLeft CH CS) []) :
    FnOk P w K mg base CX0 5 f fd ["_law_hand", "_law_number", "_law_got"] (spGoes CH CS) := by
  refine Fn.ok scLGoes (fun vs H Q E h => ?_) (fun cdv A outer sh H vs Q Ex hr h => ?_)
  · obtain ⟨H0, h, TT, p, i, ls, ss, rfl, _⟩ := h
    rfl
  · obtain ⟨H0, h, TT, p, i, ls, ss, rfl, HA, h8, hi, hg, k⟩ := h
    refine ⟨_,
      pss_cons (ps_if (PW.pt (pw_or (pt_cmpR op_ne (C8.pe_mt MG hr (by decide) (pv 0) (pa_cons (pv 1) pa_nil)) (pv 2) (nomark _)) (pw_or1 (pt_cmpR op_ne (C8.pe_c CL hr (by decide) (by rfl) (pa_cons (pv 0) (pa_cons (pv 1) pa_nil))) (pv 2) (nomark _))))) (pss_one (ps_ret pe_bl)) pss_nil) <|
      pss_cons (ps_if (PW.pt (pw_or (pt_cmpR op_ne (C8.pe_mt MR hr (by decide) (pv 0) (pa_cons (pv 1) pa_nil)) pe_int (nomark _)) (pw_or (pt_cmpR op_ne (C8.pe_mt MG hr (by decide) (pv 0) (pa_cons (pv 1) pa_nil)) (pv 2) (nomark _))
        (pw_or1 (pt_cmpR op_in_seq (pv 1) (C8.pe_mt0 MO hr (by decide) (pv 0)) rfl))))) (pss_one (ps_ret pe_bl)) pss_nil) <|
      pss_one (ps_ret (pe_and (pe_cmpR (op_eqD hr.units) (C8.pe_c CL hr (by decide) (by rfl) (pa_cons (pv 0) (pa_cons (pv 1) pa_nil))) (pe_lst (pa_cons (pv 1) pa_nil)) (nomark _)) (pe_one (pe_cmpR op_eq (C8.pe_mt MG hr (by decide) (pv 0) (pa_cons (pv 1) pa_nil)) (pv 2) (nomark _))))), ?_⟩
    have objOf : ∀ {H1 : Hp} {ss1 : List Sy}, HandAt CH CS H0 H1 h TT ls p ss1 → ∃ dx fs, H1 h = some (.ins CH dx fs) ∧ fs.lookup ("got" : Str) = none ∧ fs.lookup ("rest" : Str) = none ∧ fs.lookup ("open_ones" : Str) = none := fun {H1 ss1} R => by
      obtain ⟨_, _, _, _, _, _, _, N, _⟩ := R
      obtain ⟨dx, ob⟩ := N.obj
      exact ⟨dx, _, ob, rfl, rfl, rfl⟩
    obtain ⟨dx, fs, ob, l1, l2, l3⟩ := objOf HA
    refine ⟨_, rfl, h, dx, fs, rfl, ob, l1, _, rfl, ?_⟩
    refine tNil_on ⟨H0, h, TT, p, i, ls, ss, rfl, HA, h8, hi, _, rfl, rfl, _, rfl, ?_⟩
    refine ite2 (fun c => absurd c (by simp)) (fun _ => ?_)
    refine ⟨_, rfl, _, rfl, ?_⟩
    refine tNil_on ⟨H0, h, TT, p, i, ls, ss, rfl, HA, h8, hi, fun _ H1 HA1 => ?_, fun z => by rw [hg] at z; cases z⟩
    refine ⟨_, rfl, rfl, _, rfl, ?_⟩
    refine ite2 (fun c => absurd c (by simp)) (fun _ => ?_)
    have h8' : (outS ss i).length ≤ 100 := by rw [outS_len]; exact h8
    have hi' : i < (outS ss i).length := by rw [outS_len]; exact hi
    have hr0 := outS_rest hi
    have hgv : (outS ss i)[i]!.given = ss[i]!.given := by rw [outS_self hi]
    have hgo : (outS ss i)[i]!.gone = true := by rw [outS_self hi]
    obtain ⟨dx1, fs1, ob1, l1, l2, l3⟩ := objOf HA1
    refine ⟨_, rfl, h, dx1, fs1, rfl, ob1, l2, _, rfl, ?_⟩
    refine tNil_on ⟨H0, h, TT, p, i, ls, outS ss i, rfl, HA1, h8', hi', rfl, _, rfl, ?_⟩
    rw [hr0]
    refine iteF ?_
    refine ⟨_, rfl, h, dx1, fs1, rfl, ob1, l1, _, rfl, ?_⟩
    refine tNil_on ⟨H0, h, TT, p, i, ls, outS ss i, rfl, HA1, h8', hi', _, rfl, rfl, _, rfl, ?_⟩
    rw [hgv]
    refine ite2 (fun c => absurd c (by simp)) (fun _ => ?_)
    refine ⟨_, rfl, _, rfl, h, dx1, fs1, rfl, ob1, l3, ?_⟩
    refine tNil_on ⟨H0, h, TT, p, ls, outS ss i, rfl, HA1, h8', fun H2 q s2 q0 hq => ?_⟩
    refine ⟨q, _, rfl, .inl (SqL.of hq), rfl, ?_, _, rfl, ?_⟩
    · rw [List.all_eq_true]
      intro v hv
      obtain ⟨n, _, rfl⟩ := List.mem_map.mp hv
      rfl
    have HA2 := HA1.keep s2
    have ni : ¬ i ∈ opens (outS ss i) := fun m => by
      have := (mem_opens.mp m).2
      rw [hr0] at this
      exact absurd this (by decide)
    refine ite2 (fun c => ?_) (fun _ => ?_)
    · have c : inV (nV i) ((opens (outS ss i)).map nV) = true := c
      rw [inV_nat] at c
      exact absurd (of_decide_eq_true c) ni
    · refine ⟨_, rfl, _, rfl, ?_⟩
      refine tNil_on ⟨H0, h, TT, p, i, ls, outS ss i, rfl, HA2, h8', hi', fun z => by rw [hgo] at z; (exact Bool.noConfusion z), fun _ H3 q3 s3 hq3 => ?_⟩
      refine ⟨_, rfl, ?_⟩
      refine tNil_on ⟨(by show 1 ≤ sizeLine; decide), fun z hz => ?_⟩
      refine eqI (ns := [(i : Int)]) (ms := [(i : Int)]) (SqL.of (upd_new hz hq3)) (SqL.of upd_same) ⟨_, rfl, ?_⟩
      refine ite2 (fun _ => ?_) (fun c => absurd (by simp) c)
      have HA4 := (HA2.keep s3).keep (Same.new (o := .lst [nV i]) hz)
      obtain ⟨dx4, fs4, ob4, m1, m2, m3⟩ := objOf HA4
      refine ⟨_, rfl, h, dx4, fs4, rfl, ob4, m1, _, rfl, ?_⟩
      refine tNil_on ⟨H0, h, TT, p, i, ls, outS ss i, rfl, HA4, h8', hi', _, rfl, rfl, ?_⟩
      rw [hgv, decide_eq_true rfl]
      exact k _ HA4
end
end Cy
end
section
namespace Cy
open PySem L2 NM
section
variable {P : Program} {w : World} {K : PySem.W.Frag} {mg : Str → Option Value} {base : Heap}
theorem ok_cell {f : Addr} {fd : FuncData} (Fn : Fun K "_law_cell_at" "_law_cell_at" sCell f fd) (T : TxLaw K mg) : FnOk P w K mg base CX0 1 f fd ["_law_script", "_law_k"] (spCell K) := by
  refine Fn.ok scCell (fun vs H Q E h => ?_) (fun cdv A outer sh H vs Q Ex hr h => ?_)
  · obtain ⟨l, k, ns, rfl, _⟩ := h
    rfl
  · obtain ⟨l, k, ns, rfl, hl, q⟩ := h
    refine ⟨_, pss_cons (ps_if (pt_cmpR op_lt (pv 1) (pe_callB call_len_seq (by rfl) T.len boot_len (pa_cons (pv 0) pa_nil)) (nomark _)) (pss_one (ps_ret (pe_ix ix_list (pv 0) (pv 1) (fun _ _ => rfl)))) pss_nil) <| pss_one (ps_ret pe_int), ?_⟩
    refine ⟨_, rfl, _, rfl, l, _, rfl, .inl hl, _, _, rfl, rfl, _, rfl, ?_⟩
    refine ite2 (fun c => ?_) (fun _ => q 0)
    have c : (k : Int) < ((ns.map V.int).length : Int) := of_decide_eq_true c
    rw [List.length_map] at c
    have hk : k < ns.length := by omega
    exact ⟨_, rfl, _, rfl, l, _, _, .int ns[k], rfl, rfl, hl, atI_nat (by rw [List.getElem?_map, List.getElem?_eq_getElem hk]; rfl), q _⟩
theorem ok_feed {f : Addr} {fd : FuncData} (Fn : Fun K "_law_feed" "_law_feed" sFeed f fd) (T : TxLaw K mg) : FnOk P w K mg base CX0 1 f fd ["_law_cell"] spFeed := by
  refine Fn.ok scFeed (fun vs H Q E h => ?_) (fun cdv A outer sh H vs Q Ex hr h => ?_)
  · obtain ⟨n, rfl, _⟩ := h
    rfl
  · obtain ⟨n, rfl, q⟩ := h
    have nd := scFeed.nd
    refine ⟨_,
      pss_cons (ps_set (i := 1) nd rfl (.inl rfl) pe_int) <|
      pss_cons (ps_set (i := 2) nd rfl (.inl rfl) (pe_op op_add (pe_op op_mod (pe_op op_fdiv (pv 0) pe_int) pe_int) pe_int)) <|
      pss_cons (ps_set (i := 3) nd rfl (.inl rfl) (pe_op op_add (pe_op op_mod (pe_op op_fdiv (pv 0) pe_int) pe_int) pe_int)) <|
      pss_cons (ps_for PassesOwn.never rfl (pi_range1 (by rfl) T.range (pa_cons pe_int pa_nil)) (pg_name (i := 4) nd rfl (.inl rfl))
        (pss_cons (ps_set (i := 2) nd rfl (.inl rfl) (pe_op op_mod (pe_op op_add (pe_op op_add (pe_op op_mul (pv 2) (pv 2)) (pe_op op_mul pe_int (pv 3))) (pv 4)) pe_int)) <|
         pss_cons (ps_set (i := 3) nd rfl (.inl rfl) (pe_op op_mod (pe_op op_add (pe_op op_add (pe_op op_mul (pv 3) (pv 3)) (pe_op op_mul pe_int (pv 2))) pe_int) pe_int)) <|
         pss_one (ps_set (i := 1) nd rfl (.inl rfl) (pe_op op_add (pe_op op_mul (pv 1) pe_int) (pv 3))))) <|
      pss_cons (ps_if (pt_cmpR op_eq (pe_op op_mod (pv 0) pe_int) pe_int (nomark _)) (pss_one (ps_ret (pe_lst (pa_cons (pe_op op_fdiv (pv 0) pe_int) (pa_cons (pv 1) pa_nil))))) pss_nil) <|
      pss_one (ps_ret (pe_lst (pa_cons (pv 1) (pa_cons pe_int pa_nil)))), ?_⟩
    have m1 : ∀ x : Int, 0 ≤ x % 2147483647 ∧ x % 2147483647 < 2147483647 := fun x => ⟨Int.emod_nonneg _ (by decide), Int.emod_lt_of_pos _ (by decide)⟩
    have m2 : ∀ x : Int, 0 ≤ x % 2147483629 ∧ x % 2147483629 < 2147483629 := fun x => ⟨Int.emod_nonneg _ (by decide), Int.emod_lt_of_pos _ (by decide)⟩
    refine ⟨_, rfl, _, _, rfl, rfl, ⟨by omega, by omega⟩, _, _, rfl, rfl, by omega, _, _, rfl, rfl, ?_⟩
    refine ⟨_, rfl, _, _, rfl, rfl, ⟨by omega, by omega⟩, _, _, rfl, rfl, by omega, _, _, rfl, rfl, ?_⟩
    have a1 := m1 (n / 2)
    have a2 := m2 (n / 3)
    refine ⟨40, rfl, by omega, by omega, for_range (lo := 0) (n := 40) (fun i σ H1 => ∃ (b x y : Int) (v4 : Option V), σ = [some (.int n), some (.int b), some (.int x), some (.int y), v4] ∧ H1 = H ∧ 0 ≤ x ∧ x < 2147483700 ∧ 0 ≤ y ∧ y < 2147483700)
      ⟨0, n / 2 % 2147483647 + 11, n / 3 % 2147483629 + 7, none, rfl, rfl, by omega, by omega, by omega, by omega⟩ ?_ ?_⟩
    · rintro i σ H1 hi ⟨b, x, y, v4, rfl, rfl, x0, x1, y0, y1⟩
      refine ⟨_, rfl, _, rfl, _, _, rfl, rfl, .inl ⟨by omega, by omega⟩, _, rfl, _, _, rfl, rfl, .inl ⟨by omega, by omega⟩, _, _, rfl, rfl, _, rfl, _, _, rfl, rfl, _, _, rfl, rfl, by omega, ?_⟩
      refine ⟨_, rfl, _, rfl, _, _, rfl, rfl, .inl ⟨by omega, by omega⟩, _, rfl, _, _, rfl, rfl, .inl ⟨by omega, by omega⟩, _, _, rfl, rfl, _, _, rfl, rfl, _, _, rfl, rfl, by omega, ?_⟩
      refine ⟨_, rfl, _, _, rfl, rfl, .inr ⟨by omega, by omega⟩, _, rfl, _, _, rfl, rfl, ?_⟩
      refine ⟨_, _, _, _, rfl, rfl, (m1 _).1, ?_, (m2 _).1, ?_⟩
      · have := (m1 (x * x + 48271 * y + (0 + (i : Int)))).2; omega
      · have := (m2 (y * y + 69621 * ((x * x + 48271 * y + (0 + (i : Int))) % 2147483647) + 1)).2; omega
    · rintro σ H1 ⟨b, x, y, v4, rfl, rfl, _⟩
      refine ⟨_, rfl, _, _, rfl, rfl, by omega, rfl, _, rfl, ?_⟩
      refine ite2 (fun _ => ?_) (fun _ => ?_)
      · refine ⟨_, rfl, _, _, rfl, rfl, ⟨by omega, by omega⟩, _, rfl, ?_⟩
        refine tNil_on ⟨(by show 2 ≤ sizeLine; decide), fun p hp => ?_⟩
        exact q _ p (Same.new hp) hp ⟨_, _, upd_same⟩
      · refine ⟨_, rfl, (by show 2 ≤ sizeLine; decide), fun p hp => ?_⟩
        exact q _ p (Same.new hp) hp ⟨_, _, upd_same⟩
theorem log_30 {m : Int} (h0 : 0 < m) (h : m ≤ 10 ^ 30) : CDivW 0 m := wide_div (b := 100) h0 (by
  have : (10 : Int) ^ 30 < 2 ^ 100 := by decide +kernel
  have e : (10 : Int) ^ 30 = 1000000000000000000000000000000 := by decide +kernel
  have e2 : (2 : Nat) ^ 100 = 1267650600228229401496703205376 := by decide +kernel
  rw [e2]; rw [e] at h; omega) (by omega) (by omega)
theorem ok_digit {f : Addr} {fd : FuncData} (Fn : Fun K "_law_digit" "_law_digit" sDigit f fd) : FnOk P w K mg base CX0 1 f fd ["_law_feed_here", "_law_many"] spDigit := by
  refine Fn.ok scDigit (fun vs H Q E h => ?_) (fun cdv A outer sh H vs Q Ex hr h => ?_)
  · obtain ⟨l, m, rfl, _⟩ := h
    rfl
  · obtain ⟨l, m, rfl, ⟨a, b, hl⟩, m0, m30, q⟩ := h
    have nd := scDigit.nd
    refine ⟨_,
      pss_cons (ps_if (pt_cmpR op_eq (pe_ix ix_list (pv 0) pe_int (fun _ _ => rfl)) pe_int (nomark _)) (pss_cons (ps_asg (pe_ix ix_list (pv 0) pe_int (fun _ _ => rfl)) (pg_sub (pv 0) pe_int set_list)) <| pss_one (ps_asg pe_int (pg_sub (pv 0) pe_int set_list))) pss_nil) <|
      pss_cons (ps_set (i := 2) nd rfl (.inl rfl) (pe_op op_mod (pe_ix ix_list (pv 0) pe_int (fun _ _ => rfl)) (pv 1))) <|
      pss_cons (ps_asg (pe_op op_fdivW (pe_ix ix_list (pv 0) pe_int (fun _ _ => rfl)) (pv 1)) (pg_sub (pv 0) pe_int set_list)) <|
      pss_one (ps_ret (pv 2)), ?_⟩
    have fin : ∀ (H1 : Hp) (x y : Int), H1 l = some (.lst [.int x, .int y]) → (∀ o, upd H1 l o = upd H l o) → ∀ D : Ends, D.rt = Q →
        tSeq (tAsg (tOp (rI (fun _ j => 0 < j) fun i j => .int (i % j)) (tOp (rIxL K) (tVar 0) (tC (.int 0))) (tVar 1)) (gName 2)) (tSeq (tAsg (tOp (rI CDivW fun i j => .int (i / j)) (tOp (rIxL K) (tVar 0) (tC (.int 0))) (tVar 1)) (gSub (tVar 0) (tC (.int 0)) rSetL)) (tRet (tVar 2))) D
        (L2.start ["_law_feed_here", "_law_many", "_law_digit_here"] [.ref l, .int m]) H1 := fun H1 x y h1 hu D hD => by
      refine ⟨_, rfl, l, _, _, .int x, rfl, rfl, SqL.of h1, rfl, _, rfl, _, _, rfl, rfl, m0, ?_⟩
      refine ⟨_, rfl, l, _, _, .int x, rfl, rfl, SqL.of h1, rfl, _, rfl, _, _, rfl, rfl, log_30 m0 m30, ?_⟩
      refine ⟨_, rfl, l, _, _, 0, rfl, rfl, h1, rfl, ?_⟩
      refine ⟨_, rfl, ?_⟩
      rw [hu]
      rw [hD]
      exact q (x % m) (x / m) y (Int.emod_nonneg _ (by omega)) (Int.emod_lt_of_pos _ m0)
    refine ⟨_, rfl, l, _, _, .int a, rfl, rfl, SqL.of hl, rfl, rfl, _, rfl, ?_⟩
    refine ite2 (fun _ => ?_) (fun _ => ?_)
    · refine ⟨_, rfl, l, _, _, .int b, rfl, rfl, SqL.of hl, rfl, _, rfl, l, _, _, 0, rfl, rfl, hl, rfl, ?_⟩
      refine ⟨_, rfl, l, _, _, 1, rfl, rfl, upd_same, rfl, ?_⟩
      exact fin _ b 0 (by rw [upd_same]; rfl) (fun o => by rw [upd_upd, upd_upd]) _ rfl
    · exact fin H a b hl (fun _ => rfl) _ rfl
end
end Cy
end
section
namespace Cy
open PySem L2 NM
theorem le30 {m : Int} (h : m ≤ 1000000000000000000000000000000) : m ≤ 10 ^ 30 := by
  rw [show (10 : Int) ^ 30 = 1000000000000000000000000000000 from by decide +kernel]; exact h
def spLYard : Sp := fun vs H Q _ => ∃ (H0 : Hp) (f : Addr), vs = [.ref f] ∧ Same H0 H ∧ H0 f = none ∧ FeedAt H f ∧ ∀ H' y T ls, Same H0 H' → H0 y = none → YardAt H' y T ls → YaOk T ls → 1 ≤ ls.length → Q (.ref y) H'
/-- lines that are being made, beside H0 -/
structure YB (H0 H : Hp) (f L : Addr) (ls : List Ln) : Prop where
  same : Same H0 H
  f0 : H0 f = none
  fd : FeedAt H f
  L0 : H0 L = none
  lines : LinesIn H L ls ls.length
  ne : f ≠ L
section
variable {H0 H : Hp} {f L : Addr} {ls : List Ln}
theorem YB.put {a : Addr} {xs : List V} {o : HO} (h : YB H0 H f L ls) (ha : H a = some (.lst xs)) (a0 : H0 a = none) (nL : a ≠ L) (hf : FeedAt (upd H a o) f) : YB H0 (upd H a o) f L ls := by
  obtain ⟨ta, h1, h2, h3⟩ := h.lines
  exact ⟨h.same.put a0, h.f0, hf, h.L0, ⟨ta, (upd_ne nL.symm).trans h1, h2, fun i hi => let ⟨b, c, e1, e2, e3⟩ := h3 i hi; ⟨b, c, e1, (upd_ne (ne_of e2 ha (by intro z; cases z))).trans e2, (upd_ne (ne_of e3 ha (by intro z; cases z))).trans e3⟩⟩, h.ne⟩
theorem YB.feed (h : YB H0 H f L ls) (a b : Int) : YB H0 (upd H f (.lst [.int a, .int b])) f L ls := by
  obtain ⟨x, y, hf⟩ := h.fd
  exact h.put hf h.f0 h.ne ⟨a, b, upd_same⟩
theorem YB.side {a : Addr} {xs : List V} {o : HO} (h : YB H0 H f L ls) (ha : H a = some (.lst xs)) (a0 : H0 a = none) (nL : a ≠ L) (nf : a ≠ f) : YB H0 (upd H a o) f L ls := by
  obtain ⟨x, y, hf⟩ := h.fd
  exact h.put ha a0 nL ⟨x, y, (upd_ne nf.symm).trans hf⟩
theorem YB.new {a : Addr} {o : HO} (h : YB H0 H f L ls) (ha : H a = none) : YB H0 (upd H a o) f L ls := by
  obtain ⟨x, y, hf⟩ := h.fd
  obtain ⟨ta, h1, h2, h3⟩ := h.lines
  exact ⟨h.same.put (h.same.free ha), h.f0, ⟨x, y, upd_new ha hf⟩, h.L0, ⟨ta, upd_new ha h1, h2, fun i hi => let ⟨b, c, e1, e2, e3⟩ := h3 i hi; ⟨b, c, e1, upd_new ha e2, upd_new ha e3⟩⟩, h.ne⟩
theorem app_get {α : Type} [Inhabited α] {l : List α} {x : α} {i : Nat} (h : i < l.length) : (l ++ [x])[i]! = l[i]! := by
  rw [getElem!_pos (l ++ [x]) i (by rw [List.length_append]; omega), getElem!_pos l i h, List.getElem_append_left h]
theorem app_last {α : Type} [Inhabited α] {l : List α} {x : α} : (l ++ [x])[l.length]! = x := by
  rw [getElem!_pos (l ++ [x]) l.length (by rw [List.length_append, List.length_singleton]; omega), List.getElem_append_right (Nat.le_refl _)]
  simp
end
section
variable {P : Program} {w : World} {K : PySem.W.Frag} {mg : Str → Option Value} {base : Heap}
theorem ok_lyard {f : Addr} {fd : FuncData} (Fn : Fun K "_law_yard" "_law_yard" sLYard f fd) (T : TxLaw K mg) (CD : C8.Cal P w K mg base 1 "_law_digit" spDigit []) : FnOk P w K mg base CX0 2 f fd ["_law_feed_here"] spLYard := by
  refine Fn.ok scLYard (fun vs H Q E h => ?_) (fun cdv A outer sh H vs Q Ex hr h => ?_)
  · obtain ⟨H0, f, rfl, _⟩ := h
    rfl
  · obtain ⟨H0, f, rfl, s0, f0, fa, q⟩ := h
    have nd := scLYard.nd
    refine ⟨_,
      pss_cons (ps_set (i := 1) nd rfl (.inl rfl) (pe_op op_add pe_int (C8.pe_c CD hr (by decide) (by rfl) (pa_cons (pv 0) (pa_cons pe_int pa_nil))))) <|
      pss_cons (ps_set (i := 2) nd rfl (.inl rfl) (pe_ix ix_list (pe_lst (pa_cons pe_int (pa_cons pe_int (pa_cons pe_int (pa_cons (pe_op op_pow pe_int pe_int) pa_nil))))) (C8.pe_c CD hr (by decide) (by rfl) (pa_cons (pv 0) (pa_cons pe_int pa_nil))) (fun _ _ => rfl))) <|
      pss_cons (ps_set (i := 3) nd rfl (.inl rfl) (pe_lst pa_nil)) <|
      pss_cons (ps_for PassesOwn.never rfl (pi_range1 (by rfl) T.range (pa_cons (pe_op op_add pe_int (C8.pe_c CD hr (by decide) (by rfl) (pa_cons (pv 0) (pa_cons pe_int pa_nil)))) pa_nil)) (pg_name (i := 4) nd rfl (.inl rfl))
        (pss_cons (ps_set (i := 5) nd rfl (.inl rfl) pe_non) <|
         pss_cons (ps_if (pt_cmpR op_gt (pv 4) pe_int (nomark _)) (pss_one (ps_set (i := 5) nd rfl (.inl rfl) (C8.pe_c CD hr (by decide) (by rfl) (pa_cons (pv 0) (pa_cons (pv 4) pa_nil))))) pss_nil) <|
         pss_cons (ps_set (i := 6) nd rfl (.inl rfl) (pe_lst pa_nil)) <|
         pss_cons (ps_for PassesOwn.never rfl (pi_range1 (by rfl) T.range (pa_cons (pv 1) pa_nil)) (pg_name (i := 7) nd rfl (.inl rfl))
           (pss_cons (ps_set (i := 8) nd rfl (.inl rfl) (C8.pe_c CD hr (by decide) (by rfl) (pa_cons (pv 0) (pa_cons (pv 2) pa_nil)))) <|
            pss_one (ps_expr (pe_bm PySem.F.plainAttrs_list PySem.F.slot_list_append PySem.F.type_list_append mt_append (pv 6) (pa_cons (pe_op op_mul (pv 8) (pe_callTy call_int1 (by rfl) T.int (by decide +kernel) (pa_cons (pe_cmpR op_gt (C8.pe_c CD hr (by decide) (by rfl) (pa_cons (pv 0) (pa_cons pe_int pa_nil))) pe_int (nomark _)) pa_nil))) pa_nil))))) <|
         pss_one (ps_expr (pe_bm PySem.F.plainAttrs_list PySem.F.slot_list_append PySem.F.type_list_append mt_append (pv 3) (pa_cons (pe_tup (pa_cons (pv 5) (pa_cons (pe_callTy call_tuple_of (by rfl) T.tuple (by decide +kernel) (pa_cons (pv 6) pa_nil)) pa_nil))) pa_nil))))) <|
      pss_one (ps_ret (pe_tup (pa_cons (pv 1) (pa_cons (pe_callTy call_tuple_of (by rfl) T.tuple (by decide +kernel) (pa_cons (pv 3) pa_nil)) pa_nil)))), ?_⟩
    -- turns
    refine ⟨_, rfl, f, 8, rfl, fa, by decide, le30 (by decide), fun d a b d0 d1 => ?_⟩
    refine ⟨_, _, rfl, rfl, ?_⟩
    have s1 : Same H0 (upd H f (.lst [.int a, .int b])) := s0.put f0
    have fa1 : FeedAt (upd H f (.lst [.int a, .int b])) f := ⟨a, b, upd_same⟩
    generalize upd H f (.lst [.int a, .int b]) = H1 at s1 fa1 ⊢
    obtain ⟨TT, hTT, hT1, hT8⟩ : ∃ TT : Nat, (1 + d : Int) = (TT : Int) ∧ 1 ≤ TT ∧ TT ≤ 8 := ⟨(1 + d).toNat, by omega, by omega, by omega⟩
    dsimp only
    rw [hTT]
    -- scale
    refine ⟨_, _, rfl, rfl, ⟨by decide, by decide, by decide⟩, ?_⟩
    refine tNil_on ⟨(by show 4 ≤ sizeLine; decide), fun sc hsc => ?_⟩
    obtain ⟨xa, xb, hfa⟩ := id fa1
    have fsc : f ≠ sc := ne_of_none hfa hsc
    have s2 := s1.put (o := .lst [.int 5, .int 9, .int 16, .int (10 ^ 30)]) (s1.free hsc)
    have hsc2 : upd H1 sc (.lst [.int 5, .int 9, .int 16, .int (10 ^ 30)]) sc = _ := upd_same
    have fa2 : FeedAt (upd H1 sc (.lst [.int 5, .int 9, .int 16, .int (10 ^ 30)])) f := ⟨xa, xb, upd_new hsc hfa⟩
    change tVar 0 _ (upd H1 sc (.lst [.int 5, .int 9, .int 16, .int (10 ^ 30)])) _
    generalize upd H1 sc (.lst [.int 5, .int 9, .int 16, .int (10 ^ 30)]) = H2 at s2 hsc2 fa2 ⊢
    refine ⟨_, rfl, f, 4, rfl, fa2, by decide, le30 (by decide), fun e a b e0 e1 => ?_⟩
    have s3 : Same H0 (upd H2 f (.lst [.int a, .int b])) := s2.put f0
    have fa3 : FeedAt (upd H2 f (.lst [.int a, .int b])) f := ⟨a, b, upd_same⟩
    have hsc3 := (upd_ne (o := .lst [.int a, .int b]) fsc.symm).trans hsc2
    generalize upd H2 f (.lst [.int a, .int b]) = H3 at s3 fa3 hsc3 ⊢
    obtain ⟨scv, hscv, sc0, sc30⟩ : ∃ v : Int, atI [V.int 5, V.int 9, V.int 16, V.int (10 ^ 30)] e = some (.int v) ∧ 0 < v ∧ v ≤ 10 ^ 30 := by
      have : e = 0 ∨ e = 1 ∨ e = 2 ∨ e = 3 := by omega
      rcases this with rfl | rfl | rfl | rfl
      · exact ⟨5, rfl, by decide, le30 (by decide)⟩
      · exact ⟨9, rfl, by decide, le30 (by decide)⟩
      · exact ⟨16, rfl, by decide, le30 (by decide)⟩
      · exact ⟨10 ^ 30, rfl, by decide +kernel, Int.le_refl _⟩
    refine ⟨sc, _, _, _, rfl, rfl, SqL.of hsc3, hscv, ?_⟩
    -- lines = []
    refine ⟨Nat.zero_le _, fun L hL => ?_⟩
    obtain ⟨ya, yb, hfa3⟩ := id fa3
    have fL : f ≠ L := ne_of_none hfa3 hL
    have B4 : YB H0 (upd H3 L (.lst [])) f L [] := ⟨s3.put (s3.free hL), f0, ⟨ya, yb, upd_new hL hfa3⟩, s3.free hL, ⟨[], upd_same, rfl, fun i hi => absurd hi (Nat.not_lt_zero i)⟩, fL⟩
    generalize upd H3 L (.lst []) = H4 at B4 ⊢
    -- for _law_k in range(1 + ..)
    refine ⟨_, rfl, f, 5, rfl, B4.fd, by decide, le30 (by decide), fun g a b g0 g1 => ?_⟩
    have B5 := B4.feed a b
    generalize upd H4 f (.lst [.int a, .int b]) = H5 at B5 ⊢
    refine ⟨_, _, rfl, rfl, ?_⟩
    refine tNil_on ⟨1 + g, rfl, by omega, by omega, ?_⟩
    obtain ⟨NL, hNL, hN1, hN5⟩ : ∃ NL : Nat, (1 + g : Int).toNat = NL ∧ 1 ≤ NL ∧ NL ≤ 5 := ⟨(1 + g).toNat, rfl, by omega, by omega⟩
    rw [hNL]
    refine for_range (lo := 0) (n := NL) (fun i σ H6 => ∃ (v4 v5 v6 v7 v8 : Option V) (ls : List Ln), σ = [some (.ref f), some (nV TT), some (.int scv), some (.ref L), v4, v5, v6, v7, v8] ∧ YB H0 H6 f L ls ∧ ls.length = i ∧
        (∀ k, k < i → ls[k]!.bounds.length = TT ∧ (∀ b ∈ ls[k]!.bounds, 0 ≤ b) ∧ ∀ a, ls[k]!.above = some a → a < k)) ⟨none, none, none, none, none, [], rfl, B5, rfl, fun k hk => absurd hk (Nat.not_lt_zero k)⟩ ?_ ?_
    · rintro i σ H6 hi ⟨v4, v5, v6, v7, v8, ls, rfl, B6, lls, pls⟩
      rw [show (0 : Int) + (i : Int) = ((i : Nat) : Int) from Int.zero_add _]
      -- the line's head
      have rest : ∀ (H7 : Hp) (ab : Option Nat), YB H0 H7 f L ls → (∀ a, ab = some a → a < i) →
          tSeq (tAsg (tLst tNil) (gName 6)) (tSeq (tFor (iRng1 (tCons (tVar 1) tNil)) (gName 7)
            (tSeq (tAsg (tCall spDigit [] C8.E0 (tCons (tVar 0) (tCons (tVar 2) tNil))) (gName 8)) (tDrop (tBM K "list" rAppend (tVar 6) (tCons (tOp (rI CMul fun i j => .int (i * j)) (tVar 8) (fun σ H Q => tCons (tOp (rI0 fun i j => .bl (decide (j < i))) (tCall spDigit [] C8.E0 (tCons (tVar 0) (tCons (tC (.int 7)) tNil))) (tC (.int 0))) tNil σ H fun vs H1 => (∃ i, vs = [.int i] ∧ Q (.int i) H1) ∨ ∃ k, vs = [.bl k] ∧ Q (.int (if k then 1 else 0)) H1)) tNil)))))
            (tDrop (tBM K "list" rAppend (tVar 3) (tCons (tTup (tCons (tVar 5) (tCons (fun σ H Q => tCons (tVar 6) tNil σ H fun xs H1 => ∃ p ys, xs = [.ref p] ∧ ((SqL K H1 p ys ∧ ∀ l, H1 l = none → Q (.ref l) (upd H1 l (.tup ys))) ∨ (SqT K H1 p ys ∧ Q (.ref p) H1))) tNil))) tNil))))
            { nx := fun σ H => ∃ (v4 v5 v6 v7 v8 : Option V) (ls : List Ln), σ = [some (.ref f), some (nV TT), some (.int scv), some (.ref L), v4, v5, v6, v7, v8] ∧ YB H0 H f L ls ∧ ls.length = i + 1 ∧
              (∀ k, k < i + 1 → ls[k]!.bounds.length = TT ∧ (∀ b ∈ ls[k]!.bounds, 0 ≤ b) ∧ ∀ a, ls[k]!.above = some a → a < k), rt := fun _ _ => False }
            [some (.ref f), some (nV TT), some (.int scv), some (.ref L), some (nV i), some (optV ab), v6, v7, v8] H7 := fun H7 ab B7 hab => by
        refine ⟨Nat.zero_le _, fun B hB => ?_⟩
        have B0 := B7.same.free hB
        obtain ⟨xa, xb, hfa7⟩ := id B7.fd
        obtain ⟨ta7, hL7, _⟩ := id B7.lines
        have nBf : B ≠ f := none_ne hB hfa7
        have nBL : B ≠ L := none_ne hB hL7
        have B8 := B7.new (o := .lst []) hB
        have hB8 : upd H7 B (.lst []) B = some (.lst []) := upd_same
        generalize upd H7 B (.lst []) = H8 at B8 hB8 ⊢
        refine ⟨_, rfl, (TT : Int), rfl, by omega, by omega, for_range (lo := 0) (n := ((TT : Int)).toNat) (fun j σ H9 => ∃ (w7 w8 : Option V) (bs : List Int), σ = [some (.ref f), some (nV TT), some (.int scv), some (.ref L), some (nV i), some (optV ab), some (.ref B), w7, w8] ∧ YB H0 H9 f L ls ∧ H9 B = some (.lst (bs.map V.int)) ∧ bs.length = j ∧ ∀ b ∈ bs, 0 ≤ b)
          ⟨v7, v8, [], rfl, B8, hB8, rfl, by simp⟩ ?_ ?_⟩
        · rintro j σ H9 hj ⟨w7, w8, bs, rfl, B9, hB9, lbs, pbs⟩
          refine ⟨_, rfl, _, rfl, ?_⟩
          refine tNil_on ⟨f, scv, rfl, B9.fd, sc0, sc30, fun d a b d0 d1 => ?_⟩
          have B10 := B9.feed a b
          have hB10 := (upd_ne (o := .lst [.int a, .int b]) nBf).trans hB9
          generalize upd H9 f (.lst [.int a, .int b]) = H10 at B10 hB10 ⊢
          refine ⟨_, rfl, .inl ⟨rfl, _, SqL.of hB10⟩, _, rfl, _, rfl, ?_⟩
          refine ⟨f, 7, rfl, B10.fd, by decide, le30 (by decide), fun e a b e0 e1 => ?_⟩
          have B11 := B10.feed a b
          have hB11 := (upd_ne (o := .lst [.int a, .int b]) nBf).trans hB10
          generalize upd H10 f (.lst [.int a, .int b]) = H11 at B11 hB11 ⊢
          refine ⟨_, _, rfl, rfl, ?_⟩
          refine tNil_on (.inr ⟨_, rfl, ?_⟩)
          obtain ⟨m, hm, m0, m1⟩ : ∃ m : Int, (if decide (0 < e) = true then 1 else 0) = m ∧ 0 ≤ m ∧ m ≤ 1 := ⟨_, rfl, by split <;> omega, by split <;> omega⟩
          rw [hm]
          refine ⟨_, _, rfl, rfl, .inr ⟨by omega, by omega⟩, ?_⟩
          refine tNil_on ⟨B, _, _, rfl, rfl, hB11, by rw [List.length_map]; exact small' (by omega), ?_⟩
          refine ⟨_, _, bs ++ [d * m], rfl, B11.side hB11 B0 nBL nBf, by rw [upd_same, List.map_append]; rfl, by simp [lbs], fun b hb => ?_⟩
          rcases List.mem_append.mp hb with z | z
          · exact pbs b z
          · have e : b = d * m := by simpa using z
            rw [e]; exact Int.mul_nonneg d0 m0
        · rintro σ H9 ⟨w7, w8, bs, rfl, B9, hB9, lbs, pbs⟩
          obtain ⟨ta, hL9, lta, hta⟩ := id B9.lines
          refine ⟨_, rfl, .inl ⟨rfl, _, SqL.of hL9⟩, _, rfl, _, rfl, B, _, rfl, .inl ⟨SqL.of hB9, fun t ht => ?_⟩⟩
          have B10 := B9.new (o := .tup (bs.map V.int)) ht
          have hL10 := upd_new (o := .tup (bs.map V.int)) ht hL9
          have ht10 : upd H9 t (.tup (bs.map V.int)) t = _ := upd_same
          generalize upd H9 t (.tup (bs.map V.int)) = H10 at B10 hL10 ht10 ⊢
          refine tNil_on ⟨(by show 2 ≤ sizeLine; decide), fun q hq => ?_⟩
          have B11 := B10.new (o := .tup [optV ab, .ref t]) hq
          have hL11 := upd_new (o := .tup [optV ab, .ref t]) hq hL10
          have ht11 := upd_new (o := .tup [optV ab, .ref t]) hq ht10
          have hq11 : upd H10 q (.tup [optV ab, .ref t]) q = _ := upd_same
          generalize upd H10 q (.tup [optV ab, .ref t]) = H11 at B11 hL11 ht11 hq11 ⊢
          refine tNil_on ⟨L, _, _, rfl, rfl, hL11, by rw [List.length_map, lta, lls]; exact small' (by omega), ?_⟩
          obtain ⟨ya, yb, hfa11⟩ := id B11.fd
          obtain ⟨ta2, hL12, lta2, hta2⟩ := B11.lines
          have eta : ta2 = ta := by
            rw [hL11] at hL12
            have e := Option.some.inj hL12
            injection e with e
            exact (List.map_inj_right (fun a b (h : V.ref a = V.ref b) => by injection h)).mp e.symm
          subst eta
          have hnew : LinesIn (upd H11 L (.lst (ta2.map V.ref ++ [V.ref q]))) L (ls ++ [⟨ab, bs⟩]) (ls.length + 1) := by
            refine LinesIn.snoc (ls := ls ++ [⟨ab, bs⟩]) (b := t) hL11 (fun xs z => by cases z) lta2 (fun k hk => ?_) ?_ ?_
            · rw [app_get hk]; exact hta2 k hk
            · rw [app_last]; exact hq11
            · rw [app_last]; exact ht11
          have len1 : (ls ++ [(⟨ab, bs⟩ : Ln)]).length = ls.length + 1 := by simp
          refine ⟨_, _, _, _, _, ls ++ [⟨ab, bs⟩], rfl, ⟨B11.same.put B11.L0, f0, ⟨ya, yb, (upd_ne B11.ne).trans hfa11⟩, B11.L0, by rw [len1]; exact hnew, B11.ne⟩, by rw [len1, lls], fun k hk => ?_⟩
          by_cases e : k < ls.length
          · rw [app_get e]; exact pls k (by omega)
          · have e : k = ls.length := by omega
            subst e
            rw [app_last]
            exact ⟨by show bs.length = TT; omega, pbs, fun a ha => by have := hab a ha; omega⟩
      refine ⟨_, rfl, _, _, rfl, rfl, _, rfl, ?_⟩
      refine ite2 (fun c => ?_) (fun _ => ?_)
      · have c : (0 : Int) < (i : Int) := of_decide_eq_true c
        refine ⟨_, rfl, _, rfl, ?_⟩
        refine tNil_on ⟨f, _, rfl, B6.fd, c, le30 (by omega), fun d a b d0 d1 => ?_⟩
        have B7 := B6.feed a b
        generalize upd H6 f (.lst [.int a, .int b]) = H7 at B7 ⊢
        obtain ⟨dn, rfl⟩ := Int.eq_ofNat_of_zero_le d0
        exact rest H7 (some dn) B7 fun a ha => by cases ha; omega
      · exact rest H6 none B6 fun a ha => by cases ha
    · rintro σ H6 ⟨v4, v5, v6, v7, v8, ls, rfl, B6, lls, pls⟩
      obtain ⟨ta, hL6, lta, hta⟩ := id B6.lines
      refine ⟨_, rfl, _, rfl, L, _, rfl, .inl ⟨SqL.of hL6, fun t ht => ?_⟩⟩
      refine tNil_on ⟨(by show 2 ≤ sizeLine; decide), fun y hy => ?_⟩
      have s7 : Same H0 (upd (upd H6 t (.tup (ta.map V.ref))) y (.tup [nV TT, .ref t])) := (B6.same.trans (Same.new ht)).trans (Same.new hy)
      refine q _ y TT ls s7 ((B6.same.trans (Same.new ht)).free hy) ⟨t, ta, upd_same, upd_new hy upd_same, lta, fun k hk => ?_⟩ ⟨hT1, hT8, by omega, fun k hk => (pls k (by omega)).1, fun k hk => (pls k (by omega)).2.1, fun k hk => (pls k (by omega)).2.2⟩ (by omega)
      obtain ⟨a, b, e1, e2, e3⟩ := hta k hk
      exact ⟨a, b, e1, upd_new hy (upd_new ht e2), upd_new hy (upd_new ht e3)⟩
end
end Cy
end
section
namespace Cy
open PySem L2 NM
def spLGuest : Sp := fun vs H Q _ => ∃ (H0 : Hp) (f y : Addr) (T : Nat) (ls : List Ln), vs = [.ref f, .ref y, .int 0] ∧ Same H0 H ∧ H0 f = none ∧ FeedAt H f ∧ YardAt H0 y T ls ∧ YaOk T ls ∧ 1 ≤ ls.length ∧ ∀ H' g u, Same H0 H' → H0 g = none → H' g = some (.tup (guV u)) → GuVal T ls.length u → Q (.ref g) H'
section
variable {P : Program} {w : World} {K : PySem.W.Frag} {mg : Str → Option Value} {base : Heap}
theorem ok_lguest {f : Addr} {fd : FuncData} (Fn : Fun K "_law_guest" "_law_guest" sLGuest f fd) (T : TxLaw K mg) (CD : C8.Cal P w K mg base 1 "_law_digit" spDigit []) : FnOk P w K mg base CX0 2 f fd ["_law_feed_here", "_law_yard_here", "_law_now"] spLGuest := by
  refine Fn.ok scLGuest (fun vs H Q E h => ?_) (fun cdv A outer sh H vs Q Ex hr h => ?_)
  · obtain ⟨H0, f, y, TT, ls, rfl, _⟩ := h
    rfl
  · obtain ⟨H0, f, y, TT, ls, rfl, s0, f0, fa, ⟨ly, la, hy1, hy2, hy3, hy4⟩, Y, nl1, q⟩ := h
    have nd := scLGuest.nd
    refine ⟨_,
      pss_cons (ps_set (i := 3) nd rfl (.inl rfl) (C8.pe_c CD hr (by decide) (by rfl) (pa_cons (pv 0) (pa_cons (pe_ix ix_tup (pv 1) pe_int (fun _ _ => rfl)) pa_nil)))) <|
      pss_cons (ps_if (PW.pt (pw_and (pt_chain op_lt op_lt (pv 3) (pv 2) (pe_ix ix_tup (pv 1) pe_int (fun _ _ => rfl))) (pw_and1 (pt_cmpR op_gt (C8.pe_c CD hr (by decide) (by rfl) (pa_cons (pv 0) (pa_cons pe_int pa_nil))) pe_int (nomark _))))) (pss_one ps_never) pss_nil) <|
      pss_cons (ps_set (i := 4) nd rfl (.inl rfl) (pe_op op_add (pv 3) (C8.pe_c CD hr (by decide) (by rfl) (pa_cons (pv 0) (pa_cons (pe_op op_sub (pe_ix ix_tup (pv 1) pe_int (fun _ _ => rfl)) (pv 3)) pa_nil))))) <|
      pss_cons (ps_set (i := 5) nd rfl (.inl rfl) (C8.pe_c CD hr (by decide) (by rfl) (pa_cons (pv 0) (pa_cons (pe_callB call_len_seq (by rfl) T.len boot_len (pa_cons (pe_ix ix_tup (pv 1) pe_int (fun _ _ => rfl)) pa_nil)) pa_nil)))) <|
      pss_cons (ps_set (i := 6) nd rfl (.inl rfl) (pe_ix ix_list (pe_lst (pa_cons pe_int (pa_cons pe_int (pa_cons pe_int (pa_cons (pe_op op_sub (pe_op op_pow pe_int pe_int) pe_int) pa_nil))))) (C8.pe_c CD hr (by decide) (by rfl) (pa_cons (pv 0) (pa_cons pe_int pa_nil))) (fun _ _ => rfl))) <|
      pss_cons (ps_if (pt_cmpR op_lt (pe_callB (cr_max rfl) (by rfl) T.max (by decide +kernel) (pa_cons (pe_lc (own := [("_law_above", 8), ("_law_bounds", 9)]) (g := gTup K 2 (gCons (gName 8) (gCons (gName 9) gNil))) (tt := tYes) (te := tCB (rMaxT K) (tCons (tVar 9) tNil)) rfl nd (pi_tup (pe_ix ix_tup (pv 1) pe_int (fun _ _ => rfl)))
          (blkOk_by (N := ["_law_feed_here", "_law_yard_here", "_law_now", "_law_first", "_law_last", "_law_line", "_law_scale", "_law_want", "_law_above", "_law_bounds"]) (sc := defScope sLGuest) (by decide +kernel)) (fun _ _ _ _ _ => pg_tup rfl (pgs_cons (pg_name (i := 8) nd rfl (.inl rfl)) (pgs_cons (pg_name (i := 9) nd rfl (.inl rfl)) pgs_nil)))
          (fun _ _ _ _ _ => pts_nil) (fun _ _ _ _ _ => pe_callB (cr_maxT rfl) (by rfl) T.max (by decide +kernel) (pa_cons (pv 9) pa_nil))) pa_nil)) pe_int (nomark _))
        (pss_one (ps_set (i := 6) nd rfl (.inl rfl) (pe_callB (call_min2 rfl) (by rfl) T.min (by decide +kernel) (pa_cons (pv 6) (pa_cons pe_int pa_nil))))) pss_nil) <|
      pss_cons (ps_set (i := 7) nd rfl (.inl rfl) (pe_op op_add pe_int (C8.pe_c CD hr (by decide) (by rfl) (pa_cons (pv 0) (pa_cons (pv 6) pa_nil))))) <|
      pss_one (ps_ret (pe_tup (pa_cons (pv 5) (pa_cons (pv 3) (pa_cons (pv 4) (pa_cons (pv 7) (pa_cons (pe_op op_add pe_int (C8.pe_c CD hr (by decide) (by rfl) (pa_cons (pv 0) (pa_cons (pv 6) pa_nil)))) pa_nil))))))), ?_⟩
    have T1 := Y.t1
    have T8 := Y.t8
    -- first
    refine ⟨_, rfl, _, rfl, y, _, _, nV TT, rfl, rfl, SqT.of (s0 _ _ hy1), rfl, ?_⟩
    refine tNil_on ⟨f, _, rfl, fa, by omega, le30 (by omega), fun d a b d0 d1 => ?_⟩
    obtain ⟨dn, rfl⟩ := Int.eq_ofNat_of_zero_le d0
    have s1 : Same H0 (upd H f (.lst [.int a, .int b])) := s0.put f0
    have fa1 : FeedAt (upd H f (.lst [.int a, .int b])) f := ⟨a, b, upd_same⟩
    generalize upd H f (.lst [.int a, .int b]) = H1 at s1 fa1 ⊢
    -- if first < now < ..
    refine ⟨_, rfl, _, rfl, _, _, rfl, rfl, _, rfl, ?_⟩
    refine ite2 (fun c => absurd (of_decide_eq_true c) (by omega)) (fun _ => ?_)
    refine ⟨_, rfl, ?_⟩
    refine iteF (iteF ?_)
    -- last
    refine ⟨_, rfl, _, rfl, _, rfl, y, _, _, nV TT, rfl, rfl, SqT.of (s1 _ _ hy1), rfl, _, rfl, _, _, rfl, rfl, ?_⟩
    refine tNil_on ⟨f, _, rfl, fa1, by omega, le30 (by omega), fun e a b e0 e1 => ?_⟩
    obtain ⟨en, rfl⟩ := Int.eq_ofNat_of_zero_le e0
    have s2 : Same H0 (upd H1 f (.lst [.int a, .int b])) := s1.put f0
    have fa2 : FeedAt (upd H1 f (.lst [.int a, .int b])) f := ⟨a, b, upd_same⟩
    generalize upd H1 f (.lst [.int a, .int b]) = H2 at s2 fa2 ⊢
    refine ⟨_, _, rfl, rfl, ?_⟩
    dsimp only
    rw [← Int.natCast_add]
    -- line
    refine ⟨_, rfl, _, rfl, y, _, _, .ref ly, rfl, rfl, SqT.of (s2 _ _ hy1), rfl, ly, _, rfl, .inr (SqT.of (s2 _ _ hy2)), ?_⟩
    have l5 := Y.l5
    refine tNil_on ⟨f, _, rfl, fa2, by rw [List.length_map, hy3]; omega, le30 (by rw [List.length_map, hy3]; omega), fun l a b l0 l1 => ?_⟩
    rw [List.length_map, hy3] at l1
    obtain ⟨ln, rfl⟩ := Int.eq_ofNat_of_zero_le l0
    have s3 : Same H0 (upd H2 f (.lst [.int a, .int b])) := s2.put f0
    have fa3 : FeedAt (upd H2 f (.lst [.int a, .int b])) f := ⟨a, b, upd_same⟩
    generalize upd H2 f (.lst [.int a, .int b]) = H3 at s3 fa3 ⊢
    -- scale
    refine ⟨_, _, rfl, rfl, ⟨by decide, by decide, by decide⟩, _, _, rfl, rfl, ?_⟩
    refine tNil_on ⟨(by show 4 ≤ sizeLine; decide), fun sc hsc => ?_⟩
    obtain ⟨xa, xb, hfa⟩ := id fa3
    have fsc : f ≠ sc := ne_of_none hfa hsc
    have s4 := s3.put (o := .lst [.int 4, .int 9, .int 20, .int (10 ^ 30 - 1)]) (s3.free hsc)
    have hsc4 : upd H3 sc (.lst [.int 4, .int 9, .int 20, .int (10 ^ 30 - 1)]) sc = _ := upd_same
    have fa4 : FeedAt (upd H3 sc (.lst [.int 4, .int 9, .int 20, .int (10 ^ 30 - 1)])) f := ⟨xa, xb, upd_new hsc hfa⟩
    change tVar 0 _ (upd H3 sc (.lst [.int 4, .int 9, .int 20, .int (10 ^ 30 - 1)])) _
    generalize upd H3 sc (.lst [.int 4, .int 9, .int 20, .int (10 ^ 30 - 1)]) = H4 at s4 hsc4 fa4 ⊢
    refine ⟨_, rfl, f, 4, rfl, fa4, by decide, le30 (by decide), fun g a b g0 g1 => ?_⟩
    have s5 : Same H0 (upd H4 f (.lst [.int a, .int b])) := s4.put f0
    have fa5 : FeedAt (upd H4 f (.lst [.int a, .int b])) f := ⟨a, b, upd_same⟩
    have hsc5 := (upd_ne (o := .lst [.int a, .int b]) fsc.symm).trans hsc4
    generalize upd H4 f (.lst [.int a, .int b]) = H5 at s5 fa5 hsc5 ⊢
    have t30 : (10 : Int) ^ 30 = 1000000000000000000000000000000 := by decide +kernel
    obtain ⟨scv, hscv, sc0, sc30⟩ : ∃ v : Int, atI [V.int 4, V.int 9, V.int 20, V.int (10 ^ 30 - 1)] g = some (.int v) ∧ 4 ≤ v ∧ v ≤ 10 ^ 30 - 1 := by
      have : g = 0 ∨ g = 1 ∨ g = 2 ∨ g = 3 := by omega
      rcases this with rfl | rfl | rfl | rfl
      · exact ⟨4, rfl, by decide, by rw [t30]; decide⟩
      · exact ⟨9, rfl, by decide, by rw [t30]; decide⟩
      · exact ⟨20, rfl, by decide, by rw [t30]; decide⟩
      · exact ⟨10 ^ 30 - 1, rfl, by rw [t30]; decide, Int.le_refl _⟩
    refine ⟨sc, _, _, _, rfl, rfl, SqL.of hsc5, hscv, ?_⟩
    -- max([..]) < 20
    refine ⟨_, rfl, y, _, _, .ref ly, rfl, rfl, SqT.of (s5 _ _ hy1), rfl, ly, rfl, ⟨_, SqT.of (s5 _ _ hy2)⟩, fun D hD => ?_⟩
    refine lc_it (walk_tup (K := K) (a := ly) (xs := la.map V.ref)) (fun i H6 => Same H5 H6 ∧ ∃ ms : List Int, H6 D = some (.lst (ms.map V.int)) ∧ ms.length = i) ⟨Same.new hD, [], upd_same, rfl⟩ (fun i H6 _ hh => SqT.of (hh.1 _ _ (s5 _ _ hy2))) ?_ ?_
    · rintro i x H6 H7 hi ⟨s6, ms, hms, lms⟩ ⟨e7, hx⟩
      subst e7
      have hi' : i < ls.length := by rw [List.length_map, hy3] at hi; exact hi
      obtain ⟨a, b, ha, hau, hbu⟩ := hy4 i hi'
      rw [List.getElem?_map, ha] at hx
      cases hx
      have s06 := s5.trans s6
      refine ⟨a, _, rfl, SqT.of (s06 _ _ hau), rfl, _, _, rfl, _, _, rfl, rfl, rfl, ?_⟩
      refine tYes_on (iteT ?_)
      refine ⟨_, rfl, ?_⟩
      refine tNil_on ⟨b, ls[i]!.bounds, rfl, SqT.of (s06 _ _ hbu), by rw [Y.len i hi']; omega, fun m => ?_⟩
      exact ⟨_, hms, by rw [List.length_map, lms]; exact small' (by omega), s6.put hD, ms ++ [m], by rw [upd_same, List.map_append]; rfl, by simp [lms]⟩
    · rintro H6 ⟨s6, ms, hms, lms⟩
      have rest : ∀ (v : Int) (H7 : Hp), Same H0 H7 → FeedAt H7 f → 1 ≤ v → v ≤ 10 ^ 30 - 1 → ∀ v8 v9 : Option V,
          tSeq (tAsg (tOp (rI0 fun i j => .int (i + j)) (tC (.int 1)) (tCall spDigit [] C8.E0 (tCons (tVar 0) (tCons (tVar 6) tNil)))) (gName 7)) (tRet (tTup (tCons (tVar 5) (tCons (tVar 3) (tCons (tVar 4) (tCons (tVar 7) (tCons (tOp (rI0 fun i j => .int (i + j)) (tC (.int 1)) (tCall spDigit [] C8.E0 (tCons (tVar 0) (tCons (tVar 6) tNil)))) tNil)))))))
            { nx := fun _ H' => Q .non H', rt := Q } [some (.ref f), some (.ref y), some (.int 0), some (nV dn), some (nV (dn + en)), some (nV ln), some (.int v), none, v8, v9] H7 := fun v H7 s7 fa7 v1 v30 v8 v9 => by
        refine ⟨_, rfl, _, rfl, ?_⟩
        refine tNil_on ⟨f, v, rfl, fa7, by omega, by omega, fun w1 a b w0 w2 => ?_⟩
        have s8 : Same H0 (upd H7 f (.lst [.int a, .int b])) := s7.put f0
        have fa8 : FeedAt (upd H7 f (.lst [.int a, .int b])) f := ⟨a, b, upd_same⟩
        generalize upd H7 f (.lst [.int a, .int b]) = H8 at s8 fa8 ⊢
        refine ⟨_, _, rfl, rfl, ?_⟩
        refine ⟨_, rfl, _, rfl, _, rfl, _, rfl, _, rfl, _, rfl, ?_⟩
        refine tNil_on ⟨f, v, rfl, fa8, by omega, by omega, fun w3 a b w4 w5 => ?_⟩
        have s9 : Same H0 (upd H8 f (.lst [.int a, .int b])) := s8.put f0
        generalize upd H8 f (.lst [.int a, .int b]) = H9 at s9 ⊢
        refine ⟨_, _, rfl, rfl, ?_⟩
        refine tNil_on ⟨(by show 5 ≤ sizeLine; decide), fun g hg => ?_⟩
        exact q _ g ⟨ln, dn, dn + en, 1 + w1, 1 + w3⟩ (s9.trans (Same.new hg)) (s9.free hg) upd_same ⟨by show ln < ls.length; omega, by show dn ≤ dn + en; omega, by show dn + en < TT; omega, by show 1 ≤ 1 + w1; omega, by show 1 + w1 < 10 ^ 30; omega, by show 1 ≤ 1 + w3; omega, by show 1 + w3 < 10 ^ 30; omega⟩
      have s06 := s5.trans s6
      have fa6 : FeedAt H6 f := let ⟨a, b, e⟩ := fa5; ⟨a, b, s6 _ _ e⟩
      refine tNil_on ⟨D, ms, rfl, SqL.of hms, by rw [lms, List.length_map, hy3]; omega, fun m _ _ => ?_⟩
      refine ⟨_, _, rfl, rfl, _, rfl, ?_⟩
      refine ite2 (fun _ => ?_) (fun _ => ?_)
      · refine ⟨_, rfl, _, _, rfl, ?_⟩
        exact rest _ H6 s06 fa6 (by split <;> omega) (by split <;> omega) _ _
      · exact rest _ H6 s06 fa6 (by omega) sc30 _ _
end
end Cy
end
section
namespace Cy
open PySem L2 NM
/-! ### the law's own state -/
/-- the script stands in the written part, or a is not its address -/
def FzOr (K : PySem.W.Frag) (l : Addr) (ns : List Int) (a : Addr) : Prop := (∀ H, SqL K H l (ns.map V.int)) ∨ a ≠ l
theorem fz_new {K : PySem.W.Frag} {H : Hp} {l a : Addr} {ns : List Int} (h : SqL K H l (ns.map V.int)) (ha : H a = none) : FzOr K l ns a := by
  rcases h with (h | ⟨u, h⟩) | h
  · exact .inr (none_ne ha h)
  · exact .inr (none_ne ha h)
  · exact .inl fun _ => .inr h
theorem _root_.NM.SyOk.of_g {T nl : Nat} {ss ss' : List Sy} (h : SyOk T nl ss) (hl : ss'.length = ss.length) (hg : ∀ i, i < ss.length → ss'[i]!.g = ss[i]!.g) : SyOk T nl ss' :=
  ⟨by rw [hl]; exact h.n8, fun i hi => by rw [hl] at hi; rw [hg i hi]; exact h.line i hi, fun i hi => by rw [hl] at hi; rw [hg i hi]; exact h.fl i hi, fun i hi => by rw [hl] at hi; rw [hg i hi]; exact h.lt i hi, fun i hi => by rw [hl] at hi; rw [hg i hi]; exact h.most i hi⟩
theorem map_same {α β : Type} [Inhabited α] {l l' : List α} {f : α → β} (hl : l'.length = l.length) (h : ∀ i, i < l.length → f l'[i]! = f l[i]!) : l'.map f = l.map f := by
  apply List.ext_getElem
  · rw [List.length_map, List.length_map, hl]
  · intro i h1 h2
    rw [List.length_map] at h1 h2
    have e := h i h2
    rw [getElem!_pos l' i h1, getElem!_pos l i h2] at e
    rw [List.getElem_map, List.getElem_map]
    exact e
theorem out_g {ss : List Sy} {i j : Nat} (h : j < ss.length) : (outS ss i)[j]!.g = ss[j]!.g := by
  by_cases e : i = j
  · subst e; rw [outS_self h]
  · rw [outS_ne h e]
theorem out_given {ss : List Sy} {i j : Nat} (h : j < ss.length) : (outS ss i)[j]!.given = ss[j]!.given := by
  by_cases e : i = j
  · subst e; rw [outS_self h]
  · rw [outS_ne h e]
structure LA (K : PySem.W.Frag) (CH CS : Addr) (F H : Hp) (l y h wl ll : Addr) (T : Nat) (ls : List Ln) (p : Nat) (ss : List Sy) (ns : List Int) : Prop where
  hand : HandAt CH CS F H h T ls p ss
  scr : SqL K F l (ns.map V.int)
  yard : YardAt F y T ls
  wants : F wl = some (.lst (ss.map fun s => V.int s.g.want))
  lasts : F ll = some (.lst (ss.map fun s => nV s.g.last))
  sy : SyOk T ls.length ss
  can : Can T ls p ss
  n1 : wl ≠ ll
  n2 : FzOr K l ns wl
  n3 : FzOr K l ns ll
structure LS (K : PySem.W.Frag) (CH CS : Addr) (F H : Hp) (l y h wl ll gl ol : Addr) (T : Nat) (ls : List Ln) (p : Nat) (ss : List Sy) (ns : List Int) (G : List Int) (gs : List Nat) : Prop where
  la : LA K CH CS F H l y h wl ll T ls p ss ns
  got : F gl = some (.lst (G.map V.int))
  gone : F ol = some (.lst (gs.map nV))
  gm : ∀ j, j < ss.length → (j ∈ gs ↔ ss[j]!.gone = true)
  gb : gs.length ≤ ss.length
  gn : gs.Nodup
  gl' : ∀ j ∈ gs, j < ss.length
  o1 : ol ≠ gl
  o2 : ol ≠ wl
  o3 : ol ≠ ll
  o4 : FzOr K l ns ol
  g1 : gl ≠ wl
  g2 : gl ≠ ll
  g3 : FzOr K l ns gl
section
variable {K : PySem.W.Frag} {CH CS : Addr} {F H H' : Hp} {l y h wl ll gl ol : Addr} {T p : Nat} {ls : List Ln} {ss : List Sy} {ns G : List Int} {gs : List Nat}
theorem sqL_put {a : Addr} {o : HO} (h : SqL K H l (ns.map V.int)) (ne : FzOr K l ns a) : SqL K (L2.upd H a o) l (ns.map V.int) := by
  rcases ne with q | ne
  · exact q _
  rcases h with (h | ⟨u, h⟩) | h
  · exact .inl (.inl ((upd_ne ne.symm).trans h))
  · exact .inl (.inr ⟨u, (upd_ne ne.symm).trans h⟩)
  · exact .inr h
theorem YardAt.put {a : Addr} {o u : HO} (hy : YardAt F y T ls) (ha : F a = some u) (hu : ∀ xs, u ≠ .tup xs) : YardAt (L2.upd F a o) y T ls := by
  obtain ⟨ly, la, h1, h2, h3, h4⟩ := hy
  have k : ∀ {b : Addr} {xs : List V}, F b = some (.tup xs) → L2.upd F a o b = some (.tup xs) := fun {b xs} e => (upd_ne fun z => by
    subst z
    rw [e] at ha
    exact hu _ (Option.some.inj ha).symm).trans e
  exact ⟨ly, la, k h1, k h2, h3, fun i hi => let ⟨a, b, e1, e2, e3⟩ := h4 i hi; ⟨a, b, e1, k e2, k e3⟩⟩
theorem LA.hp (A : LA K CH CS F H l y h wl ll T ls p ss ns) : Same F H := A.hand.1
theorem LA.obj (A : LA K CH CS F H l y h wl ll T ls p ss ns) : ∃ dx al as ag, H h = some (.ins CH dx (handF T al p as ag)) := by
  obtain ⟨_, _, al, as, ag, _, _, N, _⟩ := A.hand
  obtain ⟨dx, ob⟩ := N.obj
  exact ⟨dx, al, as, ag, ob⟩
theorem LA.keep (A : LA K CH CS F H l y h wl ll T ls p ss ns) (s : Same H H') : LA K CH CS F H' l y h wl ll T ls p ss ns := ⟨A.hand.keep s, A.scr, A.yard, A.wants, A.lasts, A.sy, A.can, A.n1, A.n2, A.n3⟩
theorem LA.frame {F2 : Hp} (A : LA K CH CS F H l y h wl ll T ls p ss ns) (s : Same F F2) (R : HandAt CH CS F2 H' h T ls p ss) : LA K CH CS F2 H' l y h wl ll T ls p ss ns :=
  ⟨R, s.seq A.scr, A.yard.keep s, s _ _ A.wants, s _ _ A.lasts, A.sy, A.can, A.n1, A.n2, A.n3⟩
/-- another list beside it is changed -/
theorem LA.put {a : Addr} {u o : HO} (A : LA K CH CS F H l y h wl ll T ls p ss ns) (ha : F a = some u) (hu : ∀ xs, u ≠ .tup xs) (w1 : a ≠ wl) (w2 : a ≠ ll) (w3 : FzOr K l ns a) : LA K CH CS (L2.upd F a o) (L2.upd H a o) l y h wl ll T ls p ss ns :=
  ⟨A.hand.upd (.inl ⟨u, ha, hu⟩), sqL_put A.scr w3, A.yard.put ha hu, (upd_ne w1.symm).trans A.wants, (upd_ne w2.symm).trans A.lasts, A.sy, A.can, A.n1, A.n2, A.n3⟩
theorem LA.new {a : Addr} {o : HO} (A : LA K CH CS F H l y h wl ll T ls p ss ns) (ha : H a = none) : LA K CH CS (L2.upd F a o) (L2.upd H a o) l y h wl ll T ls p ss ns :=
  A.frame (Same.new (A.hp.free ha)) (A.hand.upd (.inr ha))
/-- one leaves -/
theorem LA.out {i : Nat} (A : LA K CH CS F H l y h wl ll T ls p ss ns) (hi : i < ss.length) (R : HandAt CH CS F H' h T ls p (outS ss i)) : LA K CH CS F H' l y h wl ll T ls p (outS ss i) ns := by
  obtain ⟨x, z, pr⟩ := A.can
  refine ⟨R, A.scr, A.yard, ?_, ?_, A.sy.of_g (outS_len _ _) fun j hj => out_g hj, ⟨_, z, pr.leave (n := i) (outS ss i) (outS_len _ _) (fun j hj => out_g hj) (outS_rest hi) fun j hj e => by rw [outS_ne hj (Ne.symm e)]⟩, A.n1, A.n2, A.n3⟩
  · rw [map_same (f := fun s : Sy => V.int s.g.want) (outS_len ss i) fun j hj => by rw [out_g hj]]; exact A.wants
  · rw [map_same (f := fun s : Sy => nV s.g.last) (outS_len ss i) fun j hj => by rw [out_g hj]]; exact A.lasts
/-- one was let in -/
theorem LA.grew {s : Sy} (A : LA K CH CS F H l y h wl ll T ls p ss ns) (R : HandAt CH CS F H' h T ls p (ss ++ [s])) (c : Can T ls p (ss ++ [s])) (S : SyOk T ls.length (ss ++ [s])) :
    LA K CH CS (L2.upd (L2.upd F wl (.lst ((ss ++ [s]).map fun s => V.int s.g.want))) ll (.lst ((ss ++ [s]).map fun s => nV s.g.last))) (L2.upd (L2.upd H' wl (.lst ((ss ++ [s]).map fun s => V.int s.g.want))) ll (.lst ((ss ++ [s]).map fun s => nV s.g.last))) l y h wl ll T ls p (ss ++ [s]) ns := by
  have hl1 : L2.upd F wl (.lst ((ss ++ [s]).map fun s => V.int s.g.want)) ll = some (.lst (ss.map fun s => nV s.g.last)) := (upd_ne A.n1.symm).trans A.lasts
  exact ⟨(R.upd (.inl ⟨_, A.wants, fun xs z => by cases z⟩)).upd (.inl ⟨_, hl1, fun xs z => by cases z⟩), sqL_put (sqL_put A.scr A.n2) A.n3, (A.yard.put A.wants (fun xs z => by cases z)).put hl1 (fun xs z => by cases z),
    (upd_ne A.n1).trans upd_same, upd_same, S, c, A.n1, A.n2, A.n3⟩
theorem LA.scrH (A : LA K CH CS F H l y h wl ll T ls p ss ns) : SqL K H l (ns.map V.int) := A.hp.seq A.scr
end
def spLaw (K : PySem.W.Frag) : Sp := fun vs H Q _ => ∃ (l : Addr) (ns : List Int), vs = [.ref l] ∧ SqL K H l (ns.map V.int) ∧ ∀ H', Q (.bl true) H'
theorem cell_on {K : PySem.W.Frag} {l : Addr} {k : Nat} {z : Int} {ns : List Int} {H : Hp} {Q : VK} {E : XK} (e : z = (k : Int)) (hl : SqL K H l (ns.map V.int)) (q : ∀ n : Int, Q (.int n) H) : spCell K [.ref l, .int z] H Q E := ⟨l, k, ns, by rw [e], hl, q⟩
end Cy
end
section
namespace Cy
open PySem L2 NM
section
variable {K : PySem.W.Frag} {CH CS : Addr} {F H H' : Hp} {l y h wl ll gl ol : Addr} {T p : Nat} {ls : List Ln} {ss : List Sy} {ns G : List Int} {gs : List Nat}
abbrev givens (ss : List Sy) : List Int := ss.map fun s => s.given
theorem LS.keep (A : LS K CH CS F H l y h wl ll gl ol T ls p ss ns G gs) (s : Same H H') : LS K CH CS F H' l y h wl ll gl ol T ls p ss ns G gs :=
  ⟨A.la.keep s, A.got, A.gone, A.gm, A.gb, A.gn, A.gl', A.o1, A.o2, A.o3, A.o4, A.g1, A.g2, A.g3⟩
theorem LS.put {a : Addr} {u o : HO} (A : LS K CH CS F H l y h wl ll gl ol T ls p ss ns G gs) (ha : F a = some u) (hu : ∀ xs, u ≠ .tup xs) (hl : ∀ xs, u ≠ .lst xs) (fz : FzOr K l ns a) : LS K CH CS (L2.upd F a o) (L2.upd H a o) l y h wl ll gl ol T ls p ss ns G gs := by
  have ne : ∀ {b : Addr} {xs : List V}, F b = some (.lst xs) → b ≠ a := fun {b xs} e => ne_of e ha (fun z => hl xs z.symm)
  exact ⟨A.la.put ha hu (ne A.la.wants).symm (ne A.la.lasts).symm fz, (upd_ne (ne A.got)).trans A.got, (upd_ne (ne A.gone)).trans A.gone, A.gm, A.gb, A.gn, A.gl', A.o1, A.o2, A.o3, A.o4, A.g1, A.g2, A.g3⟩
theorem LS.setG {G' : List Int} (A : LS K CH CS F H l y h wl ll gl ol T ls p ss ns G gs) : LS K CH CS (L2.upd F gl (.lst (G'.map V.int))) (L2.upd H gl (.lst (G'.map V.int))) l y h wl ll gl ol T ls p ss ns G' gs :=
  ⟨A.la.put A.got (fun xs z => by cases z) A.g1 A.g2 A.g3, upd_same, (upd_ne A.o1).trans A.gone, A.gm, A.gb, A.gn, A.gl', A.o1, A.o2, A.o3, A.o4, A.g1, A.g2, A.g3⟩
theorem LS.leave {i : Nat} (A : LS K CH CS F H l y h wl ll gl ol T ls p ss ns (givens ss) gs) (hi : i < ss.length) (hg : ss[i]!.gone = false) (R : HandAt CH CS F H' h T ls p (outS ss i)) :
    LS K CH CS (L2.upd F ol (.lst ((gs ++ [i]).map nV))) (L2.upd H' ol (.lst ((gs ++ [i]).map nV))) l y h wl ll gl ol T ls p (outS ss i) ns (givens (outS ss i)) (gs ++ [i]) := by
  have A1 := A.la.out hi R
  have nin : i ∉ gs := fun m => by
    have := (A.gm i hi).mp m
    rw [hg] at this; cases this
  have gn : (gs ++ [i]).Nodup := nodup_snoc A.gn nin
  have gl' : ∀ j ∈ gs ++ [i], j < (outS ss i).length := fun j hj => by
    rw [outS_len]
    rcases List.mem_append.mp hj with z | z
    · exact A.gl' j z
    · have : j = i := by simpa using z
      omega
  have eg : givens (outS ss i) = givens ss := map_same (outS_len ss i) fun j hj => out_given hj
  refine ⟨A1.put A.gone (fun xs z => by cases z) A.o2 A.o3 A.o4, ?_, upd_same, fun j hj => ?_, ?_, gn, gl', A.o1, A.o2, A.o3, A.o4, A.g1, A.g2, A.g3⟩
  · rw [eg]; exact (upd_ne A.o1.symm).trans A.got
  · rw [outS_len] at hj
    rw [List.mem_append]
    by_cases e : j = i
    · subst e
      rw [outS_self hj]; simp
    · rw [outS_ne hj (Ne.symm e), A.gm j hj]
      constructor
      · rintro (z | z)
        · exact z
        · exact absurd (by simpa using z) e
      · exact .inl
  · exact nodup_le gn gl'
theorem LS.turned {q : Addr} {o : HO} {x z : Nat → Nat → Int} (A : LS K CH CS F H l y h wl ll gl ol T ls p ss ns (givens ss) gs) (q0 : F q = none) (hp : p < T) (pr : Prom T ls p ss x z) (R : HandAt CH CS (L2.upd F q o) H' h T ls (p + 1) (giveS ss fun i => x i p)) :
    LS K CH CS (L2.upd F q o) H' l y h wl ll gl ol T ls (p + 1) (giveS ss fun i => x i p) ns (givens ss) gs := by
  have s := Same.new (o := o) q0
  have hg : ∀ j, j < ss.length → (giveS ss fun i => x i p)[j]!.g = ss[j]!.g := fun j hj => by rw [giveS_at hj]
  refine ⟨⟨R, s.seq A.la.scr, A.la.yard.keep s, ?_, ?_, A.la.sy.of_g (giveS_len _ _) hg, ⟨x, z, pr.give hp⟩, A.la.n1, A.la.n2, A.la.n3⟩, s _ _ A.got, s _ _ A.gone, fun j hj => ?_, by rw [giveS_len]; exact A.gb, A.gn, fun j hj => by rw [giveS_len]; exact A.gl' j hj, A.o1, A.o2, A.o3, A.o4, A.g1, A.g2, A.g3⟩
  · rw [map_same (f := fun s : Sy => V.int s.g.want) (giveS_len ss fun i => x i p) fun j hj => by rw [hg j hj]]; exact s _ _ A.la.wants
  · rw [map_same (f := fun s : Sy => nV s.g.last) (giveS_len ss fun i => x i p) fun j hj => by rw [hg j hj]]; exact s _ _ A.la.lasts
  · rw [giveS_len] at hj
    rw [giveS_at hj]
    exact A.gm j hj
end
end Cy
end
section
namespace Cy
open PySem L2 NM
/-! ### what was got, gift by gift -/
abbrev giftsN (ss : List Sy) (X : Nat → Int) : List (Nat × Int) := giftL X (List.range ss.length)
abbrev keysJ (ss : List Sy) (X : Nat → Int) (j : Nat) : List Nat := ((giftsN ss X).take j).map Prod.fst
abbrev gotJ (ss : List Sy) (X : Nat → Int) (j : Nat) : List Int := (List.range ss.length).map fun i => ss[i]!.given + if i ∈ keysJ ss X j then X i else 0
theorem gift_nodup (X : Nat → Int) (n : Nat) : ((giftL X (List.range n)).map Prod.fst).Nodup := by
  unfold giftL
  rw [List.map_map]
  have e : ((Prod.fst : Nat × Int → Nat) ∘ fun i => (i, X i)) = id := rfl
  rw [e, List.map_id]
  exact List.Nodup.sublist List.filter_sublist List.nodup_range
theorem kvG_some : ∀ {F : List (Nat × Int)} {i : Nat} {v : Int}, (F.map Prod.fst).Nodup → (i, v) ∈ F → valV (kvG F) (Sum.inl (i : Int)) = some (.int v)
  | [], i, v, _, h => absurd h (by simp)
  | (y, u) :: r, i, v, hn, h => by
    have hn' : (y :: r.map Prod.fst).Nodup := hn
    obtain ⟨h1, h2⟩ := List.nodup_cons.mp hn'
    unfold valV kvG
    rw [List.map_cons, List.find?_cons]
    rcases List.mem_cons.mp h with e | e
    · cases e
      simp
    · have ne : ¬ y = i := fun z => h1 (z ▸ List.mem_map.mpr ⟨_, e, rfl⟩)
      have ne' : ¬ ((Sum.inl (y : Int) : Key) = Sum.inl (i : Int)) := fun z => ne (by have := Sum.inl.inj z; omega)
      rw [decide_eq_false ne']
      exact kvG_some h2 e
theorem gotV (ss : List Sy) (X : Nat → Int) (j : Nat) : (gotJ ss X j).map V.int = (List.range ss.length).map fun i => V.int (ss[i]!.given + if i ∈ keysJ ss X j then X i else 0) := by
  unfold gotJ
  rw [List.map_map]
  rfl
theorem got_zero (ss : List Sy) (X : Nat → Int) : gotJ ss X 0 = givens ss := by
  apply List.ext_getElem
  · simp [gotJ, givens]
  · intro i h1 h2
    have hi : i < ss.length := by simpa [givens] using h2
    simp only [gotJ, givens, List.getElem_map, List.getElem_range]
    rw [getElem!_pos ss i hi, if_neg (by simp [keysJ])]
    omega
theorem got_end {ss : List Sy} {X : Nat → Int} (h : ∀ i, i < ss.length → 0 ≤ X i) {n : Nat} (hn : (giftsN ss X).length ≤ n) : gotJ ss X n = givens (giveS ss X) := by
  apply List.ext_getElem
  · simp [gotJ, givens, giveS_len]
  · intro i h1 h2
    have hi : i < ss.length := by simpa [gotJ] using h1
    have e := giveS_at (X := X) hi
    rw [getElem!_pos (giveS ss X) i (by rw [giveS_len]; exact hi)] at e
    simp only [gotJ, givens, List.getElem_map, List.getElem_range]
    rw [e]
    show ss[i]!.given + _ = ss[i]!.given + X i
    rw [show keysJ ss X n = (giftsN ss X).map Prod.fst by unfold keysJ; rw [List.take_of_length_le hn]]
    by_cases c : 0 < X i
    · rw [if_pos]
      unfold giftsN giftL
      exact List.mem_map.mpr ⟨(i, X i), List.mem_map.mpr ⟨i, List.mem_filter.mpr ⟨List.mem_range.mpr hi, decide_eq_true c⟩, rfl⟩, rfl⟩
    · have := h i hi
      split <;> omega
theorem got_step {ss : List Sy} {X : Nat → Int} {j i : Nat} {v : Int} (h : (giftsN ss X)[j]? = some (i, v)) : i < ss.length ∧ v = X i ∧ 0 < X i ∧ i ∉ keysJ ss X j ∧ ((gotJ ss X j).map V.int).set i (.int (ss[i]!.given + 0 + X i)) = (gotJ ss X (j + 1)).map V.int := by
  have hm := List.mem_of_getElem? h
  obtain ⟨k1, k2, k3⟩ := giftL_keys hm
  have hj : j < (giftsN ss X).length := (List.getElem?_eq_some_iff.mp h).1
  have tk : keysJ ss X (j + 1) = keysJ ss X j ++ [i] := by
    unfold keysJ
    rw [take_snoc h, List.map_append]; rfl
  have nd := gift_nodup X ss.length
  have nin : i ∉ keysJ ss X j := fun m => by
    obtain ⟨a, ha, e⟩ := List.getElem_of_mem m
    have la : a < j := by
      have := ha
      unfold keysJ at this
      rw [List.length_map, List.length_take] at this
      omega
    have e1 : ((giftsN ss X).map Prod.fst)[a]? = some i := by
      have : (keysJ ss X j)[a]? = some i := by rw [List.getElem?_eq_getElem ha, e]
      unfold keysJ at this
      rw [List.getElem?_map, List.getElem?_take_of_lt la] at this
      rw [List.getElem?_map]; exact this
    have e2 : ((giftsN ss X).map Prod.fst)[j]? = some i := by rw [List.getElem?_map, h]; rfl
    have := nd_ix nd e1 e2
    omega
  refine ⟨List.mem_range.mp k1, k2, k3, nin, ?_⟩
  rw [gotV, gotV, set_range]
  refine List.map_congr_left fun a _ => ?_
  rw [tk]
  by_cases e : a = i
  · subst e
    rw [if_pos rfl, if_pos (by simp)]
    congr 1
    omega
  · rw [if_neg e]
    have : a ∈ keysJ ss X j ++ [i] ↔ a ∈ keysJ ss X j := by rw [List.mem_append, List.mem_singleton]; exact ⟨fun z => z.resolve_right e, .inl⟩
    by_cases m : a ∈ keysJ ss X j
    · rw [if_pos m, if_pos (this.mpr m)]
    · rw [if_neg m, if_neg fun z => m (this.mp z)]
end Cy
end
section
namespace Cy
open PySem L2 NM
section
variable {P : Program} {w : World} {K : PySem.W.Frag} {mg : Str → Option Value} {base : Heap}
theorem ok_law {f CH CS : Addr} {fd : FuncData} (Fn : Fun K "law" "law" sLaw f fd) (T : TxLaw K mg) (CC : C8.Cal P w K mg base 1 "_law_cell_at" (spCell K) []) (CF : C8.Cal P w K mg base 1 "_law_feed" spFeed []) (CY : C8.Cal P w K mg base 2 "_law_yard" spLYard []) (CG : C8.Cal P w K mg base 2 "_law_guest" spLGuest [])
    (CM : C8.Cal P w K mg base 8 "_law_come" (spLCome CH CS) []) (CO : C8.Cal P w K mg base 5 "_law_goes" (spGoes CH CS) []) (MkH : C8.Mak P w K mg base 1 "Hand" CH (spHandInit CH CS) []) (MT : C8.Met P w K mg base 6 CH "turn" (spTurn CH CS) []) (MG : C8.Met P w K mg base 2 CH "got" (spGot CH CS) []) (MO : C8.Met P w K mg base 2 CH "open_ones" (spOpen CH CS) []) :
    FnOk P w K mg base CX0 9 f fd ["_law_script"] (spLaw K) := by
  refine Fn.ok scLaw (fun vs H Q E h => ?_) (fun cdv A outer sh H vs Q Ex hr h => ?_)
  · obtain ⟨l, ns, rfl, _⟩ := h
    rfl
  · obtain ⟨l, ns, rfl, hl, q⟩ := h
    have nd := scLaw.nd
    have hu := hu_of hr
    refine ⟨_,
      pss_cons (ps_set (i := 1) nd rfl (.inl rfl) (C8.pe_c CY hr (by decide) (by rfl) (pa_cons (C8.pe_c CF hr (by decide) (by rfl) (pa_cons (C8.pe_c CC hr (by decide) (by rfl) (pa_cons (pv 0) (pa_cons pe_int pa_nil))) pa_nil)) pa_nil))) <|
      pss_cons (ps_set (i := 2) nd rfl (.inr rfl) (C8.pe_mk MkH hr (by decide) (by rfl) (pa_cons (pv 1) pa_nil))) <|
      pss_cons (ps_set (i := 3) nd rfl (.inl rfl) (pe_lst pa_nil)) <|
      pss_cons (ps_set (i := 4) nd rfl (.inl rfl) (pe_lst pa_nil)) <|
      pss_cons (ps_for PassesOwn.never rfl (pi_range1 (by rfl) T.range (pa_cons (pe_op op_add pe_int (pe_op op_mod (C8.pe_c CC hr (by decide) (by rfl) (pa_cons (pv 0) (pa_cons pe_int pa_nil))) pe_int)) pa_nil)) (pg_name (i := 5) nd rfl (.inl rfl))
        (pss_cons (ps_set (i := 6) nd rfl (.inl rfl) (C8.pe_c CG hr (by decide) (by rfl) (pa_cons (C8.pe_c CF hr (by decide) (by rfl) (pa_cons (C8.pe_c CC hr (by decide) (by rfl) (pa_cons (pv 0) (pa_cons (pe_op op_add pe_int (pv 5)) pa_nil))) pa_nil)) (pa_cons (pv 1) (pa_cons pe_int pa_nil))))) <|
         pss_one (ps_if (pt_cmpR op_eq (pe_ix ix_list (C8.pe_c CM hr (by decide) (by rfl) (pa_cons (pv 2) (pa_cons (pv 6) pa_nil))) pe_int (fun _ _ => rfl)) pe_str (nomark _))
           (pss_cons (ps_expr (pe_bm PySem.F.plainAttrs_list PySem.F.slot_list_append PySem.F.type_list_append mt_append (pv 3) (pa_cons (pe_ix ix_tup (pv 6) pe_int (fun _ _ => rfl)) pa_nil))) <|
            pss_one (ps_expr (pe_bm PySem.F.plainAttrs_list PySem.F.slot_list_append PySem.F.type_list_append mt_append (pv 4) (pa_cons (pe_ix ix_tup (pv 6) pe_int (fun _ _ => rfl)) pa_nil)))) pss_nil))) <|
      pss_cons (ps_set (i := 7) nd rfl (.inl rfl) (pe_op op_rep (pe_lst (pa_cons pe_int pa_nil)) (pe_callB call_len_seq (by rfl) T.len boot_len (pa_cons (pv 3) pa_nil)))) <|
      pss_cons (ps_set (i := 8) nd rfl (.inl rfl) (pe_lst pa_nil)) <|
      pss_cons (ps_for PassesOwn.never rfl (pi_range1 (by rfl) T.range (pa_cons (pe_ix ix_tup (pv 1) pe_int (fun _ _ => rfl)) pa_nil)) (pg_name (i := 9) nd rfl (.inl rfl))
        (pss_cons (ps_for PassesOwn.never rfl (pi_range1 (by rfl) T.range (pa_cons pe_int pa_nil)) (pg_name (i := 5) nd rfl (.inl rfl))
           (pss_cons (ps_set (i := 10) nd rfl (.inl rfl) (pe_op op_fdiv (C8.pe_c CC hr (by decide) (by rfl) (pa_cons (pv 0) (pa_cons (pe_op op_add pe_int (pv 5)) pa_nil))) pe_int)) <|
            pss_cons (ps_set (i := 11) nd rfl (.inl rfl) (pe_op op_mod (pe_op op_fdiv (pv 10) pe_int) pe_int)) <|
            pss_one (ps_if (PW.pt (pw_and (pt_cmpR op_eq (pe_op op_mod (pv 10) pe_int) (pv 9) (nomark _)) (pw_and (pt_cmpR op_lt (pv 11) (pe_callB call_len_seq (by rfl) T.len boot_len (pa_cons (pv 3) pa_nil)) (nomark _)) (pw_and1 (pt_cmpR op_notIn_seq (pv 11) (pv 8) rfl)))))
              (pss_cons (ps_if (pt_not (pt_val (C8.pe_c CO hr (by decide) (by rfl) (pa_cons (pv 2) (pa_cons (pv 11) (pa_cons (pe_ix ix_list (pv 7) (pv 11) (fun _ _ => rfl)) pa_nil)))))) (pss_one (ps_ret pe_bl)) pss_nil) <|
               pss_one (ps_expr (pe_bm PySem.F.plainAttrs_list PySem.F.slot_list_append PySem.F.type_list_append mt_append (pv 8) (pa_cons (pv 11) pa_nil)))) pss_nil))) <|
         pss_cons (ps_set (i := 12) nd rfl (.inl rfl) (C8.pe_mt0 MT hr (by decide) (pv 2))) <|
         pss_cons (ps_lock (ps_for PassesOwn.never rfl (pi_keys (pv 12)) (pg_name (i := 11) nd rfl (.inl rfl))
           (pss_cons (ps_if (pt_cmpR op_in_seq (pv 11) (pv 8) rfl) (pss_one (ps_ret pe_bl)) pss_nil) <|
            pss_one (ps_asg (pe_op op_add (pe_ix ix_list (pv 7) (pv 11) (fun _ _ => rfl)) (pe_dget hu (pv 12) (pv 11) (fun _ _ => rfl))) (pg_sub (pv 7) (pv 11) set_list))))) <|
         pss_one (ps_for PassesOwn.never rfl (pi_range1 (by rfl) T.range (pa_cons (pe_callB call_len_seq (by rfl) T.len boot_len (pa_cons (pv 3) pa_nil)) pa_nil)) (pg_name (i := 11) nd rfl (.inl rfl))
           (pss_one (ps_if (PW.pt (pw_and (pt_cmpR op_le (pe_ix ix_list (pv 4) (pv 11) (fun _ _ => rfl)) (pv 9) (nomark _)) (pw_and (pt_cmpR op_notIn_seq (pv 11) (pv 8) rfl) (pw_and1 (pt_cmpR op_ne (pe_ix ix_list (pv 7) (pv 11) (fun _ _ => rfl)) (pe_ix ix_list (pv 3) (pv 11) (fun _ _ => rfl)) (nomark _)))))) (pss_one (ps_ret pe_bl)) pss_nil))))) <|
      pss_one (ps_ret (pe_and (pe_cmpR (op_eqD hr.units) (pe_lc (own := [("_law_number", 11)]) (g := gName 11) (tt := tYes) (te := tMeth CH "got" (spGot CH CS) [] E0 (tVar 2) (tCons (tVar 11) tNil)) rfl nd (pi_range1 (by rfl) T.range (pa_cons (pe_callB call_len_seq (by rfl) T.len boot_len (pa_cons (pv 3) pa_nil)) pa_nil))
          (blkOk_by (N := ["_law_script", "_law_yard_here", "_law_hand", "_law_wants", "_law_lasts", "_law_k", "_law_guest_here", "_law_got", "_law_gone", "_law_turn", "_law_cell", "_law_number", "_law_gifts"]) (sc := defScope sLaw) (by decide +kernel)) (fun _ _ _ _ _ => pg_name (i := 11) nd rfl (.inl rfl)) (fun _ _ _ _ _ => pts_nil)
          (fun _ _ _ _ _ => C8.pe_mt MG hr (by decide) (pv 2) (pa_cons (pv 11) pa_nil))) (pv 7) (nomark _))
        (pe_one (pe_cmpR (op_eqD hr.units) (C8.pe_mt0 MO hr (by decide) (pv 2)) (pe_lst pa_nil) (nomark _))))), ?_⟩
    -- the yard
    refine ⟨_, rfl, ?_⟩
    refine ⟨l, 0, ns, rfl, hl, fun n0 => ?_⟩
    refine tNil_on ⟨n0, rfl, fun H1 f s1 f0 fa => ?_⟩
    refine tNil_on ⟨H, f, rfl, s1, f0, fa, fun H2 y TT ls s2 y0 hy Y n1 => ?_⟩
    have hl2 := s2.seq hl
    have T1 := Y.t1
    have T8 := Y.t8
    -- the hand
    refine ⟨_, rfl, fun h dx hh hdx ne => ?_⟩
    refine ⟨H2, h, dx, y, TT, ls, rfl, made_same hh hdx, hh, upd_same, hy, Y, fun H3 HA => ⟨rfl, ?_⟩⟩
    -- wants, lasts
    refine ⟨Nat.zero_le _, fun wl hwl => ?_⟩
    have HA1 := HA.upd (a := wl) (o := .lst []) (.inr hwl)
    have wl2 : H2 wl = none := HA.1.free hwl
    have fw := fz_new hl2 wl2
    have sF1 : Same H2 (upd H2 wl (.lst [])) := Same.new wl2
    have hw1 : upd H2 wl (.lst []) wl = some (.lst []) := upd_same
    generalize upd H2 wl (.lst []) = F1 at HA1 sF1 hw1
    generalize upd H3 wl (.lst []) = H4 at HA1 ⊢
    refine ⟨Nat.zero_le _, fun ll hll => ?_⟩
    have HA2 := HA1.upd (a := ll) (o := .lst []) (.inr hll)
    have ll1 : F1 ll = none := HA1.1.free hll
    have fl := fz_new (sF1.seq hl2) ll1
    have nwl : wl ≠ ll := ne_of_none hw1 ll1
    have A0 : LA K CH CS (upd F1 ll (.lst [])) (upd H4 ll (.lst [])) l y h wl ll TT ls 0 [] ns := ⟨HA2, (sF1.trans (Same.new ll1)).seq hl2, hy.keep (sF1.trans (Same.new ll1)), (upd_ne nwl).trans hw1, upd_same,
      ⟨by show 0 ≤ 8; decide, fun i hi => absurd hi (Nat.not_lt_zero i), fun i hi => absurd hi (Nat.not_lt_zero i), fun i hi => absurd hi (Nat.not_lt_zero i), fun i hi => absurd hi (Nat.not_lt_zero i)⟩,
      can_none Y (fun i hi => absurd hi (Nat.not_lt_zero i)) (fun i hi => absurd hi (Nat.not_lt_zero i)), nwl, fw, fl⟩
    generalize upd F1 ll (.lst []) = F2 at A0
    generalize upd H4 ll (.lst []) = H5 at A0 ⊢
    -- for _law_k in range(1 + .. % 8)
    refine ⟨_, rfl, ?_⟩
    refine ⟨l, 1, ns, rfl, A0.scrH, fun m1 => ?_⟩
    refine ⟨_, _, rfl, rfl, (by show (0 : Int) < 8; decide), _, _, rfl, rfl, ?_⟩
    have hm8 : 0 ≤ m1 % 8 ∧ m1 % 8 < 8 := ⟨Int.emod_nonneg _ (by decide), Int.emod_lt_of_pos _ (by decide)⟩
    refine tNil_on ⟨1 + m1 % 8, rfl, by omega, by omega, for_range (lo := 0) (n := (1 + m1 % 8).toNat) (fun i σ H6 => ∃ (F : Hp) (v5 v6 : Option V) (ss : List Sy), σ = [some (.ref l), some (.ref y), some (.ref h), some (.ref wl), some (.ref ll), v5, v6, none, none, none, none, none, none] ∧
        LA K CH CS F H6 l y h wl ll TT ls 0 ss ns ∧ ss.length ≤ i ∧ ∀ j, j < ss.length → ss[j]!.given = 0 ∧ ss[j]!.gone = false ∧ 0 ≤ ss[j]!.g.want) ⟨F2, none, none, [], rfl, A0, Nat.le_refl _, fun j hj => absurd hj (Nat.not_lt_zero j)⟩ ?_ ?_⟩
    · rintro i σ H6 hi ⟨F, v5, v6, ss, rfl, A, lss, pss⟩
      -- a guest
      refine ⟨_, rfl, _, rfl, _, _, rfl, rfl, ?_⟩
      refine tNil_on (cell_on (k := 4 + i) (by omega) A.scrH fun n2 => ?_)
      refine tNil_on ⟨n2, rfl, fun H7 f s7 f0 fa => ?_⟩
      refine ⟨_, rfl, ?_⟩
      refine ⟨H6, f, y, TT, ls, rfl, s7, f0, fa, A.yard.keep A.hp, Y, n1, fun H8 g u s8 g0 hg GV => ?_⟩
      have A8 := A.frame (grow_same A.hp) (A.hand.grow s8)
      have hgF : grow F H6 H8 g = some (.tup (guV u)) := (grow_new g0).trans hg
      generalize grow F H6 H8 = F8 at A8 hgF
      have len1 : (ss ++ [newS u]).length = ss.length + 1 := by simp
      have at1 : ∀ j, j < (ss ++ [newS u]).length → (j < ss.length ∧ (ss ++ [newS u])[j]! = ss[j]!) ∨ (j = ss.length ∧ (ss ++ [newS u])[j]! = newS u) := fun j hj => by
        by_cases e : j < ss.length
        · exact .inl ⟨e, app_get e⟩
        · have e : j = ss.length := by omega
          subst e
          exact .inr ⟨rfl, app_last⟩
      have S1 : SyOk TT ls.length (ss ++ [newS u]) := by
        refine ⟨by omega, fun j hj => ?_, fun j hj => ?_, fun j hj => ?_, fun j hj => ?_⟩
        all_goals
          rcases at1 j hj with ⟨a, b⟩ | ⟨a, b⟩ <;> rw [b]
        · exact A.sy.line j a
        · exact GV.line
        · exact A.sy.fl j a
        · exact GV.fl
        · exact A.sy.lt j a
        · exact GV.lt
        · exact A.sy.most j a
        · exact Int.le_trans (by decide) GV.m1
      have P1 : ∀ j, j < (ss ++ [newS u]).length → (ss ++ [newS u])[j]!.given = 0 ∧ (ss ++ [newS u])[j]!.gone = false ∧ 0 ≤ (ss ++ [newS u])[j]!.g.want := fun j hj => by
        rcases at1 j hj with ⟨a, b⟩ | ⟨a, b⟩ <;> rw [b]
        · exact pss j a
        · exact ⟨rfl, rfl, Int.le_trans (by decide) GV.w1⟩
      have R0 : ∀ j, j < (ss ++ [newS u]).length → 0 ≤ NM.rest (ss ++ [newS u])[j]! := fun j hj => by
        obtain ⟨p1, p2, p3⟩ := P1 j hj
        unfold NM.rest
        rw [p2, if_neg (by decide), p1]; omega
      -- if _law_come(..)[0] == 'in'
      refine ⟨_, rfl, _, rfl, ?_⟩
      refine tNil_on ⟨F8, h, g, TT, 0, ls, ss, u, rfl, A8.hand, hg, GV, Nat.zero_le _, Y, S1, by omega, R0, fun j _ _ => Nat.zero_le _, fun H9 q HA9 can hq => ?_, fun H9 q xs s9 hq => ?_⟩
      · refine ⟨q, _, _, .str "in", rfl, rfl, SqL.of hq, rfl, rfl, _, rfl, ?_⟩
        refine ite2 (fun _ => ?_) (fun c => absurd (by simp) c)
        have hw9 := HA9.1 _ _ A8.wants
        have hl9 := HA9.1 _ _ A8.lasts
        have hg9 := HA9.1 _ _ hgF
        have AG := A8.grew HA9 can S1
        have s8' : ss.length ≤ 8 := A.sy.n8
        refine ⟨_, rfl, .inl ⟨rfl, _, SqL.of hw9⟩, _, rfl, g, _, _, .int u.want, rfl, rfl, SqT.of hg9, rfl, ?_⟩
        refine tNil_on ⟨wl, _, _, rfl, rfl, hw9, by rw [List.length_map]; exact small' (by omega), ?_⟩
        have e1 : (ss.map fun s => V.int s.g.want) ++ [V.int u.want] = (ss ++ [newS u]).map fun s => V.int s.g.want := by rw [List.map_append]; rfl
        rw [e1]
        have hl10 := (upd_ne (o := .lst ((ss ++ [newS u]).map fun s => V.int s.g.want)) nwl.symm).trans hl9
        have hg10 := (upd_ne (o := .lst ((ss ++ [newS u]).map fun s => V.int s.g.want)) (ne_of hg9 hw9 (by intro z; cases z))).trans hg9
        refine ⟨_, rfl, .inl ⟨rfl, _, SqL.of hl10⟩, _, rfl, g, _, _, nV u.last, rfl, rfl, SqT.of hg10, rfl, ?_⟩
        refine tNil_on ⟨ll, _, _, rfl, rfl, hl10, by rw [List.length_map]; exact small' (by omega), ?_⟩
        have e2 : (ss.map fun s => nV s.g.last) ++ [nV u.last] = (ss ++ [newS u]).map fun s => nV s.g.last := by rw [List.map_append]; rfl
        rw [e2]
        exact ⟨_, _, _, ss ++ [newS u], rfl, AG, by omega, P1⟩
      · refine ⟨q, _, _, .str "room", rfl, rfl, SqL.of hq, atI_nat (j := 0) rfl, rfl, _, rfl, ?_⟩
        refine ite2 (fun c => absurd c (by decide +kernel)) (fun _ => ?_)
        exact ⟨F8, _, _, ss, rfl, A8.keep s9, by omega, pss⟩
    · rintro σ H6 ⟨F, v5, v6, ss, rfl, A, lss, pss⟩
      have s8' : ss.length ≤ 8 := A.sy.n8
      -- _law_got = [0] * len(_law_wants)
      refine ⟨(by show 1 ≤ sizeLine; decide), fun z hz => ?_⟩
      have A1 := A.new (o := .lst [.int 0]) hz
      have hz1 : upd H6 z (.lst [.int 0]) z = some (.lst [.int 0]) := upd_same
      generalize upd F z (.lst [.int 0]) = F1 at A1
      generalize upd H6 z (.lst [.int 0]) = H7 at A1 hz1 ⊢
      refine ⟨_, rfl, wl, _, rfl, .inl (SqL.of (A1.hp _ _ A1.wants)), ?_⟩
      refine ⟨z, _, _, rfl, rfl, hz1, by rw [List.length_map]; omega, by rw [List.length_map]; omega, (by rw [List.length_map]; show 1 * ((ss.length : Int)).toNat ≤ sizeLine; exact small (by omega)), fun gl hgl => ?_⟩
      have eg : (List.replicate ((((ss.map fun s => V.int s.g.want).length : Nat) : Int)).toNat [V.int 0]).flatten = (givens ss).map V.int := by
        rw [rep_flat]
        apply List.ext_getElem
        · simp [givens]
        · intro j h1 h2
          have hj : j < ss.length := by simpa [givens] using h2
          have e := (pss j hj).1
          rw [getElem!_pos ss j hj] at e
          simp only [List.getElem_map, givens]
          rw [e]
      dsimp only
      rw [eg]
      have A2 := A1.new (o := .lst ((givens ss).map V.int)) hgl
      have gl1 := A1.hp.free hgl
      have hg2 : upd F1 gl (.lst ((givens ss).map V.int)) gl = some (.lst ((givens ss).map V.int)) := upd_same
      have fz2 := fz_new A1.scr gl1
      have nw2 : gl ≠ wl := none_ne gl1 A1.wants
      have nl2 : gl ≠ ll := none_ne gl1 A1.lasts
      generalize upd F1 gl (.lst ((givens ss).map V.int)) = F2 at A2 hg2
      generalize upd H7 gl (.lst ((givens ss).map V.int)) = H8 at A2 ⊢
      -- _law_gone = []
      refine ⟨Nat.zero_le _, fun ol hol => ?_⟩
      have A3 := A2.new (o := .lst []) hol
      have ol2 := A2.hp.free hol
      have L0 : LS K CH CS (upd F2 ol (.lst [])) (upd H8 ol (.lst [])) l y h wl ll gl ol TT ls 0 ss ns (givens ss) [] := ⟨A3, upd_new ol2 hg2, upd_same, fun j hj => ⟨fun m => absurd m (by simp), fun m => absurd ((pss j hj).2.1.symm.trans m) (by decide)⟩, Nat.zero_le _, .nil, fun j m => absurd m (by simp),
        none_ne ol2 hg2, none_ne ol2 A2.wants, none_ne ol2 A2.lasts, fz_new A2.scr ol2, nw2, nl2, fz2⟩
      generalize upd F2 ol (.lst []) = F3 at L0
      generalize upd H8 ol (.lst []) = H9 at L0 ⊢
      -- for _law_turn in range(_law_yard_here[0])
      obtain ⟨ly, la, hy1, _⟩ := L0.la.yard.keep L0.la.hp
      refine ⟨_, rfl, y, _, _, nV TT, rfl, rfl, SqT.of hy1, rfl, ?_⟩
      refine tNil_on ⟨(TT : Int), rfl, by omega, by omega, for_range (lo := 0) (n := ((TT : Int)).toNat) (fun t σ H => ∃ (F : Hp) (v5 v6 v9 v10 v11 v12 : Option V) (sz : List Sy) (gs : List Nat), σ = [some (.ref l), some (.ref y), some (.ref h), some (.ref wl), some (.ref ll), v5, v6, some (.ref gl), some (.ref ol), v9, v10, v11, v12] ∧
        LS K CH CS F H l y h wl ll gl ol TT ls t sz ns (givens sz) gs) ⟨F3, _, _, _, _, _, _, ss, [], rfl, L0⟩ ?_ ?_⟩
      · rintro t σ H1 ht ⟨F, v5, v6, v9, v10, v11, v12, ss, gs, rfl, L⟩
        have htT : t < TT := by omega
        -- for _law_k in range(3)
        refine ⟨3, rfl, by omega, by omega, for_range (lo := 0) (n := 3) (fun k σ H => ∃ (F : Hp) (v5 v10 v11 : Option V) (sz : List Sy) (gs : List Nat), σ = [some (.ref l), some (.ref y), some (.ref h), some (.ref wl), some (.ref ll), v5, v6, some (.ref gl), some (.ref ol), some (.int (0 + (t : Int))), v10, v11, v12] ∧
          LS K CH CS F H l y h wl ll gl ol TT ls t sz ns (givens sz) gs) ⟨F, _, _, _, ss, gs, rfl, L⟩ ?_ ?_⟩
        · rintro k σ H2 hk ⟨F, v5, v10, v11, ss, gs, rfl, L⟩
          have s8 := L.la.sy.n8
          refine ⟨_, rfl, _, rfl, _, _, rfl, rfl, ?_⟩
          refine tNil_on (cell_on (k := 1 + k) (by omega) L.la.scrH fun c => ?_)
          refine ⟨_, _, rfl, rfl, ⟨by omega, by omega⟩, ?_⟩
          refine ⟨_, rfl, _, _, rfl, rfl, ⟨by omega, by omega⟩, _, _, rfl, rfl, (by show (0 : Int) < 9; decide), ?_⟩
          obtain ⟨m, hm⟩ : ∃ m : Nat, c / 8 / 9 % 9 = (m : Int) := Int.eq_ofNat_of_zero_le (Int.emod_nonneg _ (by decide))
          dsimp only
          rw [hm]
          have next : ∃ (F : Hp) (w5 w10 w11 : Option V) (sz : List Sy) (gs : List Nat), [some (.ref l), some (.ref y), some (.ref h), some (.ref wl), some (.ref ll), some (.int (0 + (k : Int))), v6, some (.ref gl), some (.ref ol), some (.int (0 + (t : Int))), some (.int (c / 8)), some (V.int (m : Int)), v12] = [some (.ref l), some (.ref y), some (.ref h), some (.ref wl), some (.ref ll), w5, v6, some (.ref gl), some (.ref ol), some (.int (0 + (t : Int))), w10, w11, v12] ∧
              LS K CH CS F H2 l y h wl ll gl ol TT ls t sz ns (givens sz) gs := ⟨F, _, _, _, ss, gs, rfl, L⟩
          have hwH := L.la.hp _ _ L.la.wants
          have hoH := L.la.hp _ _ L.gone
          have hgH := L.la.hp _ _ L.got
          refine ⟨_, rfl, _, _, rfl, rfl, (by show (0 : Int) < 9; decide), _, rfl, rfl, _, rfl, ?_⟩
          refine ite2 (fun _ => ?_) (fun _ => iteF next)
          refine ⟨_, rfl, _, rfl, wl, _, rfl, .inl (SqL.of hwH), _, _, rfl, rfl, _, rfl, ?_⟩
          refine ite2 (fun cl => ?_) (fun _ => iteF next)
          have cl : (m : Int) < (((ss.map fun s => V.int s.g.want).length : Nat) : Int) := of_decide_eq_true cl
          rw [List.length_map] at cl
          have hmn : m < ss.length := by omega
          refine ⟨_, rfl, _, rfl, ol, _, rfl, .inl (SqL.of hoH), rfl, ?_, _, rfl, ?_⟩
          · rw [List.all_eq_true]
            intro v hv
            obtain ⟨n, _, rfl⟩ := List.mem_map.mp hv
            rfl
          refine ite2 (fun cg => ?_) (fun _ => next)
          have cg : (!inV (nV m) (gs.map nV)) = true := cg
          rw [inV_nat] at cg
          have mg : ¬ m ∈ gs := by simpa using cg
          have hgo : ss[m]!.gone = false := by
            cases e : ss[m]!.gone with
            | false => rfl
            | true => exact absurd ((L.gm m hmn).mpr e) mg
          -- if not _law_goes(..)
          refine ⟨_, rfl, _, rfl, _, rfl, _, rfl, gl, _, _, .int ss[m]!.given, rfl, rfl, SqL.of hgH, atI_nat (by rw [List.getElem?_map, List.getElem?_map, getB hmn]; rfl), ?_⟩
          refine tNil_on ⟨F, h, TT, t, m, ls, ss, rfl, L.la.hand, by omega, hmn, hgo, fun H3 R => ?_⟩
          refine ⟨_, rfl, iteF ?_⟩
          have L2 := L.leave hmn hgo R
          have hoH3 := R.1 _ _ L.gone
          refine ⟨_, rfl, .inl ⟨rfl, _, SqL.of hoH3⟩, _, rfl, ?_⟩
          have gb := L.gb
          refine tNil_on ⟨ol, _, _, rfl, rfl, hoH3, by rw [List.length_map]; exact small' (by omega), ?_⟩
          rw [List.map_append] at L2
          exact ⟨_, _, _, _, _, _, rfl, L2⟩
        · rintro σ H2 ⟨F, v5, v10, v11, ss, gs, rfl, L⟩
          have s8 := L.la.sy.n8
          obtain ⟨dx, al, as, ag, ob⟩ := L.la.obj
          -- _law_gifts = _law_hand.turn()
          refine ⟨_, rfl, h, dx, _, rfl, ob, rfl, ?_⟩
          refine tNil_on ⟨F, h, TT, t, ls, ss, rfl, L.la.hand, Y, L.la.sy, htT, L.la.can, fun H3 q x z pr q0 R => ?_⟩
          have L1 := L.turned q0 htT pr R
          have fq := fz_new L.la.scr q0
          have X0 : ∀ i, i < ss.length → 0 ≤ (fun i => x i t) i := fun i hi => (pr.pos i hi t (Nat.le_refl _) htT).1
          have Xp : ∀ i, i < ss.length → 0 < (fun i => x i t) i → ss[i]!.gone = false := fun i hi hx => by
            have := pr.pay hi htT hx
            unfold NM.rest at this
            cases e : ss[i]!.gone with
            | false => rfl
            | true => rw [e, if_pos rfl] at this; exact absurd this (by decide)
          have hq3 := R.1 q _ upd_same
          generalize (fun i => x i t) = X at L1 X0 Xp hq3
          -- the lock
          refine ⟨q, _, hq3, trivial, fun od => ?_⟩
          have L2 := L1.put (a := q) (o := .frz od (.dK (kvG (giftsN ss X)))) upd_same (fun xs z => by cases z) (fun xs z => by cases z) fq
          rw [upd_upd] at L2
          have hq4 : upd F q (.frz od (.dK (kvG (giftsN ss X)))) q = some (.frz od (.dK (kvG (giftsN ss X)))) := upd_same
          generalize upd F q (.frz od (.dK (kvG (giftsN ss X)))) = F2 at L2 hq4
          generalize upd H3 q (.frz od (.dK (kvG (giftsN ss X)))) = H4 at L2 ⊢
          rw [← got_zero ss X] at L2
          -- for _law_number in _law_gifts
          refine ⟨_, rfl, q, od, rfl, .inl ⟨_, L2.la.hp _ _ hq4, for_it walk_keys (fun j σ H => ∃ (F : Hp) (w11 : Option V), σ = [some (.ref l), some (.ref y), some (.ref h), some (.ref wl), some (.ref ll), v5, v6, some (.ref gl), some (.ref ol), some (.int (0 + (t : Int))), v10, w11, some (.ref q)] ∧
            LS K CH CS F H l y h wl ll gl ol TT ls (t + 1) (giveS ss X) ns (gotJ ss X j) gs ∧ F q = some (.frz od (.dK (kvG (giftsN ss X))))) ⟨F2, _, rfl, L2, hq4⟩ (fun j σ H _ ⟨F, w, _, L, e⟩ => L.la.hp _ _ e) ?_ ?_⟩⟩
          · rintro j v σ H5 H6 hj ⟨F, w11, rfl, L5, hqF⟩ ⟨e6, kk, vv, hkv, rfl⟩
            subst e6
            have hkv : ((giftsN ss X).map fun p => ((Sum.inl (p.1 : Int) : Key), V.int p.2))[j]? = some (kk, vv) := hkv
            rw [List.getElem?_map] at hkv
            obtain ⟨⟨i, xi⟩, hix⟩ : ∃ p, (giftsN ss X)[j]? = some p := by
              cases e : (giftsN ss X)[j]? with
              | none => rw [e] at hkv; cases hkv
              | some p => exact ⟨p, rfl⟩
            rw [hix] at hkv
            cases hkv
            obtain ⟨hi, rfl, hx0, nin, hset⟩ := got_step hix
            have ni : ¬ i ∈ gs := fun m => by
              have e := (L5.gm i (by rw [giveS_len]; exact hi)).mp m
              rw [giveS_at hi] at e
              have e : ss[i]!.gone = true := e
              rw [Xp i hi hx0] at e; cases e
            have hoH := L5.la.hp _ _ L5.gone
            have hgH := L5.la.hp _ _ L5.got
            have hqH := L5.la.hp _ _ hqF
            refine ⟨_, rfl, _, rfl, ol, _, rfl, .inl (SqL.of hoH), rfl, ?_, _, rfl, ?_⟩
            · rw [List.all_eq_true]
              intro v hv
              obtain ⟨n, _, rfl⟩ := List.mem_map.mp hv
              rfl
            refine ite2 (fun c => ?_) (fun _ => ?_)
            · have c : inV (nV i) (gs.map nV) = true := c
              rw [inV_nat] at c
              exact absurd (of_decide_eq_true c) ni
            have gat : ((gotJ ss X j).map V.int)[i]? = some (.int (ss[i]!.given + 0)) := by
              rw [gotV, List.getElem?_map, List.getElem?_range hi]
              show some (V.int (ss[i]!.given + if i ∈ keysJ ss X j then X i else 0)) = _
              rw [if_neg nin]
            refine ⟨_, rfl, _, rfl, gl, _, _, _, rfl, rfl, SqL.of hgH, atI_nat gat, _, rfl, _, rfl, q, .int (X i), rfl, .inl ⟨_, Sum.inl (i : Int), .inr ⟨od, hqH⟩, rfl, (kvG_some (gift_nodup X ss.length) (List.mem_of_getElem? hix)).symm⟩, _, _, rfl, rfl, _, rfl, _, rfl, gl, _, _, i, rfl, rfl, hgH, ixN_nat (by rw [List.length_map]; simp [gotJ]; exact hi), ?_⟩
            rw [hset]
            exact ⟨_, _, rfl, L5.setG, (upd_ne (ne_of hqF L5.got (by intro z; cases z))).trans hqF⟩
          · rintro σ H5 ⟨F, w11, rfl, L5, hqF⟩
            refine ⟨L5.la.hp _ _ hqF, ?_⟩
            have L6 := L5.put (a := q) (o := .dK (kvG (giftsN ss X))) hqF (fun xs z => by cases z) (fun xs z => by cases z) fq
            rw [got_end X0 (by unfold kvG; rw [List.length_map]; exact Nat.le_refl _)] at L6
            generalize upd F q (.dK (kvG (giftsN ss X))) = F6 at L6
            generalize upd H5 q (.dK (kvG (giftsN ss X))) = H6 at L6 ⊢
            have s8' := L6.la.sy.n8
            obtain ⟨sz, hsz⟩ : ∃ sz, giveS ss X = sz := ⟨_, rfl⟩
            rw [hsz] at L6 s8'
            have hwH := L6.la.hp _ _ L6.la.wants
            have hlH := L6.la.hp _ _ L6.la.lasts
            have hoH := L6.la.hp _ _ L6.gone
            have hgH := L6.la.hp _ _ L6.got
            -- for _law_number in range(len(_law_wants))
            refine ⟨_, rfl, wl, _, rfl, .inl (SqL.of hwH), ?_⟩
            refine tNil_on ⟨_, rfl, by rw [List.length_map]; omega, by rw [List.length_map]; omega, for_range (lo := 0) (n := ((((sz.map fun s => V.int s.g.want).length : Nat) : Int)).toNat) (fun k σ H => ∃ w11 : Option V, σ = [some (.ref l), some (.ref y), some (.ref h), some (.ref wl), some (.ref ll), v5, v6, some (.ref gl), some (.ref ol), some (.int (0 + (t : Int))), v10, w11, some (.ref q)] ∧ H = H6) ⟨_, rfl, rfl⟩ ?_ ?_⟩
            · rintro k σ H7 hk ⟨w11, rfl, rfl⟩
              rw [List.length_map] at hk
              have hk' : k < sz.length := by omega
              rw [show (0 : Int) + (k : Int) = ((k : Nat) : Int) from Int.zero_add _]
              refine ⟨_, rfl, _, rfl, ll, _, _, nV sz[k]!.g.last, rfl, rfl, SqL.of hlH, atI_nat (by rw [List.getElem?_map, getB hk']; rfl), _, rfl, _, _, rfl, rfl, _, rfl, ?_⟩
              refine ite2 (fun c1 => ?_) (fun _ => iteF ⟨_, rfl, rfl⟩)
              have c1 : (sz[k]!.g.last : Int) ≤ 0 + (t : Int) := of_decide_eq_true c1
              refine ⟨_, rfl, _, rfl, ol, _, rfl, .inl (SqL.of hoH), rfl, ?_, _, rfl, ?_⟩
              · rw [List.all_eq_true]
                intro v hv
                obtain ⟨n, _, rfl⟩ := List.mem_map.mp hv
                rfl
              refine ite2 (fun c2 => ?_) (fun _ => iteF ⟨_, rfl, rfl⟩)
              have c2 : (!inV (nV k) (gs.map nV)) = true := c2
              rw [inV_nat] at c2
              have kg : ¬ k ∈ gs := by simpa using c2
              have hgo : sz[k]!.gone = false := by
                cases e : sz[k]!.gone with
                | false => rfl
                | true => exact absurd ((L6.gm k hk').mpr e) kg
              obtain ⟨x', z', pr'⟩ := L6.la.can
              have hr0 := pr'.over hk' (by omega)
              unfold NM.rest at hr0
              rw [hgo, if_neg (by decide)] at hr0
              have heq : sz[k]!.given = sz[k]!.g.want := by omega
              refine ⟨_, rfl, _, rfl, gl, _, _, .int sz[k]!.given, rfl, rfl, SqL.of hgH, atI_nat (by rw [List.getElem?_map, List.getElem?_map, getB hk']; rfl), _, rfl, _, rfl, wl, _, _, .int sz[k]!.g.want, rfl, rfl, SqL.of hwH, atI_nat (by rw [List.getElem?_map, getB hk']; rfl), rfl, _, rfl, ?_⟩
              exact ite2 (fun c => absurd c (by rw [heq]; simp)) (fun _ => ⟨_, rfl, rfl⟩)
            · rintro σ H7 ⟨w11, rfl, rfl⟩
              exact ⟨F6, _, _, _, _, _, _, sz, gs, rfl, L6⟩
      · rintro σ H1 ⟨F, v5, v6, v9, v10, v11, v12, ss, gs, rfl, L⟩
        have L : LS K CH CS F H1 l y h wl ll gl ol TT ls TT ss ns (givens ss) gs := L
        have s8 := L.la.sy.n8
        have hwH := L.la.hp _ _ L.la.wants
        have hgH := L.la.hp _ _ L.got
        -- [.. for _law_number in ..] == _law_got
        refine ⟨_, rfl, wl, _, rfl, .inl (SqL.of hwH), ?_⟩
        refine tNil_on ⟨_, rfl, by rw [List.length_map]; omega, by rw [List.length_map]; omega, fun D hD => lc_range (lo := 0) (n := ((((ss.map fun s => V.int s.g.want).length : Nat) : Int)).toNat) (fun k H2 => Same H1 H2 ∧ H2 D = some (.lst (((givens ss).take k).map V.int))) ⟨Same.new hD, upd_same⟩ ?_ ?_⟩
        · rintro k H2 hk ⟨s2, h2⟩
          rw [List.length_map] at hk
          have hk' : k < ss.length := by omega
          have L2 := L.keep s2
          obtain ⟨dx, al, as, ag, ob⟩ := L2.la.obj
          refine ⟨rfl, tYes_on (iteT ?_)⟩
          rw [show (0 : Int) + (k : Int) = ((k : Nat) : Int) from Int.zero_add _]
          refine ⟨_, rfl, h, dx, _, rfl, ob, rfl, _, rfl, ?_⟩
          refine tNil_on ⟨F, h, TT, TT, k, ls, ss, rfl, L2.la.hand, by omega, hk', ?_⟩
          refine ⟨_, h2, ?_, s2.put hD, ?_⟩
          · rw [List.length_map, List.length_take]; exact small' (by omega)
          · have eg : (givens ss)[k]? = some ss[k]!.given := by
              show (ss.map fun s => s.given)[k]? = _
              rw [List.getElem?_map, getB hk']; rfl
            rw [take_snoc eg, List.map_append]; exact upd_same
        · rintro H2 ⟨s2, h2⟩
          have L2 := L.keep s2
          rw [List.take_of_length_le (by simp [givens])] at h2
          refine ⟨_, rfl, ?_⟩
          refine eqI (ns := givens ss) (ms := givens ss) (SqL.of h2) (SqL.of (L2.la.hp _ _ L2.got)) ⟨_, rfl, ?_⟩
          refine ite2 (fun _ => ?_) (fun c => absurd (by simp) c)
          obtain ⟨dx, al, as, ag, ob⟩ := L2.la.obj
          refine ⟨_, rfl, h, dx, _, rfl, ob, rfl, ?_⟩
          refine tNil_on ⟨F, h, TT, TT, ls, ss, rfl, L2.la.hand, by omega, fun H3 p s3 p0 hp => ?_⟩
          refine ⟨Nat.zero_le _, fun z hz => ?_⟩
          refine eqI (ns := (opens ss).map Int.ofNat) (ms := []) (SqL.of (by rw [← mapN]; exact upd_new hz hp)) (SqL.of upd_same) ?_
          have he : opens ss = [] := by
            refine List.eq_nil_iff_forall_not_mem.mpr fun i m => ?_
            obtain ⟨m1, m2⟩ := mem_opens.mp m
            obtain ⟨x', z', pr'⟩ := L2.la.can
            have := pr'.over m1 (L2.la.sy.lt i m1)
            omega
          rw [he]
          exact q _
end
end Cy
end
section
namespace Cy
open PySem L2 NM
theorem cy_all {P : Program} {w : World} {K : PySem.W.Frag} {h : Heap} {mg : Str → Option Value} {fa CN CC CS CH CY CG CT CR CX f_nI f_nL f_nC f_nW f_nS f_nB f_cI f_cP f_cD f_cL f_cF f_cR f_fL f_fB f_fK f_fW f_fG f_sI f_sL f_sA f_hI f_hY f_hO f_hF f_hR f_hC f_hT f_hS f_hL f_hG f_hE f_eR f_eN f_lC f_lF f_lD f_lY f_lG f_lM f_lL f_lO f_lA : Addr} (X : K.In h) (G : h.Ns mainGlobals mg) (hfa : mg "law" = some (.ref fa)) (hbey : ∃ t, mg "BEYOND" = some (.int (10 ^ 30) t))
    {od_nI an_nI : Option Addr} {sl_nI : Array (Option Value)} {oc_nI kV_nI dc_nI pm_nI cd_nI ct_nI : Value}
    {od_nL an_nL : Option Addr} {sl_nL : Array (Option Value)} {oc_nL kV_nL dc_nL pm_nL cd_nL ct_nL : Value}
    {od_nC an_nC : Option Addr} {sl_nC : Array (Option Value)} {oc_nC kV_nC dc_nC pm_nC cd_nC ct_nC : Value}
    {od_nW an_nW : Option Addr} {sl_nW : Array (Option Value)} {oc_nW kV_nW dc_nW pm_nW cd_nW ct_nW : Value}
    {od_nS an_nS : Option Addr} {sl_nS : Array (Option Value)} {oc_nS kV_nS dc_nS pm_nS cd_nS ct_nS : Value}
    {od_nB an_nB : Option Addr} {sl_nB : Array (Option Value)} {oc_nB kV_nB dc_nB pm_nB cd_nB ct_nB : Value}
    {od_cI an_cI : Option Addr} {sl_cI : Array (Option Value)} {oc_cI kV_cI dc_cI pm_cI cd_cI ct_cI : Value}
    {od_cP an_cP : Option Addr} {sl_cP : Array (Option Value)} {oc_cP kV_cP dc_cP pm_cP cd_cP ct_cP : Value}
    {od_cD an_cD : Option Addr} {sl_cD : Array (Option Value)} {oc_cD kV_cD dc_cD pm_cD cd_cD ct_cD : Value}
    {od_cL an_cL : Option Addr} {sl_cL : Array (Option Value)} {oc_cL kV_cL dc_cL pm_cL cd_cL ct_cL : Value}
    {od_cF an_cF : Option Addr} {sl_cF : Array (Option Value)} {oc_cF kV_cF dc_cF pm_cF cd_cF ct_cF : Value}
    {od_cR an_cR : Option Addr} {sl_cR : Array (Option Value)} {oc_cR kV_cR dc_cR pm_cR cd_cR ct_cR : Value}
    {od_fL an_fL : Option Addr} {sl_fL : Array (Option Value)} {oc_fL kV_fL dc_fL pm_fL cd_fL ct_fL : Value}
    {od_fB an_fB : Option Addr} {sl_fB : Array (Option Value)} {oc_fB kV_fB dc_fB pm_fB cd_fB ct_fB : Value}
    {od_fK an_fK : Option Addr} {sl_fK : Array (Option Value)} {oc_fK kV_fK dc_fK pm_fK cd_fK ct_fK : Value}
    {od_fW an_fW : Option Addr} {sl_fW : Array (Option Value)} {oc_fW kV_fW dc_fW pm_fW cd_fW ct_fW : Value}
    {od_fG an_fG : Option Addr} {sl_fG : Array (Option Value)} {oc_fG kV_fG dc_fG pm_fG cd_fG ct_fG : Value}
    {od_sI an_sI : Option Addr} {sl_sI : Array (Option Value)} {oc_sI kV_sI dc_sI pm_sI cd_sI ct_sI : Value}
    {od_sL an_sL : Option Addr} {sl_sL : Array (Option Value)} {oc_sL kV_sL dc_sL pm_sL cd_sL ct_sL : Value}
    {od_sA an_sA : Option Addr} {sl_sA : Array (Option Value)} {oc_sA kV_sA dc_sA pm_sA cd_sA ct_sA : Value}
    {od_hI an_hI : Option Addr} {sl_hI : Array (Option Value)} {oc_hI kV_hI dc_hI pm_hI cd_hI ct_hI : Value}
    {od_hY an_hY : Option Addr} {sl_hY : Array (Option Value)} {oc_hY kV_hY dc_hY pm_hY cd_hY ct_hY : Value}
    {od_hO an_hO : Option Addr} {sl_hO : Array (Option Value)} {oc_hO kV_hO dc_hO pm_hO cd_hO ct_hO : Value}
    {od_hF an_hF : Option Addr} {sl_hF : Array (Option Value)} {oc_hF kV_hF dc_hF pm_hF cd_hF ct_hF : Value}
    {od_hR an_hR : Option Addr} {sl_hR : Array (Option Value)} {oc_hR kV_hR dc_hR pm_hR cd_hR ct_hR : Value}
    {od_hC an_hC : Option Addr} {sl_hC : Array (Option Value)} {oc_hC kV_hC dc_hC pm_hC cd_hC ct_hC : Value}
    {od_hT an_hT : Option Addr} {sl_hT : Array (Option Value)} {oc_hT kV_hT dc_hT pm_hT cd_hT ct_hT : Value}
    {od_hS an_hS : Option Addr} {sl_hS : Array (Option Value)} {oc_hS kV_hS dc_hS pm_hS cd_hS ct_hS : Value}
    {od_hL an_hL : Option Addr} {sl_hL : Array (Option Value)} {oc_hL kV_hL dc_hL pm_hL cd_hL ct_hL : Value}
    {od_hG an_hG : Option Addr} {sl_hG : Array (Option Value)} {oc_hG kV_hG dc_hG pm_hG cd_hG ct_hG : Value}
    {od_hE an_hE : Option Addr} {sl_hE : Array (Option Value)} {oc_hE kV_hE dc_hE pm_hE cd_hE ct_hE : Value}
    {od_eR an_eR : Option Addr} {sl_eR : Array (Option Value)} {oc_eR kV_eR dc_eR pm_eR cd_eR ct_eR : Value}
    {od_eN an_eN : Option Addr} {sl_eN : Array (Option Value)} {oc_eN kV_eN dc_eN pm_eN cd_eN ct_eN : Value}
    {od_lC an_lC : Option Addr} {sl_lC : Array (Option Value)} {oc_lC kV_lC dc_lC pm_lC cd_lC ct_lC : Value}
    {od_lF an_lF : Option Addr} {sl_lF : Array (Option Value)} {oc_lF kV_lF dc_lF pm_lF cd_lF ct_lF : Value}
    {od_lD an_lD : Option Addr} {sl_lD : Array (Option Value)} {oc_lD kV_lD dc_lD pm_lD cd_lD ct_lD : Value}
    {od_lY an_lY : Option Addr} {sl_lY : Array (Option Value)} {oc_lY kV_lY dc_lY pm_lY cd_lY ct_lY : Value}
    {od_lG an_lG : Option Addr} {sl_lG : Array (Option Value)} {oc_lG kV_lG dc_lG pm_lG cd_lG ct_lG : Value}
    {od_lM an_lM : Option Addr} {sl_lM : Array (Option Value)} {oc_lM kV_lM dc_lM pm_lM cd_lM ct_lM : Value}
    {od_lL an_lL : Option Addr} {sl_lL : Array (Option Value)} {oc_lL kV_lL dc_lL pm_lL cd_lL ct_lL : Value}
    {od_lO an_lO : Option Addr} {sl_lO : Array (Option Value)} {oc_lO kV_lO dc_lO pm_lO cd_lO ct_lO : Value}
    {od_lA an_lA : Option Addr} {sl_lA : Array (Option Value)} {oc_lA kV_lA dc_lA pm_lA cd_lA ct_lA : Value}
    {nm_CR q_CR : Str} {N_CR : Addr} {bs_CR : List Value} {sn_CR : List Str} {sub_CR : List Value} {ab_CR : Bool} {col_CR : Option Bool} {dd_CR : Option Addr} {m0_CR m1_CR m2_CR m3_CR m5_CR : Option Value}
    {nm_CX q_CX : Str} {N_CX : Addr} {bs_CX : List Value} {sn_CX : List Str} {sub_CX : List Value} {ab_CX : Bool} {col_CX : Option Bool} {dd_CX : Option Addr} {m0_CX m1_CX m2_CX m3_CX m5_CX : Option Value}
    (g_CN : PySem.W.nsIn K mainGlobals "Net" = some (some (.ref CN)))
    (g_CC : PySem.W.nsIn K mainGlobals "Course" = some (some (.ref CC)))
    (g_CS : PySem.W.nsIn K mainGlobals "Stay" = some (some (.ref CS)))
    (g_CH : PySem.W.nsIn K mainGlobals "Hand" = some (some (.ref CH)))
    (g_CY : PySem.W.nsIn K mainGlobals "YardError" = some (some (.ref CY)))
    (g_CG : PySem.W.nsIn K mainGlobals "NoGuest" = some (some (.ref CG)))
    (g_CT : PySem.W.nsIn K mainGlobals "NoTime" = some (some (.ref CT)))
    (g_CR : PySem.W.nsIn K mainGlobals "NoRoom" = some (some (.ref CR)))
    (g_CX : PySem.W.nsIn K mainGlobals "NoNumber" = some (some (.ref CX)))
    (a_nI : PySem.W.findIn K (.ref CN) "__init__" = some (some (.ref f_nI)))
    (i_nI : PySem.W.isFn K (.ref f_nI) = true)
    (l_nI : K.lookup f_nI = some ⟨oc_nI, od_nI, .func (PySem.W.fnOf "__init__" "Net.__init__" (defArgs sNetInit) (defBody sNetInit) (defScope sNetInit) .none kV_nI dc_nI pm_nI an_nI cd_nI ct_nI), sl_nI⟩)
    (c_nI : PySem.W.codeIn K cd_nI "Net.__init__" = true)
    (k_nI : PySem.W.keepIn K (.ref f_nI) = true)
    (a_nL : PySem.W.findIn K (.ref CN) "lay" = some (some (.ref f_nL)))
    (i_nL : PySem.W.isFn K (.ref f_nL) = true)
    (l_nL : K.lookup f_nL = some ⟨oc_nL, od_nL, .func (PySem.W.fnOf "lay" "Net.lay" (defArgs sNetLay) (defBody sNetLay) (defScope sNetLay) .none kV_nL dc_nL pm_nL an_nL cd_nL ct_nL), sl_nL⟩)
    (c_nL : PySem.W.codeIn K cd_nL "Net.lay" = true)
    (k_nL : PySem.W.keepIn K (.ref f_nL) = true)
    (a_nC : PySem.W.findIn K (.ref CN) "come_by" = some (some (.ref f_nC)))
    (i_nC : PySem.W.isFn K (.ref f_nC) = true)
    (l_nC : K.lookup f_nC = some ⟨oc_nC, od_nC, .func (PySem.W.fnOf "come_by" "Net.come_by" (defArgs sNetComeBy) (defBody sNetComeBy) (defScope sNetComeBy) .none kV_nC dc_nC pm_nC an_nC cd_nC ct_nC), sl_nC⟩)
    (c_nC : PySem.W.codeIn K cd_nC "Net.come_by" = true)
    (k_nC : PySem.W.keepIn K (.ref f_nC) = true)
    (a_nW : PySem.W.findIn K (.ref CN) "way_to" = some (some (.ref f_nW)))
    (i_nW : PySem.W.isFn K (.ref f_nW) = true)
    (l_nW : K.lookup f_nW = some ⟨oc_nW, od_nW, .func (PySem.W.fnOf "way_to" "Net.way_to" (defArgs sNetWayTo) (defBody sNetWayTo) (defScope sNetWayTo) .none kV_nW dc_nW pm_nW an_nW cd_nW ct_nW), sl_nW⟩)
    (c_nW : PySem.W.codeIn K cd_nW "Net.way_to" = true)
    (k_nW : PySem.W.keepIn K (.ref f_nW) = true)
    (a_nS : PySem.W.findIn K (.ref CN) "send" = some (some (.ref f_nS)))
    (i_nS : PySem.W.isFn K (.ref f_nS) = true)
    (l_nS : K.lookup f_nS = some ⟨oc_nS, od_nS, .func (PySem.W.fnOf "send" "Net.send" (defArgs sNetSend) (defBody sNetSend) (defScope sNetSend) .none kV_nS dc_nS pm_nS an_nS cd_nS ct_nS), sl_nS⟩)
    (c_nS : PySem.W.codeIn K cd_nS "Net.send" = true)
    (k_nS : PySem.W.keepIn K (.ref f_nS) = true)
    (a_nB : PySem.W.findIn K (.ref CN) "sent_by" = some (some (.ref f_nB)))
    (i_nB : PySem.W.isFn K (.ref f_nB) = true)
    (l_nB : K.lookup f_nB = some ⟨oc_nB, od_nB, .func (PySem.W.fnOf "sent_by" "Net.sent_by" (defArgs sNetSentBy) (defBody sNetSentBy) (defScope sNetSentBy) .none kV_nB dc_nB pm_nB an_nB cd_nB ct_nB), sl_nB⟩)
    (c_nB : PySem.W.codeIn K cd_nB "Net.sent_by" = true)
    (k_nB : PySem.W.keepIn K (.ref f_nB) = true)
    (a_cI : PySem.W.findIn K (.ref CC) "__init__" = some (some (.ref f_cI)))
    (i_cI : PySem.W.isFn K (.ref f_cI) = true)
    (l_cI : K.lookup f_cI = some ⟨oc_cI, od_cI, .func (PySem.W.fnOf "__init__" "Course.__init__" (defArgs sCrsInit) (defBody sCrsInit) (defScope sCrsInit) .none kV_cI dc_cI pm_cI an_cI cd_cI ct_cI), sl_cI⟩)
    (c_cI : PySem.W.codeIn K cd_cI "Course.__init__" = true)
    (k_cI : PySem.W.keepIn K (.ref f_cI) = true)
    (a_cP : PySem.W.findIn K (.ref CC) "place_of" = some (some (.ref f_cP)))
    (i_cP : PySem.W.isFn K (.ref f_cP) = true)
    (l_cP : K.lookup f_cP = some ⟨oc_cP, od_cP, .func (PySem.W.fnOf "place_of" "Course.place_of" (defArgs sCrsPlace) (defBody sCrsPlace) (defScope sCrsPlace) .none kV_cP dc_cP pm_cP an_cP cd_cP ct_cP), sl_cP⟩)
    (c_cP : PySem.W.codeIn K cd_cP "Course.place_of" = true)
    (k_cP : PySem.W.keepIn K (.ref f_cP) = true)
    (a_cD : PySem.W.findIn K (.ref CC) "laid_for" = some (some (.ref f_cD)))
    (i_cD : PySem.W.isFn K (.ref f_cD) = true)
    (l_cD : K.lookup f_cD = some ⟨oc_cD, od_cD, .func (PySem.W.fnOf "laid_for" "Course.laid_for" (defArgs sCrsLaid) (defBody sCrsLaid) (defScope sCrsLaid) .none kV_cD dc_cD pm_cD an_cD cd_cD ct_cD), sl_cD⟩)
    (c_cD : PySem.W.codeIn K cd_cD "Course.laid_for" = true)
    (k_cD : PySem.W.keepIn K (.ref f_cD) = true)
    (a_cL : PySem.W.findIn K (.ref CC) "lack" = some (some (.ref f_cL)))
    (i_cL : PySem.W.isFn K (.ref f_cL) = true)
    (l_cL : K.lookup f_cL = some ⟨oc_cL, od_cL, .func (PySem.W.fnOf "lack" "Course.lack" (defArgs sCrsLack) (defBody sCrsLack) (defScope sCrsLack) .none kV_cL dc_cL pm_cL an_cL cd_cL ct_cL), sl_cL⟩)
    (c_cL : PySem.W.codeIn K cd_cL "Course.lack" = true)
    (k_cL : PySem.W.keepIn K (.ref f_cL) = true)
    (a_cF : PySem.W.findIn K (.ref CC) "filling" = some (some (.ref f_cF)))
    (i_cF : PySem.W.isFn K (.ref f_cF) = true)
    (l_cF : K.lookup f_cF = some ⟨oc_cF, od_cF, .func (PySem.W.fnOf "filling" "Course.filling" (defArgs sCrsFilling) (defBody sCrsFilling) (defScope sCrsFilling) .none kV_cF dc_cF pm_cF an_cF cd_cF ct_cF), sl_cF⟩)
    (c_cF : PySem.W.codeIn K cd_cF "Course.filling" = true)
    (k_cF : PySem.W.keepIn K (.ref f_cF) = true)
    (a_cR : PySem.W.findIn K (.ref CC) "reached" = some (some (.ref f_cR)))
    (i_cR : PySem.W.isFn K (.ref f_cR) = true)
    (l_cR : K.lookup f_cR = some ⟨oc_cR, od_cR, .func (PySem.W.fnOf "reached" "Course.reached" (defArgs sCrsReached) (defBody sCrsReached) (defScope sCrsReached) .none kV_cR dc_cR pm_cR an_cR cd_cR ct_cR), sl_cR⟩)
    (c_cR : PySem.W.codeIn K cd_cR "Course.reached" = true)
    (k_cR : PySem.W.keepIn K (.ref f_cR) = true)
    (a_fL : PySem.W.nsIn K mainGlobals "least_lack" = some (some (.ref f_fL)))
    (l_fL : K.lookup f_fL = some ⟨oc_fL, od_fL, .func (PySem.W.fnOf "least_lack" "least_lack" (defArgs sLeast) (defBody sLeast) (defScope sLeast) .none kV_fL dc_fL pm_fL an_fL cd_fL ct_fL), sl_fL⟩)
    (c_fL : PySem.W.codeIn K cd_fL "least_lack" = true)
    (k_fL : PySem.W.keepIn K (.ref f_fL) = true)
    (a_fB : PySem.W.nsIn K mainGlobals "best_filling" = some (some (.ref f_fB)))
    (l_fB : K.lookup f_fB = some ⟨oc_fB, od_fB, .func (PySem.W.fnOf "best_filling" "best_filling" (defArgs sBest) (defBody sBest) (defScope sBest) .none kV_fB dc_fB pm_fB an_fB cd_fB ct_fB), sl_fB⟩)
    (c_fB : PySem.W.codeIn K cd_fB "best_filling" = true)
    (k_fB : PySem.W.keepIn K (.ref f_fB) = true)
    (a_fK : PySem.W.nsIn K mainGlobals "lacking_set" = some (some (.ref f_fK)))
    (l_fK : K.lookup f_fK = some ⟨oc_fK, od_fK, .func (PySem.W.fnOf "lacking_set" "lacking_set" (defArgs sLacking) (defBody sLacking) (defScope sLacking) .none kV_fK dc_fK pm_fK an_fK cd_fK ct_fK), sl_fK⟩)
    (c_fK : PySem.W.codeIn K cd_fK "lacking_set" = true)
    (k_fK : PySem.W.keepIn K (.ref f_fK) = true)
    (a_fW : PySem.W.nsIn K mainGlobals "is_whole" = some (some (.ref f_fW)))
    (l_fW : K.lookup f_fW = some ⟨oc_fW, od_fW, .func (PySem.W.fnOf "is_whole" "is_whole" (defArgs sWhole) (defBody sWhole) (defScope sWhole) .none kV_fW dc_fW pm_fW an_fW cd_fW ct_fW), sl_fW⟩)
    (c_fW : PySem.W.codeIn K cd_fW "is_whole" = true)
    (k_fW : PySem.W.keepIn K (.ref f_fW) = true)
    (a_fG : PySem.W.nsIn K mainGlobals "is_guest" = some (some (.ref f_fG)))
    (l_fG : K.lookup f_fG = some ⟨oc_fG, od_fG, .func (PySem.W.fnOf "is_guest" "is_guest" (defArgs sGuest) (defBody sGuest) (defScope sGuest) .none kV_fG dc_fG pm_fG an_fG cd_fG ct_fG), sl_fG⟩)
    (c_fG : PySem.W.codeIn K cd_fG "is_guest" = true)
    (k_fG : PySem.W.keepIn K (.ref f_fG) = true)
    (a_sI : PySem.W.findIn K (.ref CS) "__init__" = some (some (.ref f_sI)))
    (i_sI : PySem.W.isFn K (.ref f_sI) = true)
    (l_sI : K.lookup f_sI = some ⟨oc_sI, od_sI, .func (PySem.W.fnOf "__init__" "Stay.__init__" (defArgs sStayInit) (defBody sStayInit) (defScope sStayInit) .none kV_sI dc_sI pm_sI an_sI cd_sI ct_sI), sl_sI⟩)
    (c_sI : PySem.W.codeIn K cd_sI "Stay.__init__" = true)
    (k_sI : PySem.W.keepIn K (.ref f_sI) = true)
    (a_sL : PySem.W.findIn K (.ref CS) "lacking" = some (some (.ref f_sL)))
    (i_sL : PySem.W.isFn K (.ref f_sL) = true)
    (l_sL : K.lookup f_sL = some ⟨oc_sL, od_sL, .func (PySem.W.fnOf "lacking" "Stay.lacking" (defArgs sStayLacking) (defBody sStayLacking) (defScope sStayLacking) .none kV_sL dc_sL pm_sL an_sL cd_sL ct_sL), sl_sL⟩)
    (c_sL : PySem.W.codeIn K cd_sL "Stay.lacking" = true)
    (k_sL : PySem.W.keepIn K (.ref f_sL) = true)
    (a_sA : PySem.W.findIn K (.ref CS) "as_guest" = some (some (.ref f_sA)))
    (i_sA : PySem.W.isFn K (.ref f_sA) = true)
    (l_sA : K.lookup f_sA = some ⟨oc_sA, od_sA, .func (PySem.W.fnOf "as_guest" "Stay.as_guest" (defArgs sStayAs) (defBody sStayAs) (defScope sStayAs) .none kV_sA dc_sA pm_sA an_sA cd_sA ct_sA), sl_sA⟩)
    (c_sA : PySem.W.codeIn K cd_sA "Stay.as_guest" = true)
    (k_sA : PySem.W.keepIn K (.ref f_sA) = true)
    (a_hI : PySem.W.findIn K (.ref CH) "__init__" = some (some (.ref f_hI)))
    (i_hI : PySem.W.isFn K (.ref f_hI) = true)
    (l_hI : K.lookup f_hI = some ⟨oc_hI, od_hI, .func (PySem.W.fnOf "__init__" "Hand.__init__" (defArgs sHandInit) (defBody sHandInit) (defScope sHandInit) .none kV_hI dc_hI pm_hI an_hI cd_hI ct_hI), sl_hI⟩)
    (c_hI : PySem.W.codeIn K cd_hI "Hand.__init__" = true)
    (k_hI : PySem.W.keepIn K (.ref f_hI) = true)
    (a_hY : PySem.W.findIn K (.ref CH) "yard_now" = some (some (.ref f_hY)))
    (i_hY : PySem.W.isFn K (.ref f_hY) = true)
    (l_hY : K.lookup f_hY = some ⟨oc_hY, od_hY, .func (PySem.W.fnOf "yard_now" "Hand.yard_now" (defArgs sHandYard) (defBody sHandYard) (defScope sHandYard) .none kV_hY dc_hY pm_hY an_hY cd_hY ct_hY), sl_hY⟩)
    (c_hY : PySem.W.codeIn K cd_hY "Hand.yard_now" = true)
    (k_hY : PySem.W.keepIn K (.ref f_hY) = true)
    (a_hO : PySem.W.findIn K (.ref CH) "open_ones" = some (some (.ref f_hO)))
    (i_hO : PySem.W.isFn K (.ref f_hO) = true)
    (l_hO : K.lookup f_hO = some ⟨oc_hO, od_hO, .func (PySem.W.fnOf "open_ones" "Hand.open_ones" (defArgs sHandOpen) (defBody sHandOpen) (defScope sHandOpen) .none kV_hO dc_hO pm_hO an_hO cd_hO ct_hO), sl_hO⟩)
    (c_hO : PySem.W.codeIn K cd_hO "Hand.open_ones" = true)
    (k_hO : PySem.W.keepIn K (.ref f_hO) = true)
    (a_hF : PySem.W.findIn K (.ref CH) "yard_left" = some (some (.ref f_hF)))
    (i_hF : PySem.W.isFn K (.ref f_hF) = true)
    (l_hF : K.lookup f_hF = some ⟨oc_hF, od_hF, .func (PySem.W.fnOf "yard_left" "Hand.yard_left" (defArgs sHandLeft) (defBody sHandLeft) (defScope sHandLeft) .none kV_hF dc_hF pm_hF an_hF cd_hF ct_hF), sl_hF⟩)
    (c_hF : PySem.W.codeIn K cd_hF "Hand.yard_left" = true)
    (k_hF : PySem.W.keepIn K (.ref f_hF) = true)
    (a_hR : PySem.W.findIn K (.ref CH) "check_room" = some (some (.ref f_hR)))
    (i_hR : PySem.W.isFn K (.ref f_hR) = true)
    (l_hR : K.lookup f_hR = some ⟨oc_hR, od_hR, .func (PySem.W.fnOf "check_room" "Hand.check_room" (defArgs sHandRoom) (defBody sHandRoom) (defScope sHandRoom) .none kV_hR dc_hR pm_hR an_hR cd_hR ct_hR), sl_hR⟩)
    (c_hR : PySem.W.codeIn K cd_hR "Hand.check_room" = true)
    (k_hR : PySem.W.keepIn K (.ref f_hR) = true)
    (a_hC : PySem.W.findIn K (.ref CH) "come" = some (some (.ref f_hC)))
    (i_hC : PySem.W.isFn K (.ref f_hC) = true)
    (l_hC : K.lookup f_hC = some ⟨oc_hC, od_hC, .func (PySem.W.fnOf "come" "Hand.come" (defArgs sHandCome) (defBody sHandCome) (defScope sHandCome) .none kV_hC dc_hC pm_hC an_hC cd_hC ct_hC), sl_hC⟩)
    (c_hC : PySem.W.codeIn K cd_hC "Hand.come" = true)
    (k_hC : PySem.W.keepIn K (.ref f_hC) = true)
    (a_hT : PySem.W.findIn K (.ref CH) "turn" = some (some (.ref f_hT)))
    (i_hT : PySem.W.isFn K (.ref f_hT) = true)
    (l_hT : K.lookup f_hT = some ⟨oc_hT, od_hT, .func (PySem.W.fnOf "turn" "Hand.turn" (defArgs sHandTurn) (defBody sHandTurn) (defScope sHandTurn) .none kV_hT dc_hT pm_hT an_hT cd_hT ct_hT), sl_hT⟩)
    (c_hT : PySem.W.codeIn K cd_hT "Hand.turn" = true)
    (k_hT : PySem.W.keepIn K (.ref f_hT) = true)
    (a_hS : PySem.W.findIn K (.ref CH) "stay_of" = some (some (.ref f_hS)))
    (i_hS : PySem.W.isFn K (.ref f_hS) = true)
    (l_hS : K.lookup f_hS = some ⟨oc_hS, od_hS, .func (PySem.W.fnOf "stay_of" "Hand.stay_of" (defArgs sHandStay) (defBody sHandStay) (defScope sHandStay) .none kV_hS dc_hS pm_hS an_hS cd_hS ct_hS), sl_hS⟩)
    (c_hS : PySem.W.codeIn K cd_hS "Hand.stay_of" = true)
    (k_hS : PySem.W.keepIn K (.ref f_hS) = true)
    (a_hL : PySem.W.findIn K (.ref CH) "leave" = some (some (.ref f_hL)))
    (i_hL : PySem.W.isFn K (.ref f_hL) = true)
    (l_hL : K.lookup f_hL = some ⟨oc_hL, od_hL, .func (PySem.W.fnOf "leave" "Hand.leave" (defArgs sHandLeave) (defBody sHandLeave) (defScope sHandLeave) .none kV_hL dc_hL pm_hL an_hL cd_hL ct_hL), sl_hL⟩)
    (c_hL : PySem.W.codeIn K cd_hL "Hand.leave" = true)
    (k_hL : PySem.W.keepIn K (.ref f_hL) = true)
    (a_hG : PySem.W.findIn K (.ref CH) "got" = some (some (.ref f_hG)))
    (i_hG : PySem.W.isFn K (.ref f_hG) = true)
    (l_hG : K.lookup f_hG = some ⟨oc_hG, od_hG, .func (PySem.W.fnOf "got" "Hand.got" (defArgs sHandGot) (defBody sHandGot) (defScope sHandGot) .none kV_hG dc_hG pm_hG an_hG cd_hG ct_hG), sl_hG⟩)
    (c_hG : PySem.W.codeIn K cd_hG "Hand.got" = true)
    (k_hG : PySem.W.keepIn K (.ref f_hG) = true)
    (a_hE : PySem.W.findIn K (.ref CH) "rest" = some (some (.ref f_hE)))
    (i_hE : PySem.W.isFn K (.ref f_hE) = true)
    (l_hE : K.lookup f_hE = some ⟨oc_hE, od_hE, .func (PySem.W.fnOf "rest" "Hand.rest" (defArgs sHandRest) (defBody sHandRest) (defScope sHandRest) .none kV_hE dc_hE pm_hE an_hE cd_hE ct_hE), sl_hE⟩)
    (c_hE : PySem.W.codeIn K cd_hE "Hand.rest" = true)
    (k_hE : PySem.W.keepIn K (.ref f_hE) = true)
    (a_eR : PySem.W.findIn K (.ref CR) "__init__" = some (some (.ref f_eR)))
    (t_eR : PySem.W.typeIn K (.ref f_eR) = some (.type "function"))
    (l_eR : K.lookup f_eR = some ⟨oc_eR, od_eR, .func (PySem.W.fnOf "__init__" "NoRoom.__init__" (defArgs sNoRoomInit) (defBody sNoRoomInit) (defScope sNoRoomInit) .none kV_eR dc_eR pm_eR an_eR cd_eR ct_eR), sl_eR⟩)
    (c_eR : PySem.W.codeIn K cd_eR "NoRoom.__init__" = true)
    (k_eR : PySem.W.keepIn K (.ref f_eR) = true)
    (a_eN : PySem.W.findIn K (.ref CX) "__init__" = some (some (.ref f_eN)))
    (t_eN : PySem.W.typeIn K (.ref f_eN) = some (.type "function"))
    (l_eN : K.lookup f_eN = some ⟨oc_eN, od_eN, .func (PySem.W.fnOf "__init__" "NoNumber.__init__" (defArgs sNoNumberInit) (defBody sNoNumberInit) (defScope sNoNumberInit) .none kV_eN dc_eN pm_eN an_eN cd_eN ct_eN), sl_eN⟩)
    (c_eN : PySem.W.codeIn K cd_eN "NoNumber.__init__" = true)
    (k_eN : PySem.W.keepIn K (.ref f_eN) = true)
    (a_lC : PySem.W.nsIn K mainGlobals "_law_cell_at" = some (some (.ref f_lC)))
    (l_lC : K.lookup f_lC = some ⟨oc_lC, od_lC, .func (PySem.W.fnOf "_law_cell_at" "_law_cell_at" (defArgs sCell) (defBody sCell) (defScope sCell) .none kV_lC dc_lC pm_lC an_lC cd_lC ct_lC), sl_lC⟩)
    (c_lC : PySem.W.codeIn K cd_lC "_law_cell_at" = true)
    (k_lC : PySem.W.keepIn K (.ref f_lC) = true)
    (a_lF : PySem.W.nsIn K mainGlobals "_law_feed" = some (some (.ref f_lF)))
    (l_lF : K.lookup f_lF = some ⟨oc_lF, od_lF, .func (PySem.W.fnOf "_law_feed" "_law_feed" (defArgs sFeed) (defBody sFeed) (defScope sFeed) .none kV_lF dc_lF pm_lF an_lF cd_lF ct_lF), sl_lF⟩)
    (c_lF : PySem.W.codeIn K cd_lF "_law_feed" = true)
    (k_lF : PySem.W.keepIn K (.ref f_lF) = true)
    (a_lD : PySem.W.nsIn K mainGlobals "_law_digit" = some (some (.ref f_lD)))
    (l_lD : K.lookup f_lD = some ⟨oc_lD, od_lD, .func (PySem.W.fnOf "_law_digit" "_law_digit" (defArgs sDigit) (defBody sDigit) (defScope sDigit) .none kV_lD dc_lD pm_lD an_lD cd_lD ct_lD), sl_lD⟩)
    (c_lD : PySem.W.codeIn K cd_lD "_law_digit" = true)
    (k_lD : PySem.W.keepIn K (.ref f_lD) = true)
    (a_lY : PySem.W.nsIn K mainGlobals "_law_yard" = some (some (.ref f_lY)))
    (l_lY : K.lookup f_lY = some ⟨oc_lY, od_lY, .func (PySem.W.fnOf "_law_yard" "_law_yard" (defArgs sLYard) (defBody sLYard) (defScope sLYard) .none kV_lY dc_lY pm_lY an_lY cd_lY ct_lY), sl_lY⟩)
    (c_lY : PySem.W.codeIn K cd_lY "_law_yard" = true)
    (k_lY : PySem.W.keepIn K (.ref f_lY) = true)
    (a_lG : PySem.W.nsIn K mainGlobals "_law_guest" = some (some (.ref f_lG)))
    (l_lG : K.lookup f_lG = some ⟨oc_lG, od_lG, .func (PySem.W.fnOf "_law_guest" "_law_guest" (defArgs sLGuest) (defBody sLGuest) (defScope sLGuest) .none kV_lG dc_lG pm_lG an_lG cd_lG ct_lG), sl_lG⟩)
    (c_lG : PySem.W.codeIn K cd_lG "_law_guest" = true)
    (k_lG : PySem.W.keepIn K (.ref f_lG) = true)
    (a_lM : PySem.W.nsIn K mainGlobals "_law_come" = some (some (.ref f_lM)))
    (l_lM : K.lookup f_lM = some ⟨oc_lM, od_lM, .func (PySem.W.fnOf "_law_come" "_law_come" (defArgs sLCome) (defBody sLCome) (defScope sLCome) .none kV_lM dc_lM pm_lM an_lM cd_lM ct_lM), sl_lM⟩)
    (c_lM : PySem.W.codeIn K cd_lM "_law_come" = true)
    (k_lM : PySem.W.keepIn K (.ref f_lM) = true)
    (a_lL : PySem.W.nsIn K mainGlobals "_law_left" = some (some (.ref f_lL)))
    (l_lL : K.lookup f_lL = some ⟨oc_lL, od_lL, .func (PySem.W.fnOf "_law_left" "_law_left" (defArgs sLLeft) (defBody sLLeft) (defScope sLLeft) .none kV_lL dc_lL pm_lL an_lL cd_lL ct_lL), sl_lL⟩)
    (c_lL : PySem.W.codeIn K cd_lL "_law_left" = true)
    (k_lL : PySem.W.keepIn K (.ref f_lL) = true)
    (a_lO : PySem.W.nsIn K mainGlobals "_law_goes" = some (some (.ref f_lO)))
    (l_lO : K.lookup f_lO = some ⟨oc_lO, od_lO, .func (PySem.W.fnOf "_law_goes" "_law_goes" (defArgs sLGoes) (defBody sLGoes) (defScope sLGoes) .none kV_lO dc_lO pm_lO an_lO cd_lO ct_lO), sl_lO⟩)
    (c_lO : PySem.W.codeIn K cd_lO "_law_goes" = true)
    (k_lO : PySem.W.keepIn K (.ref f_lO) = true)
    (a_lA : PySem.W.nsIn K mainGlobals "law" = some (some (.ref f_lA)))
    (l_lA : K.lookup f_lA = some ⟨oc_lA, od_lA, .func (PySem.W.fnOf "law" "law" (defArgs sLaw) (defBody sLaw) (defScope sLaw) .none kV_lA dc_lA pm_lA an_lA cd_lA ct_lA), sl_lA⟩)
    (c_lA : PySem.W.codeIn K cd_lA "law" = true)
    (k_lA : PySem.W.keepIn K (.ref f_lA) = true)
    (pg_CN : PySem.W.plainGet K CN Str.empty = true)
    (hd_CN : PySem.W.hasDictIn K CN = true)
    (po_CN : PySem.W.plainOver K CN = true)
    (sa_CN : PySem.W.findIn K (.ref CN) "__setattr__" = some (some (.builtin "object.__setattr__")))
    (mk_CN : PySem.W.makesIn K CN = true)
    (kc_CN : PySem.W.keepIn K (.ref CN) = true)
    (n_CN_ends : PySem.W.findIn K (.ref CN) "ends" = some none)
    (n_CN_left : PySem.W.findIn K (.ref CN) "left" = some none)
    (n_CN_rows : PySem.W.findIn K (.ref CN) "rows" = some none)
    (pg_CC : PySem.W.plainGet K CC Str.empty = true)
    (hd_CC : PySem.W.hasDictIn K CC = true)
    (po_CC : PySem.W.plainOver K CC = true)
    (sa_CC : PySem.W.findIn K (.ref CC) "__setattr__" = some (some (.builtin "object.__setattr__")))
    (mk_CC : PySem.W.makesIn K CC = true)
    (kc_CC : PySem.W.keepIn K (.ref CC) = true)
    (n_CC_turns : PySem.W.findIn K (.ref CC) "turns" = some none)
    (n_CC_guests : PySem.W.findIn K (.ref CC) "guests" = some none)
    (n_CC_goal : PySem.W.findIn K (.ref CC) "goal" = some none)
    (n_CC_net : PySem.W.findIn K (.ref CC) "net" = some none)
    (n_CC_arcs : PySem.W.findIn K (.ref CC) "arcs" = some none)
    (n_CC_sent : PySem.W.findIn K (.ref CC) "sent" = some none)
    (pg_CS : PySem.W.plainGet K CS Str.empty = true)
    (hd_CS : PySem.W.hasDictIn K CS = true)
    (po_CS : PySem.W.plainOver K CS = true)
    (sa_CS : PySem.W.findIn K (.ref CS) "__setattr__" = some (some (.builtin "object.__setattr__")))
    (mk_CS : PySem.W.makesIn K CS = true)
    (kc_CS : PySem.W.keepIn K (.ref CS) = true)
    (n_CS_guest : PySem.W.findIn K (.ref CS) "guest" = some none)
    (n_CS_given : PySem.W.findIn K (.ref CS) "given" = some none)
    (n_CS_gone : PySem.W.findIn K (.ref CS) "gone" = some none)
    (pg_CH : PySem.W.plainGet K CH Str.empty = true)
    (hd_CH : PySem.W.hasDictIn K CH = true)
    (po_CH : PySem.W.plainOver K CH = true)
    (sa_CH : PySem.W.findIn K (.ref CH) "__setattr__" = some (some (.builtin "object.__setattr__")))
    (mk_CH : PySem.W.makesIn K CH = true)
    (kc_CH : PySem.W.keepIn K (.ref CH) = true)
    (n_CH_turns : PySem.W.findIn K (.ref CH) "turns" = some none)
    (n_CH_lines : PySem.W.findIn K (.ref CH) "lines" = some none)
    (n_CH_present : PySem.W.findIn K (.ref CH) "present" = some none)
    (n_CH_stays : PySem.W.findIn K (.ref CH) "stays" = some none)
    (n_CH_given_so_far : PySem.W.findIn K (.ref CH) "given_so_far" = some none)
    (z_len : PySem.W.nsIn K mainGlobals "len" = some none)
    (z_range : PySem.W.nsIn K mainGlobals "range" = some none)
    (z_min : PySem.W.nsIn K mainGlobals "min" = some none)
    (z_max : PySem.W.nsIn K mainGlobals "max" = some none)
    (z_enumerate : PySem.W.nsIn K mainGlobals "enumerate" = some none)
    (z_zip : PySem.W.nsIn K mainGlobals "zip" = some none)
    (z_sum : PySem.W.nsIn K mainGlobals "sum" = some none)
    (z_isinstance : PySem.W.nsIn K mainGlobals "isinstance" = some none)
    (z_int : PySem.W.nsIn K mainGlobals "int" = some none)
    (z_bool : PySem.W.nsIn K mainGlobals "bool" = some none)
    (z_tuple : PySem.W.nsIn K mainGlobals "tuple" = some none)
    (z_dict : PySem.W.nsIn K mainGlobals "dict" = some none)
    (z_ValueError : PySem.W.nsIn K mainGlobals "ValueError" = some none)
    (x_CR : K.lookup CR = some (excClassObj nm_CR q_CR CR N_CR bs_CR [.ref CY, .type "ValueError", .type "Exception", .type "BaseException", .type "object"] true sn_CR sub_CR ab_CR col_CR dd_CR m0_CR m1_CR m2_CR m3_CR m5_CR "ValueError.__new__"))
    (sa_CR : PySem.W.findIn K (.ref CR) "__setattr__" = some (some (.builtin "object.__setattr__")))
    (be_CR : PySem.W.subIn K (.ref CR) (.type "BaseException") = some true)
    (ty_CR : PySem.W.typeIn K (.ref CR) = some (.type "type"))
    (kc_CR : PySem.W.keepIn K (.ref CR) = true)
    (ga_CR : PySem.W.findIn K (.ref CR) "__getattribute__" = some (some (.builtin "BaseException.__getattribute__")))
    (gg_CR : PySem.W.findIn K (.ref CR) "__getattr__" = some none)
    (hd_CR : PySem.W.hasDictIn K CR = true)
    (cc_CR : PySem.W.findIn K (.ref CR) "__class__" = some (some (.builtin "object.__class__")))
    (ob_CR : PySem.W.mroIn K CR (.type "object") = some true)
    (sy_CR : PySem.W.subIn K (.ref CR) (.ref CY) = some true)
    (kv_CR : PySem.W.kitOne K (.ref CR) (.type "ValueError") = some true)
    (ks_CR : PySem.W.kitOne K (.ref CR) (.ref CR) = some true)
    (x_CX : K.lookup CX = some (excClassObj nm_CX q_CX CX N_CX bs_CX [.ref CY, .type "ValueError", .type "Exception", .type "BaseException", .type "object"] true sn_CX sub_CX ab_CX col_CX dd_CX m0_CX m1_CX m2_CX m3_CX m5_CX "ValueError.__new__"))
    (sa_CX : PySem.W.findIn K (.ref CX) "__setattr__" = some (some (.builtin "object.__setattr__")))
    (be_CX : PySem.W.subIn K (.ref CX) (.type "BaseException") = some true)
    (ty_CX : PySem.W.typeIn K (.ref CX) = some (.type "type"))
    (kc_CX : PySem.W.keepIn K (.ref CX) = true)
    (ga_CX : PySem.W.findIn K (.ref CX) "__getattribute__" = some (some (.builtin "BaseException.__getattribute__")))
    (gg_CX : PySem.W.findIn K (.ref CX) "__getattr__" = some none)
    (hd_CX : PySem.W.hasDictIn K CX = true)
    (cc_CX : PySem.W.findIn K (.ref CX) "__class__" = some (some (.builtin "object.__class__")))
    (ob_CX : PySem.W.mroIn K CX (.type "object") = some true)
    (sy_CX : PySem.W.subIn K (.ref CX) (.ref CY) = some true)
    (kv_CX : PySem.W.kitOne K (.ref CX) (.type "ValueError") = some true)
    (ks_CX : PySem.W.kitOne K (.ref CX) (.ref CX) = some true)
    (no_CR : PySem.W.findIn K (.ref CR) "some" = some none)
    (no_CX : PySem.W.findIn K (.ref CX) "number" = some none)
    (kg_CR : PySem.W.kitOne K (.ref CR) (.ref CG) = some false)
    (kt_CR : PySem.W.kitOne K (.ref CR) (.ref CT) = some false)
    (cn : PySem.W.specialIn K (.builtin "object.__class__") "__get__" = some (some (.builtin "getset_descriptor.__get__")))
    (ct : PySem.W.takesIn K (.builtin "object.__class__") = some true)
    (bye : PySem.W.subIn K (.ref CY) (.type "BaseException") = some true)
    (hy : PySem.W.hasDictIn K CY = true)
    (tyy : PySem.W.typeIn K (.ref CY) = some (.type "type"))
    (bs1 : PySem.W.specialIn K (.ref CY) "__getattribute__" = some (some (.builtin "type.__getattribute__")))
    (bs2 : PySem.W.readsIn K CY (.type "type") = true)
    (bs3 : PySem.W.findCls K (.ref CY) (.type "type") "__init__" = some (.val (.builtin "ValueError.__init__"))) :
    ∃ fd : FuncData, (∀ (s : Shared) (u : Value), BindsTo s fd ⟨[u], []⟩ [("_law_script", u)]) ∧ ∀ base : Heap, K.In base → base.Ns mainGlobals mg → FnOk P w K mg base CX0 9 fa fd ["_law_script"] (spLaw K) := by
  have e := hfa.symm.trans (PySem.W.mg_of X G a_lA)
  cases e
  have m_CN : mg "Net" = some (.ref CN) := PySem.W.mg_of X G g_CN
  have m_CC : mg "Course" = some (.ref CC) := PySem.W.mg_of X G g_CC
  have m_CS : mg "Stay" = some (.ref CS) := PySem.W.mg_of X G g_CS
  have m_CH : mg "Hand" = some (.ref CH) := PySem.W.mg_of X G g_CH
  have m_CY : mg "YardError" = some (.ref CY) := PySem.W.mg_of X G g_CY
  have m_CG : mg "NoGuest" = some (.ref CG) := PySem.W.mg_of X G g_CG
  have m_CT : mg "NoTime" = some (.ref CT) := PySem.W.mg_of X G g_CT
  have m_CR : mg "NoRoom" = some (.ref CR) := PySem.W.mg_of X G g_CR
  have m_CX : mg "NoNumber" = some (.ref CX) := PySem.W.mg_of X G g_CX
  have y_len : mg "len" = none := PySem.W.mg_none_of X G z_len
  have y_range : mg "range" = none := PySem.W.mg_none_of X G z_range
  have y_min : mg "min" = none := PySem.W.mg_none_of X G z_min
  have y_max : mg "max" = none := PySem.W.mg_none_of X G z_max
  have y_enumerate : mg "enumerate" = none := PySem.W.mg_none_of X G z_enumerate
  have y_zip : mg "zip" = none := PySem.W.mg_none_of X G z_zip
  have y_sum : mg "sum" = none := PySem.W.mg_none_of X G z_sum
  have y_isinstance : mg "isinstance" = none := PySem.W.mg_none_of X G z_isinstance
  have y_int : mg "int" = none := PySem.W.mg_none_of X G z_int
  have y_bool : mg "bool" = none := PySem.W.mg_none_of X G z_bool
  have y_tuple : mg "tuple" = none := PySem.W.mg_none_of X G z_tuple
  have y_dict : mg "dict" = none := PySem.W.mg_none_of X G z_dict
  have y_ValueError : mg "ValueError" = none := PySem.W.mg_none_of X G z_ValueError
  have C_CN : Cls K CN := ⟨pg_CN, hd_CN, po_CN, sa_CN⟩
  have C_CC : Cls K CC := ⟨pg_CC, hd_CC, po_CC, sa_CC⟩
  have C_CS : Cls K CS := ⟨pg_CS, hd_CS, po_CS, sa_CS⟩
  have C_CH : Cls K CH := ⟨pg_CH, hd_CH, po_CH, sa_CH⟩
  have F_nI := fun_mk (st := sNetInit) l_nI c_nI k_nI
  have b_nI := F_nI.binds (ps := ["self", "places"]) fun _ _ _ _ _ _ us hl => match us, hl with | [_, _], _ => rfl
  have M_nI : Meth K CN "__init__" f_nI := ⟨a_nI, i_nI, k_nI⟩
  have F_nL := fun_mk (st := sNetLay) l_nL c_nL k_nL
  have b_nL := F_nL.binds (ps := ["self", "one", "other", "most"]) fun _ _ _ _ _ _ us hl => match us, hl with | [_, _, _, _], _ => rfl
  have M_nL : Meth K CN "lay" f_nL := ⟨a_nL, i_nL, k_nL⟩
  have F_nC := fun_mk (st := sNetComeBy) l_nC c_nC k_nC
  have b_nC := F_nC.binds (ps := ["self", "start"]) fun _ _ _ _ _ _ us hl => match us, hl with | [_, _], _ => rfl
  have M_nC : Meth K CN "come_by" f_nC := ⟨a_nC, i_nC, k_nC⟩
  have F_nW := fun_mk (st := sNetWayTo) l_nW c_nW k_nW
  have b_nW := F_nW.binds (ps := ["self", "found", "goal"]) fun _ _ _ _ _ _ us hl => match us, hl with | [_, _, _], _ => rfl
  have M_nW : Meth K CN "way_to" f_nW := ⟨a_nW, i_nW, k_nW⟩
  have F_nS := fun_mk (st := sNetSend) l_nS c_nS k_nS
  have b_nS := F_nS.binds (ps := ["self", "start", "goal"]) fun _ _ _ _ _ _ us hl => match us, hl with | [_, _, _], _ => rfl
  have M_nS : Meth K CN "send" f_nS := ⟨a_nS, i_nS, k_nS⟩
  have F_nB := fun_mk (st := sNetSentBy) l_nB c_nB k_nB
  have b_nB := F_nB.binds (ps := ["self", "arc"]) fun _ _ _ _ _ _ us hl => match us, hl with | [_, _], _ => rfl
  have M_nB : Meth K CN "sent_by" f_nB := ⟨a_nB, i_nB, k_nB⟩
  have F_cI := fun_mk (st := sCrsInit) l_cI c_cI k_cI
  have b_cI := F_cI.binds (ps := ["self", "yard", "guests"]) fun _ _ _ _ _ _ us hl => match us, hl with | [_, _, _], _ => rfl
  have M_cI : Meth K CC "__init__" f_cI := ⟨a_cI, i_cI, k_cI⟩
  have F_cP := fun_mk (st := sCrsPlace) l_cP c_cP k_cP
  have b_cP := F_cP.binds (ps := ["self", "line", "turn"]) fun _ _ _ _ _ _ us hl => match us, hl with | [_, _, _], _ => rfl
  have M_cP : Meth K CC "place_of" f_cP := ⟨a_cP, i_cP, k_cP⟩
  have F_cD := fun_mk (st := sCrsLaid) l_cD c_cD k_cD
  have b_cD := F_cD.binds (ps := ["self", "number"]) fun _ _ _ _ _ _ us hl => match us, hl with | [_, _], _ => rfl
  have M_cD : Meth K CC "laid_for" f_cD := ⟨a_cD, i_cD, k_cD⟩
  have F_cL := fun_mk (st := sCrsLack) l_cL c_cL k_cL
  have b_cL := F_cL.binds (ps := ["self"]) fun _ _ _ _ _ _ us hl => match us, hl with | [_], _ => rfl
  have M_cL : Meth K CC "lack" f_cL := ⟨a_cL, i_cL, k_cL⟩
  have F_cF := fun_mk (st := sCrsFilling) l_cF c_cF k_cF
  have b_cF := F_cF.binds (ps := ["self"]) fun _ _ _ _ _ _ us hl => match us, hl with | [_], _ => rfl
  have M_cF : Meth K CC "filling" f_cF := ⟨a_cF, i_cF, k_cF⟩
  have F_cR := fun_mk (st := sCrsReached) l_cR c_cR k_cR
  have b_cR := F_cR.binds (ps := ["self"]) fun _ _ _ _ _ _ us hl => match us, hl with | [_], _ => rfl
  have M_cR : Meth K CC "reached" f_cR := ⟨a_cR, i_cR, k_cR⟩
  have F_fL := fun_mk (st := sLeast) l_fL c_fL k_fL
  have b_fL := F_fL.binds (ps := ["yard", "guests"]) fun _ _ _ _ _ _ us hl => match us, hl with | [_, _], _ => rfl
  have G_fL : mg "least_lack" = some (.ref f_fL) := PySem.W.mg_of X G a_fL
  have F_fB := fun_mk (st := sBest) l_fB c_fB k_fB
  have b_fB := F_fB.binds (ps := ["yard", "guests"]) fun _ _ _ _ _ _ us hl => match us, hl with | [_, _], _ => rfl
  have G_fB : mg "best_filling" = some (.ref f_fB) := PySem.W.mg_of X G a_fB
  have F_fK := fun_mk (st := sLacking) l_fK c_fK k_fK
  have b_fK := F_fK.binds (ps := ["yard", "guests"]) fun _ _ _ _ _ _ us hl => match us, hl with | [_, _], _ => rfl
  have G_fK : mg "lacking_set" = some (.ref f_fK) := PySem.W.mg_of X G a_fK
  have F_fW := fun_mk (st := sWhole) l_fW c_fW k_fW
  have b_fW := F_fW.binds (ps := ["thing", "low", "beyond"]) fun _ _ _ _ _ _ us hl => match us, hl with | [_, _, _], _ => rfl
  have G_fW : mg "is_whole" = some (.ref f_fW) := PySem.W.mg_of X G a_fW
  have F_fG := fun_mk (st := sGuest) l_fG c_fG k_fG
  have b_fG := F_fG.binds (ps := ["yard", "thing"]) fun _ _ _ _ _ _ us hl => match us, hl with | [_, _], _ => rfl
  have G_fG : mg "is_guest" = some (.ref f_fG) := PySem.W.mg_of X G a_fG
  have F_sI := fun_mk (st := sStayInit) l_sI c_sI k_sI
  have b_sI := F_sI.binds (ps := ["self", "guest"]) fun _ _ _ _ _ _ us hl => match us, hl with | [_, _], _ => rfl
  have M_sI : Meth K CS "__init__" f_sI := ⟨a_sI, i_sI, k_sI⟩
  have F_sL := fun_mk (st := sStayLacking) l_sL c_sL k_sL
  have b_sL := F_sL.binds (ps := ["self"]) fun _ _ _ _ _ _ us hl => match us, hl with | [_], _ => rfl
  have M_sL : Meth K CS "lacking" f_sL := ⟨a_sL, i_sL, k_sL⟩
  have F_sA := fun_mk (st := sStayAs) l_sA c_sA k_sA
  have b_sA := F_sA.binds (ps := ["self", "turn"]) fun _ _ _ _ _ _ us hl => match us, hl with | [_, _], _ => rfl
  have M_sA : Meth K CS "as_guest" f_sA := ⟨a_sA, i_sA, k_sA⟩
  have F_hI := fun_mk (st := sHandInit) l_hI c_hI k_hI
  have b_hI := F_hI.binds (ps := ["self", "yard"]) fun _ _ _ _ _ _ us hl => match us, hl with | [_, _], _ => rfl
  have M_hI : Meth K CH "__init__" f_hI := ⟨a_hI, i_hI, k_hI⟩
  have F_hY := fun_mk (st := sHandYard) l_hY c_hY k_hY
  have b_hY := F_hY.binds (ps := ["self"]) fun _ _ _ _ _ _ us hl => match us, hl with | [_], _ => rfl
  have M_hY : Meth K CH "yard_now" f_hY := ⟨a_hY, i_hY, k_hY⟩
  have F_hO := fun_mk (st := sHandOpen) l_hO c_hO k_hO
  have b_hO := F_hO.binds (ps := ["self"]) fun _ _ _ _ _ _ us hl => match us, hl with | [_], _ => rfl
  have M_hO : Meth K CH "open_ones" f_hO := ⟨a_hO, i_hO, k_hO⟩
  have F_hF := fun_mk (st := sHandLeft) l_hF c_hF k_hF
  have b_hF := F_hF.binds (ps := ["self", "lines"]) fun _ _ _ _ _ _ us hl => match us, hl with | [_, _], _ => rfl
  have M_hF : Meth K CH "yard_left" f_hF := ⟨a_hF, i_hF, k_hF⟩
  have F_hR := fun_mk (st := sHandRoom) l_hR c_hR k_hR
  have b_hR := F_hR.binds (ps := ["self", "lines", "stays"]) fun _ _ _ _ _ _ us hl => match us, hl with | [_, _, _], _ => rfl
  have M_hR : Meth K CH "check_room" f_hR := ⟨a_hR, i_hR, k_hR⟩
  have F_hC := fun_mk (st := sHandCome) l_hC c_hC k_hC
  have b_hC := F_hC.binds (ps := ["self", "guest"]) fun _ _ _ _ _ _ us hl => match us, hl with | [_, _], _ => rfl
  have M_hC : Meth K CH "come" f_hC := ⟨a_hC, i_hC, k_hC⟩
  have F_hT := fun_mk (st := sHandTurn) l_hT c_hT k_hT
  have b_hT := F_hT.binds (ps := ["self"]) fun _ _ _ _ _ _ us hl => match us, hl with | [_], _ => rfl
  have M_hT : Meth K CH "turn" f_hT := ⟨a_hT, i_hT, k_hT⟩
  have F_hS := fun_mk (st := sHandStay) l_hS c_hS k_hS
  have b_hS := F_hS.binds (ps := ["self", "number"]) fun _ _ _ _ _ _ us hl => match us, hl with | [_, _], _ => rfl
  have M_hS : Meth K CH "stay_of" f_hS := ⟨a_hS, i_hS, k_hS⟩
  have F_hL := fun_mk (st := sHandLeave) l_hL c_hL k_hL
  have b_hL := F_hL.binds (ps := ["self", "number"]) fun _ _ _ _ _ _ us hl => match us, hl with | [_, _], _ => rfl
  have M_hL : Meth K CH "leave" f_hL := ⟨a_hL, i_hL, k_hL⟩
  have F_hG := fun_mk (st := sHandGot) l_hG c_hG k_hG
  have b_hG := F_hG.binds (ps := ["self", "number"]) fun _ _ _ _ _ _ us hl => match us, hl with | [_, _], _ => rfl
  have M_hG : Meth K CH "got" f_hG := ⟨a_hG, i_hG, k_hG⟩
  have F_hE := fun_mk (st := sHandRest) l_hE c_hE k_hE
  have b_hE := F_hE.binds (ps := ["self", "number"]) fun _ _ _ _ _ _ us hl => match us, hl with | [_, _], _ => rfl
  have M_hE : Meth K CH "rest" f_hE := ⟨a_hE, i_hE, k_hE⟩
  have F_eR := fun_mk (st := sNoRoomInit) l_eR c_eR k_eR
  have b_eR := F_eR.binds (ps := ["self", "some"]) fun _ _ _ _ _ _ us hl => match us, hl with | [_, _], _ => rfl
  have F_eN := fun_mk (st := sNoNumberInit) l_eN c_eN k_eN
  have b_eN := F_eN.binds (ps := ["self", "number"]) fun _ _ _ _ _ _ us hl => match us, hl with | [_, _], _ => rfl
  have F_lC := fun_mk (st := sCell) l_lC c_lC k_lC
  have b_lC := F_lC.binds (ps := ["_law_script", "_law_k"]) fun _ _ _ _ _ _ us hl => match us, hl with | [_, _], _ => rfl
  have G_lC : mg "_law_cell_at" = some (.ref f_lC) := PySem.W.mg_of X G a_lC
  have F_lF := fun_mk (st := sFeed) l_lF c_lF k_lF
  have b_lF := F_lF.binds (ps := ["_law_cell"]) fun _ _ _ _ _ _ us hl => match us, hl with | [_], _ => rfl
  have G_lF : mg "_law_feed" = some (.ref f_lF) := PySem.W.mg_of X G a_lF
  have F_lD := fun_mk (st := sDigit) l_lD c_lD k_lD
  have b_lD := F_lD.binds (ps := ["_law_feed_here", "_law_many"]) fun _ _ _ _ _ _ us hl => match us, hl with | [_, _], _ => rfl
  have G_lD : mg "_law_digit" = some (.ref f_lD) := PySem.W.mg_of X G a_lD
  have F_lY := fun_mk (st := sLYard) l_lY c_lY k_lY
  have b_lY := F_lY.binds (ps := ["_law_feed_here"]) fun _ _ _ _ _ _ us hl => match us, hl with | [_], _ => rfl
  have G_lY : mg "_law_yard" = some (.ref f_lY) := PySem.W.mg_of X G a_lY
  have F_lG := fun_mk (st := sLGuest) l_lG c_lG k_lG
  have b_lG := F_lG.binds (ps := ["_law_feed_here", "_law_yard_here", "_law_now"]) fun _ _ _ _ _ _ us hl => match us, hl with | [_, _, _], _ => rfl
  have G_lG : mg "_law_guest" = some (.ref f_lG) := PySem.W.mg_of X G a_lG
  have F_lM := fun_mk (st := sLCome) l_lM c_lM k_lM
  have b_lM := F_lM.binds (ps := ["_law_hand", "_law_guest_here"]) fun _ _ _ _ _ _ us hl => match us, hl with | [_, _], _ => rfl
  have G_lM : mg "_law_come" = some (.ref f_lM) := PySem.W.mg_of X G a_lM
  have F_lL := fun_mk (st := sLLeft) l_lL c_lL k_lL
  have b_lL := F_lL.binds (ps := ["_law_hand", "_law_number"]) fun _ _ _ _ _ _ us hl => match us, hl with | [_, _], _ => rfl
  have G_lL : mg "_law_left" = some (.ref f_lL) := PySem.W.mg_of X G a_lL
  have F_lO := fun_mk (st := sLGoes) l_lO c_lO k_lO
  have b_lO := F_lO.binds (ps := ["_law_hand", "_law_number", "_law_got"]) fun _ _ _ _ _ _ us hl => match us, hl with | [_, _, _], _ => rfl
  have G_lO : mg "_law_goes" = some (.ref f_lO) := PySem.W.mg_of X G a_lO
  have F_lA := fun_mk (st := sLaw) l_lA c_lA k_lA
  have b_lA := F_lA.binds (ps := ["_law_script"]) fun _ _ _ _ _ _ us hl => match us, hl with | [_], _ => rfl
  have TN : TxNet K mg CN := ⟨C_CN, n_CN_ends, n_CN_left, n_CN_rows, m_CN, y_len, y_range, y_min⟩
  have TC : TxCrs K mg CC := ⟨C_CC, n_CC_turns, n_CC_guests, n_CC_goal, n_CC_net, n_CC_arcs, n_CC_sent, m_CC, y_len, y_range, y_enumerate, y_zip, y_sum⟩
  have TH : TxHand K mg CH CS := ⟨C_CH, n_CH_turns, n_CH_lines, n_CH_present, n_CH_stays, n_CH_given_so_far, C_CS, n_CS_guest, n_CS_given, n_CS_gone, y_len, y_enumerate, y_zip, y_tuple, y_max, y_dict⟩
  have TI : TxIs K mg := ⟨y_isinstance, y_int, y_bool, y_tuple, y_len, hbey⟩
  have TL : TxLaw K mg := ⟨y_len, y_range, y_int, y_tuple, y_max, y_min⟩
  have XR : OexC K CR := ⟨⟨nm_CR, q_CR, N_CR, bs_CR, _, sn_CR, sub_CR, ab_CR, col_CR, dd_CR, m0_CR, m1_CR, m2_CR, m3_CR, m5_CR, x_CR, rfl⟩, sa_CR, be_CR, ty_CR, kc_CR⟩
  have XN : OexC K CX := ⟨⟨nm_CX, q_CX, N_CX, bs_CX, _, sn_CX, sub_CX, ab_CX, col_CX, dd_CX, m0_CX, m1_CX, m2_CX, m3_CX, m5_CX, x_CX, rfl⟩, sa_CX, be_CX, ty_CX, kc_CX⟩
  have TE : TxErr K mg CY CR CX := ⟨m_CY, ⟨bs1, bs2, bs3⟩, XR, no_CR, XN, no_CX⟩
  have exm : ∀ {C : Addr}, PySem.W.subIn K (.ref C) (.ref CY) = some true → PySem.W.exmOne K (.ref C) (.ref CY) = some true := fun {C} s => PySem.W.exm_ref bye hy tyy s
  have TA : TxAsk K mg CY CG CT CR CX := ⟨y_isinstance, y_range, y_ValueError, m_CY, m_CG, m_CT, m_CR, m_CX, exm sy_CR, exm sy_CX, kg_CR, kt_CR, ks_CR, kv_CR, ks_CX, kv_CX,
    ⟨ga_CR, gg_CR, be_CR, hd_CR, cc_CR, cn, ct, ob_CR⟩, ⟨ga_CX, gg_CX, be_CX, hd_CX, cc_CX, cn, ct, ob_CX⟩, ⟨ga_CR, gg_CR, be_CR, hd_CR⟩, ⟨ga_CX, gg_CX, be_CX, hd_CX⟩, no_CR, no_CX⟩
  refine ⟨PySem.W.fnOf "law" "law" (defArgs sLaw) (defBody sLaw) (defScope sLaw) .none kV_lA dc_lA pm_lA an_lA cd_lA ct_lA, fun s v => .of_eq rfl, fun base _ _ => ?_⟩
  -- Net
  have xLay : C8.Met P w K mg base 1 CN "lay" (spLay CN) [] := ⟨_, _, _, [], C_CN, M_nL, ok_lay F_nL TN, b_nL, .nil⟩
  have xCome : C8.Met P w K mg base 1 CN "come_by" (spComeBy CN) [] := ⟨_, _, _, [], C_CN, M_nC, ok_comeby F_nC TN, b_nC, .nil⟩
  have xWay : C8.Met P w K mg base 1 CN "way_to" (spWayTo CN) [] := ⟨_, _, _, [], C_CN, M_nW, ok_wayto F_nW TN, b_nW, .nil⟩
  have xSentBy : C8.Met P w K mg base 1 CN "sent_by" (spSentBy CN) [] := ⟨_, _, _, [], C_CN, M_nB, ok_sentby F_nB TN, b_nB, .nil⟩
  have xSend : C8.Met P w K mg base 2 CN "send" (spSend CN) [] := ⟨_, _, _, [], C_CN, M_nS, ok_send F_nS TN xCome xWay, b_nS, .nil⟩
  have xNet : C8.Mak P w K mg base 1 "Net" CN (spNetInit CN) [] := ⟨_, _, _, [], ⟨mk_CN, a_nI, i_nI, kc_CN⟩, ok_netinit F_nI TN, m_CN, b_nI, .nil⟩
  -- Course
  have xPlace : C8.Met P w K mg base 1 CC "place_of" (spPlace CC) [] := ⟨_, _, _, [], C_CC, M_cP, ok_place F_cP TC, b_cP, .nil⟩
  have xLaid : C8.Met P w K mg base 2 CC "laid_for" (spLaid CN CC) [] := ⟨_, _, _, [], C_CC, M_cD, ok_laid F_cD TC xLay xPlace, b_cD, .nil⟩
  have xCourse : C8.Mak P w K mg base 3 "Course" CC (spCrsInit CN CC) [] := ⟨_, _, _, [], ⟨mk_CC, a_cI, i_cI, kc_CC⟩, ok_crsinit F_cI TC xNet xLay xSend xPlace xLaid, m_CC, b_cI, .nil⟩
  have xLack : C8.Met P w K mg base 1 CC "lack" (spLack CN CC) [] := ⟨_, _, _, [], C_CC, M_cL, ok_lack F_cL TC, b_cL, .nil⟩
  have xReached : C8.Met P w K mg base 2 CC "reached" (spReached CN CC) [] := ⟨_, _, _, [], C_CC, M_cR, ok_reached F_cR TC xCome, b_cR, .nil⟩
  have xFilling : C8.Met P w K mg base 2 CC "filling" (spFilling CN CC) [] := ⟨_, _, _, [], C_CC, M_cF, ok_filling F_cF TC xSentBy, b_cF, .nil⟩
  have xLeast : C8.Cal P w K mg base 5 "least_lack" spLeast [] := ⟨_, _, _, [], ok_least F_fL xCourse xLack, G_fL, k_fL, b_fL, .nil⟩
  have xBest : C8.Cal P w K mg base 5 "best_filling" spBest [] := ⟨_, _, _, [], ok_best F_fB xCourse xFilling, G_fB, k_fB, b_fB, .nil⟩
  have xLacking : C8.Cal P w K mg base 5 "lacking_set" spLacking [] := ⟨_, _, _, [], ok_lacking F_fK xCourse xReached, G_fK, k_fK, b_fK, .nil⟩
  -- is_whole, is_guest
  have xWhole : C8.Cal P w K mg base 1 "is_whole" spWhole [] := ⟨_, _, _, [], ok_whole F_fW TI, G_fW, k_fW, b_fW, .nil⟩
  have xIsGuest : C8.Cal P w K mg base 2 "is_guest" spIsGuest [] := ⟨_, _, _, [], ok_isguest F_fG TI xWhole, G_fG, k_fG, b_fG, .nil⟩
  -- Stay
  have xStay : C8.Mak P w K mg base 1 "Stay" CS (spStayInit CS) [] := ⟨_, _, _, [], ⟨mk_CS, a_sI, i_sI, kc_CS⟩, ok_stayinit F_sI TH, m_CS, b_sI, .nil⟩
  have xLacks : C8.Met P w K mg base 1 CS "lacking" (spLacks CS) [] := ⟨_, _, _, [], C_CS, M_sL, ok_lacks F_sL TH, b_sL, .nil⟩
  have xAs : C8.Met P w K mg base 2 CS "as_guest" (spAsGuest CS) [] := ⟨_, _, _, [], C_CS, M_sA, ok_asguest F_sA TH xLacks, b_sA, .nil⟩
  -- Hand
  have xHand : C8.Mak P w K mg base 1 "Hand" CH (spHandInit CH CS) [] := ⟨_, _, _, [], ⟨mk_CH, a_hI, i_hI, kc_CH⟩, ok_handinit F_hI TH, m_CH, b_hI, .nil⟩
  have xYard : C8.Met P w K mg base 1 CH "yard_now" (spYardNow CH CS) [] := ⟨_, _, _, [], C_CH, M_hY, ok_yardnow F_hY TH, b_hY, .nil⟩
  have xOpen : C8.Met P w K mg base 2 CH "open_ones" (spOpen CH CS) [] := ⟨_, _, _, [], C_CH, M_hO, ok_open F_hO TH xLacks, b_hO, .nil⟩
  have xLeft : C8.Met P w K mg base 1 CH "yard_left" (spLeft CH) [] := ⟨_, _, _, [], C_CH, M_hF, ok_left F_hF TH, b_hF, .nil⟩
  have xNoRoom : MakX P w K mg base 1 "NoRoom" CR (spXInit CR "some") := ⟨_, _, _, XR, a_eR, t_eR, ok_roominit F_eR TE, m_CR, b_eR⟩
  have xNoNumber : MakX P w K mg base 1 "NoNumber" CX (spXInit CX "number") := ⟨_, _, _, XN, a_eN, t_eN, ok_numinit F_eN TE, m_CX, b_eN⟩
  have xRoom : MetN P w K mg base 6 CH "check_room" (spRoom CH CS CR) := ⟨_, _, _, C_CH, M_hR, ok_room F_hR TH xLacks xAs xLeft xLeast xLacking xNoRoom, b_hR⟩
  have xHCome : MetN P w K mg base 7 CH "come" (spCome CH CS CR) := ⟨_, _, _, C_CH, M_hC, ok_come F_hC TH xYard xIsGuest xStay xRoom, b_hC⟩
  have xTurn : C8.Met P w K mg base 6 CH "turn" (spTurn CH CS) [] := ⟨_, _, _, [], C_CH, M_hT, ok_turn F_hT TH xOpen xAs xLeft xBest, b_hT, .nil⟩
  have xStayOf : C8.Met P w K mg base 1 CH "stay_of" (spStayOf CH) [] := ⟨_, _, _, [], C_CH, M_hS, ok_stayof F_hS TH, b_hS, .nil⟩
  have xLeave : MetN P w K mg base 3 CH "leave" (spLeave CH CS CX) := ⟨_, _, _, C_CH, M_hL, ok_leave F_hL TH xStayOf xNoNumber, b_hL⟩
  have xGot : C8.Met P w K mg base 2 CH "got" (spGot CH CS) [] := ⟨_, _, _, [], C_CH, M_hG, ok_got F_hG TH xStayOf, b_hG, .nil⟩
  have xRest : C8.Met P w K mg base 2 CH "rest" (spRest CH CS) [] := ⟨_, _, _, [], C_CH, M_hE, ok_rest F_hE xStayOf xLacks, b_hE, .nil⟩
  -- the law
  have xCell : C8.Cal P w K mg base 1 "_law_cell_at" (spCell K) [] := ⟨_, _, _, [], ok_cell F_lC TL, G_lC, k_lC, b_lC, .nil⟩
  have xFeed : C8.Cal P w K mg base 1 "_law_feed" spFeed [] := ⟨_, _, _, [], ok_feed F_lF TL, G_lF, k_lF, b_lF, .nil⟩
  have xDigit : C8.Cal P w K mg base 1 "_law_digit" spDigit [] := ⟨_, _, _, [], ok_digit F_lD, G_lD, k_lD, b_lD, .nil⟩
  have xLYard : C8.Cal P w K mg base 2 "_law_yard" spLYard [] := ⟨_, _, _, [], ok_lyard F_lY TL xDigit, G_lY, k_lY, b_lY, .nil⟩
  have xLGuest : C8.Cal P w K mg base 2 "_law_guest" spLGuest [] := ⟨_, _, _, [], ok_lguest F_lG TL xDigit, G_lG, k_lG, b_lG, .nil⟩
  have xLCome : C8.Cal P w K mg base 8 "_law_come" (spLCome CH CS) [] := ⟨_, _, _, [], ok_lcome F_lM TA xHCome, G_lM, k_lM, b_lM, .nil⟩
  have xLLeft : C8.Cal P w K mg base 4 "_law_left" (spLLeft CH CS) [] := ⟨_, _, _, [], ok_lleft F_lL TA xLeave, G_lL, k_lL, b_lL, .nil⟩
  have xLGoes : C8.Cal P w K mg base 5 "_law_goes" (spGoes CH CS) [] := ⟨_, _, _, [], ok_lgoes F_lO xGot xRest xOpen xLLeft, G_lO, k_lO, b_lO, .nil⟩
  exact ok_law F_lA TL xCell xFeed xLYard xLGuest xLCome xLGoes xHand xTurn xGot xOpen
/-- the law's end, with what the top has left of the names that the view doesn't see -/
theorem walk_ofX {l : PySem.W.OpenLaw} {n k : Nat} {q : Program} {loose : List Str} {XP : (Str → Option Value) → Heap → Prop} {YP : World → Heap → Prop} {d : DefRec} {K : Params → PySem.W.Frag} {sp : World → Sp} {x : Str}
    (hn : l.most = some n) (hn2 : n ≤ sizeLine) (hdf : d.params.defaults = []) (hr : Room k callerA) (hY : ∀ (w : World) (h : Heap), YP w h → (K w.params).In h)
    (F : ∀ (w : World) (mg : Str → Option Value) (fa : Addr) (h : Heap), (K w.params).In h → h.Ns mainGlobals mg → mg d.name = some (.ref fa) → XP mg h →
      ∃ fd : FuncData, (∀ (s : Shared) (u : Value), BindsTo s fd ⟨[u], []⟩ [(x, u)]) ∧ ∀ base : Heap, (K w.params).In base → base.Ns mainGlobals mg → FnOk l.prog w (K w.params) mg base CX0 k fa fd [x] (sp w))
    (hsp : ∀ (w : World) (H : Hp) (a : Addr) (ns : List Int), SqL (K w.params) H a (ns.map V.int) → sp w [.ref a] H (fun v _ => v = .bl true) fun _ _ _ => False) :
    PySem.W.WalkO q loose XP YP l.row.toRowW d [] (fun f vs => PySem.call f vs) := by
  refine Att.attach_call hn hdf fun w s₀ s₁ mg mb fa o pm cd doc a vs ns G Y ho hd hcd hmg hobj hints hlen hg => ?_
  have KX := hY w _ Y
  obtain ⟨fd, hb, hF⟩ := F w mg fa _ KX G.T.g hmg G.X
  exact law_call KX G.T.g G.T.b G.T.builtins G.T.nolimit hg hobj hints (Nat.le_trans hlen hn2) hr hF hb (fun H _ hS => hsp w H a ns hS) fun _ _ _ z => z
end Cy
end
open PySem PySem.W PyProof.Rows in
open_top head for PySem.Challenge.rw_chargeyard_k63_who_leaves
namespace Cy
open PySem L2 NM
theorem bey_of {p : Program} {mg : Str → Option Value} {h : Heap} (x : PySem.W.XL p [((Str.ofString "BEYOND"), PySem.W.WData.int 1000000000000000000000000000000)] mg h) : ∃ t, mg "BEYOND" = some (.int (10 ^ 30) t) := by
  obtain ⟨v, e, r⟩ := x.2.val _ (List.mem_singleton.mpr rfl)
  have t30 : (10 : Int) ^ 30 = 1000000000000000000000000000000 := by decide +kernel
  rw [t30]
  cases r
  exact ⟨_, e⟩
end Cy
open PySem PySem.W PyProof.Rows in
set_option maxRecDepth 100000 in
set_option maxHeartbeats 0 in
theorem PySem.Challenge.cw_chargeyard_k63_who_leaves_holds : PySem.Challenge.rw_chargeyard_k63_who_leaves.Holds := by
  refine head ?_
  refine Cy.walk_ofX (l := PySem.Challenge.rw_chargeyard_k63_who_leaves) (n := 63) (k := 9) (x := "_law_script") (sp := fun w => Cy.spLaw _) rfl (by decide) rfl ⟨rfl, by decide, by decide⟩ (fun w h Y => PySem.W.kIn_of Y) ?F (fun _ _ a ns hS => ⟨a, ns, rfl, hS, fun _ => rfl⟩)
  case F =>
    intro w mg fa h KX G hmg hX
    have hbey : ∃ t, mg "BEYOND" = some (.int (10 ^ 30) t) := Cy.bey_of hX
    refine' Cy.cy_all KX G hmg hbey ?g_CN ?g_CC ?g_CS ?g_CH ?g_CY ?g_CG ?g_CT ?g_CR ?g_CX ?a_nI ?i_nI ?l_nI ?c_nI ?k_nI ?a_nL ?i_nL ?l_nL ?c_nL ?k_nL ?a_nC ?i_nC ?l_nC ?c_nC ?k_nC ?a_nW ?i_nW ?l_nW ?c_nW ?k_nW ?a_nS ?i_nS ?l_nS ?c_nS ?k_nS ?a_nB ?i_nB ?l_nB ?c_nB ?k_nB ?a_cI ?i_cI ?l_cI ?c_cI ?k_cI ?a_cP ?i_cP ?l_cP ?c_cP ?k_cP ?a_cD ?i_cD ?l_cD ?c_cD ?k_cD ?a_cL ?i_cL ?l_cL ?c_cL ?k_cL ?a_cF ?i_cF ?l_cF ?c_cF ?k_cF ?a_cR ?i_cR ?l_cR ?c_cR ?k_cR ?a_fL ?l_fL ?c_fL ?k_fL ?a_fB ?l_fB ?c_fB ?k_fB ?a_fK ?l_fK ?c_fK ?k_fK ?a_fW ?l_fW ?c_fW ?k_fW ?a_fG ?l_fG ?c_fG ?k_fG ?a_sI ?i_sI ?l_sI ?c_sI ?k_sI ?a_sL ?i_sL ?l_sL ?c_sL ?k_sL ?a_sA ?i_sA ?l_sA ?c_sA ?k_sA ?a_hI ?i_hI ?l_hI ?c_hI ?k_hI ?a_hY ?i_hY ?l_hY ?c_hY ?k_hY ?a_hO ?i_hO ?l_hO ?c_hO ?k_hO ?a_hF ?i_hF ?l_hF ?c_hF ?k_hF ?a_hR ?i_hR ?l_hR ?c_hR ?k_hR ?a_hC ?i_hC ?l_hC ?c_hC ?k_hC ?a_hT ?i_hT ?l_hT ?c_hT ?k_hT ?a_hS ?i_hS ?l_hS ?c_hS ?k_hS ?a_hL ?i_hL ?l_hL ?c_hL ?k_hL ?a_hG ?i_hG ?l_hG ?c_hG ?k_hG ?a_hE ?i_hE ?l_hE ?c_hE ?k_hE ?a_eR ?t_eR ?l_eR ?c_eR ?k_eR ?a_eN ?t_eN ?l_eN ?c_eN ?k_eN ?a_lC ?l_lC ?c_lC ?k_lC ?a_lF ?l_lF ?c_lF ?k_lF ?a_lD ?l_lD ?c_lD ?k_lD ?a_lY ?l_lY ?c_lY ?k_lY ?a_lG ?l_lG ?c_lG ?k_lG ?a_lM ?l_lM ?c_lM ?k_lM ?a_lL ?l_lL ?c_lL ?k_lL ?a_lO ?l_lO ?c_lO ?k_lO ?a_lA ?l_lA ?c_lA ?k_lA ?pg_CN ?hd_CN ?po_CN ?sa_CN ?mk_CN ?kc_CN ?n_CN_ends ?n_CN_left ?n_CN_rows ?pg_CC ?hd_CC ?po_CC ?sa_CC ?mk_CC ?kc_CC ?n_CC_turns ?n_CC_guests ?n_CC_goal ?n_CC_net ?n_CC_arcs ?n_CC_sent ?pg_CS ?hd_CS ?po_CS ?sa_CS ?mk_CS ?kc_CS ?n_CS_guest ?n_CS_given ?n_CS_gone ?pg_CH ?hd_CH ?po_CH ?sa_CH ?mk_CH ?kc_CH ?n_CH_turns ?n_CH_lines ?n_CH_present ?n_CH_stays ?n_CH_given_so_far ?z_len ?z_range ?z_min ?z_max ?z_enumerate ?z_zip ?z_sum ?z_isinstance ?z_int ?z_bool ?z_tuple ?z_dict ?z_ValueError ?x_CR ?sa_CR ?be_CR ?ty_CR ?kc_CR ?ga_CR ?gg_CR ?hd_CR ?cc_CR ?ob_CR ?sy_CR ?kv_CR ?ks_CR ?x_CX ?sa_CX ?be_CX ?ty_CX ?kc_CX ?ga_CX ?gg_CX ?hd_CX ?cc_CX ?ob_CX ?sy_CX ?kv_CX ?ks_CX ?no_CR ?no_CX ?kg_CR ?kt_CR ?cn ?ct ?bye ?hy ?tyy ?bs1 ?bs2 ?bs3
    (case g_CN => k_is)
    (case g_CC => k_is)
    (case g_CS => k_is)
    (case g_CH => k_is)
    (case g_CY => k_is)
    (case g_CG => k_is)
    (case g_CT => k_is)
    (case g_CR => k_is)
    (case g_CX => k_is)
    (case a_nI => k_is)
    (case i_nI => k_is)
    (case l_nI => k_is)
    (case c_nI => k_is)
    (case k_nI => k_is)
    (case a_nL => k_is)
    (case i_nL => k_is)
    (case l_nL => k_is)
    (case c_nL => k_is)
    (case k_nL => k_is)
    (case a_nC => k_is)
    (case i_nC => k_is)
    (case l_nC => k_is)
    (case c_nC => k_is)
    (case k_nC => k_is)
    (case a_nW => k_is)
    (case i_nW => k_is)
    (case l_nW => k_is)
    (case c_nW => k_is)
    (case k_nW => k_is)
    (case a_nS => k_is)
    (case i_nS => k_is)
    (case l_nS => k_is)
    (case c_nS => k_is)
    (case k_nS => k_is)
    (case a_nB => k_is)
    (case i_nB => k_is)
    (case l_nB => k_is)
    (case c_nB => k_is)
    (case k_nB => k_is)
    (case a_cI => k_is)
    (case i_cI => k_is)
    (case l_cI => k_is)
    (case c_cI => k_is)
    (case k_cI => k_is)
    (case a_cP => k_is)
    (case i_cP => k_is)
    (case l_cP => k_is)
    (case c_cP => k_is)
    (case k_cP => k_is)
    (case a_cD => k_is)
    (case i_cD => k_is)
    (case l_cD => k_is)
    (case c_cD => k_is)
    (case k_cD => k_is)
    (case a_cL => k_is)
    (case i_cL => k_is)
    (case l_cL => k_is)
    (case c_cL => k_is)
    (case k_cL => k_is)
    (case a_cF => k_is)
    (case i_cF => k_is)
    (case l_cF => k_is)
    (case c_cF => k_is)
    (case k_cF => k_is)
    (case a_cR => k_is)
    (case i_cR => k_is)
    (case l_cR => k_is)
    (case c_cR => k_is)
    (case k_cR => k_is)
    (case a_fL => k_is)
    (case l_fL => k_is)
    (case c_fL => k_is)
    (case k_fL => k_is)
    (case a_fB => k_is)
    (case l_fB => k_is)
    (case c_fB => k_is)
    (case k_fB => k_is)
    (case a_fK => k_is)
    (case l_fK => k_is)
    (case c_fK => k_is)
    (case k_fK => k_is)
    (case a_fW => k_is)
    (case l_fW => k_is)
    (case c_fW => k_is)
    (case k_fW => k_is)
    (case a_fG => k_is)
    (case l_fG => k_is)
    (case c_fG => k_is)
    (case k_fG => k_is)
    (case a_sI => k_is)
    (case i_sI => k_is)
    (case l_sI => k_is)
    (case c_sI => k_is)
    (case k_sI => k_is)
    (case a_sL => k_is)
    (case i_sL => k_is)
    (case l_sL => k_is)
    (case c_sL => k_is)
    (case k_sL => k_is)
    (case a_sA => k_is)
    (case i_sA => k_is)
    (case l_sA => k_is)
    (case c_sA => k_is)
    (case k_sA => k_is)
    (case a_hI => k_is)
    (case i_hI => k_is)
    (case l_hI => k_is)
    (case c_hI => k_is)
    (case k_hI => k_is)
    (case a_hY => k_is)
    (case i_hY => k_is)
    (case l_hY => k_is)
    (case c_hY => k_is)
    (case k_hY => k_is)
    (case a_hO => k_is)
    (case i_hO => k_is)
    (case l_hO => k_is)
    (case c_hO => k_is)
    (case k_hO => k_is)
    (case a_hF => k_is)
    (case i_hF => k_is)
    (case l_hF => k_is)
    (case c_hF => k_is)
    (case k_hF => k_is)
    (case a_hR => k_is)
    (case i_hR => k_is)
    (case l_hR => k_is)
    (case c_hR => k_is)
    (case k_hR => k_is)
    (case a_hC => k_is)
    (case i_hC => k_is)
    (case l_hC => k_is)
    (case c_hC => k_is)
    (case k_hC => k_is)
    (case a_hT => k_is)
    (case i_hT => k_is)
    (case l_hT => k_is)
    (case c_hT => k_is)
    (case k_hT => k_is)
    (case a_hS => k_is)
    (case i_hS => k_is)
    (case l_hS => k_is)
    (case c_hS => k_is)
    (case k_hS => k_is)
    (case a_hL => k_is)
    (case i_hL => k_is)
    (case l_hL => k_is)
    (case c_hL => k_is)
    (case k_hL => k_is)
    (case a_hG => k_is)
    (case i_hG => k_is)
    (case l_hG => k_is)
    (case c_hG => k_is)
    (case k_hG => k_is)
    (case a_hE => k_is)
    (case i_hE => k_is)
    (case l_hE => k_is)
    (case c_hE => k_is)
    (case k_hE => k_is)
    (case a_eR => k_is)
    (case t_eR => k_is)
    (case l_eR => k_is)
    (case c_eR => k_is)
    (case k_eR => k_is)
    (case a_eN => k_is)
    (case t_eN => k_is)
    (case l_eN => k_is)
    (case c_eN => k_is)
    (case k_eN => k_is)
    (case a_lC => k_is)
    (case l_lC => k_is)
    (case c_lC => k_is)
    (case k_lC => k_is)
    (case a_lF => k_is)
    (case l_lF => k_is)
    (case c_lF => k_is)
    (case k_lF => k_is)
    (case a_lD => k_is)
    (case l_lD => k_is)
    (case c_lD => k_is)
    (case k_lD => k_is)
    (case a_lY => k_is)
    (case l_lY => k_is)
    (case c_lY => k_is)
    (case k_lY => k_is)
    (case a_lG => k_is)
    (case l_lG => k_is)
    (case c_lG => k_is)
    (case k_lG => k_is)
    (case a_lM => k_is)
    (case l_lM => k_is)
    (case c_lM => k_is)
    (case k_lM => k_is)
    (case a_lL => k_is)
    (case l_lL => k_is)
    (case c_lL => k_is)
    (case k_lL => k_is)
    (case a_lO => k_is)
    (case l_lO => k_is)
    (case c_lO => k_is)
    (case k_lO => k_is)
    (case a_lA => k_is)
    (case l_lA => k_is)
    (case c_lA => k_is)
    (case k_lA => k_is)
    (case pg_CN => k_is)
    (case hd_CN => k_is)
    (case po_CN => k_is)
    (case sa_CN => k_is)
    (case mk_CN => k_is)
    (case kc_CN => k_is)
    (case n_CN_ends => k_is)
    (case n_CN_left => k_is)
    (case n_CN_rows => k_is)
    (case pg_CC => k_is)
    (case hd_CC => k_is)
    (case po_CC => k_is)
    (case sa_CC => k_is)
    (case mk_CC => k_is)
    (case kc_CC => k_is)
    (case n_CC_turns => k_is)
    (case n_CC_guests => k_is)
    (case n_CC_goal => k_is)
    (case n_CC_net => k_is)
    (case n_CC_arcs => k_is)
    (case n_CC_sent => k_is)
    (case pg_CS => k_is)
    (case hd_CS => k_is)
    (case po_CS => k_is)
    (case sa_CS => k_is)
    (case mk_CS => k_is)
    (case kc_CS => k_is)
    (case n_CS_guest => k_is)
    (case n_CS_given => k_is)
    (case n_CS_gone => k_is)
    (case pg_CH => k_is)
    (case hd_CH => k_is)
    (case po_CH => k_is)
    (case sa_CH => k_is)
    (case mk_CH => k_is)
    (case kc_CH => k_is)
    (case n_CH_turns => k_is)
    (case n_CH_lines => k_is)
    (case n_CH_present => k_is)
    (case n_CH_stays => k_is)
    (case n_CH_given_so_far => k_is)
    (case z_len => k_is)
    (case z_range => k_is)
    (case z_min => k_is)
    (case z_max => k_is)
    (case z_enumerate => k_is)
    (case z_zip => k_is)
    (case z_sum => k_is)
    (case z_isinstance => k_is)
    (case z_int => k_is)
    (case z_bool => k_is)
    (case z_tuple => k_is)
    (case z_dict => k_is)
    (case z_ValueError => k_is)
    (case x_CR => k_is)
    (case sa_CR => k_is)
    (case be_CR => k_is)
    (case ty_CR => k_is)
    (case kc_CR => k_is)
    (case ga_CR => k_is)
    (case gg_CR => k_is)
    (case hd_CR => k_is)
    (case cc_CR => k_is)
    (case ob_CR => k_is)
    (case sy_CR => k_is)
    (case kv_CR => kit_is)
    (case ks_CR => kit_is)
    (case x_CX => k_is)
    (case sa_CX => k_is)
    (case be_CX => k_is)
    (case ty_CX => k_is)
    (case kc_CX => k_is)
    (case ga_CX => k_is)
    (case gg_CX => k_is)
    (case hd_CX => k_is)
    (case cc_CX => k_is)
    (case ob_CX => k_is)
    (case sy_CX => k_is)
    (case kv_CX => kit_is)
    (case ks_CX => kit_is)
    (case no_CR => k_is)
    (case no_CX => k_is)
    (case kg_CR => kit_is)
    (case kt_CR => kit_is)
    (case cn => k_is)
    (case ct => k_is)
    (case bye => k_is)
    (case hy => k_is)
    (case tyy => k_is)
    (case bs1 => k_is)
    (case bs2 => k_is)
    (case bs3 => k_is)
#print axioms PySem.Challenge.cw_chargeyard_k63_who_leaves_holds
