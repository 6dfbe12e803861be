import PyProof.Rows.All
import Wide.All
import OpenK.AllK
import Wide.FinOn
import HandS.ForMost
import HandS.TupAny
import HandS.IsInst
import HandS.Conv
import HandS.Deep
import HandS.TupSets
import KE.SortUse
import KE.KTupSum
import PySem.Challenge.RW_taprows_k52_whole_parity_of_cycles
/-! Cycles of a permutation of the numbers below N; a change by one transposition makes one cycle more or less. Plain Lean. -/
namespace K52
def it (f : Nat → Nat) : Nat → Nat → Nat
  | 0, x => x
  | k + 1, x => it f k (f x)
theorem it_add (f : Nat → Nat) : ∀ (j k x : Nat), it f (j + k) x = it f k (it f j x)
  | 0, k, x => by rw [Nat.zero_add]; rfl
  | j + 1, k, x => by
    rw [Nat.add_right_comm]
    exact it_add f j k (f x)
theorem it_succ (f : Nat → Nat) (k x : Nat) : it f (k + 1) x = f (it f k x) := it_add f k 1 x
def Re (f : Nat → Nat) (x y : Nat) : Prop := ∃ k, it f k x = y
theorem Re.refl {f : Nat → Nat} {x : Nat} : Re f x x := ⟨0, rfl⟩
theorem Re.step {f : Nat → Nat} {x : Nat} : Re f x (f x) := ⟨1, rfl⟩
theorem Re.trans {f : Nat → Nat} {x y z : Nat} : Re f x y → Re f y z → Re f x z := fun ⟨j, a⟩ ⟨k, b⟩ => ⟨j + k, by rw [it_add, a, b]⟩
/-- a set that is closed under f holds all that is reached -/
theorem Re.closed {f : Nat → Nat} {S : Nat → Prop} (h : ∀ x, S x → S (f x)) {x y : Nat} (hx : S x) : Re f x y → S y := fun ⟨k, e⟩ => by
  subst e
  induction k generalizing x with
  | zero => exact hx
  | succ k ih => exact ih (h x hx) ⟨k, rfl⟩
structure Pm (f : Nat → Nat) (N : Nat) : Prop where
  lt : ∀ x, x < N → f x < N
  inj : ∀ x y, x < N → y < N → f x = f y → x = y
section
variable {f f' : Nat → Nat} {N a b x y : Nat}
theorem Pm.it_lt (p : Pm f N) (hx : x < N) : ∀ k, it f k x < N
  | 0 => hx
  | k + 1 => by
    rw [it_succ]
    exact p.lt _ (p.it_lt hx k)
theorem Pm.re_lt (p : Pm f N) (hx : x < N) : Re f x y → y < N := fun ⟨k, e⟩ => e ▸ p.it_lt hx k
theorem Pm.it_inj (p : Pm f N) (hx : x < N) (hy : y < N) : ∀ k, it f k x = it f k y → x = y
  | 0, e => e
  | k + 1, e => by
    rw [it_succ, it_succ] at e
    exact p.it_inj hx hy k (p.inj _ _ (p.it_lt hx k) (p.it_lt hy k) e)
theorem nodup_le : ∀ (N : Nat) (l : List Nat), l.Nodup → (∀ x ∈ l, x < N) → l.length ≤ N
  | 0, [], _, _ => Nat.le_refl 0
  | 0, x :: _, _, h => absurd (h x List.mem_cons_self) (Nat.not_lt_zero _)
  | N + 1, l, d, h => by
    by_cases hm : N ∈ l
    · have h1 := List.length_erase_of_mem hm
      have h2 := nodup_le N (l.erase N) (d.erase N) fun x hx => by
        have q := (d.mem_erase_iff).mp hx
        have := h x q.2
        omega
      omega
    · have h2 := nodup_le N l d fun x hx => by
        have := h x hx
        have : x ≠ N := fun e => hm (e ▸ hx)
        omega
      omega
/-- everything comes back -/
theorem Pm.back (p : Pm f N) (hx : x < N) : ∃ k, it f (k + 1) x = x := by
  apply Classical.byContradiction
  intro hn
  have hne : ∀ k, it f (k + 1) x ≠ x := fun k e => hn ⟨k, e⟩
  have hd : ((List.range (N + 1)).map fun i => it f i x).Nodup := by
    rw [List.Nodup, List.pairwise_map]
    refine (List.pairwise_lt_range (n := N + 1)).imp ?_
    intro i j hij e
    obtain ⟨d, rfl⟩ : ∃ d, j = (d + 1) + i := ⟨j - i - 1, by omega⟩
    rw [it_add] at e
    exact hne d (p.it_inj hx (p.it_lt hx _) i e).symm
  have := nodup_le N _ hd fun y hy => by
    obtain ⟨i, _, rfl⟩ := List.mem_map.mp hy
    exact p.it_lt hx i
  rw [List.length_map, List.length_range] at this
  omega
theorem it_mul {k : Nat} (e : it f k x = x) : ∀ m, it f (m * k) x = x
  | 0 => by rw [Nat.zero_mul]; rfl
  | m + 1 => by rw [Nat.succ_mul, it_add, it_mul e m, e]
theorem Pm.symm (p : Pm f N) (hx : x < N) : Re f x y → Re f y x := fun ⟨k, e⟩ => by
  obtain ⟨L, hL⟩ := p.back hx
  have h := it_mul hL k
  have hk : k * (L + 1) = k + k * L := by rw [Nat.mul_add, Nat.mul_one, Nat.add_comm]
  rw [hk, it_add, e] at h
  exact ⟨_, h⟩
/-- the least number with a property -/
theorem least {P : Nat → Prop} : ∀ {n : Nat}, P n → ∃ m, P m ∧ ∀ k, k < m → ¬ P k := by
  intro n
  refine Nat.strongRecOn n fun n ih h => ?_
  by_cases q : ∃ k, k < n ∧ P k
  · obtain ⟨k, hk, pk⟩ := q
    exact ih k hk pk
  · exact ⟨n, h, fun k hk pk => q ⟨k, hk, pk⟩⟩

/-- f' is f behind the exchange of a and b -/
structure Sw (f f' : Nat → Nat) (N a b : Nat) : Prop where
  p : Pm f N
  ha : a < N
  hb : b < N
  ne : a ≠ b
  ea : f' a = f b
  eb : f' b = f a
  eo : ∀ x, x ≠ a → x ≠ b → f' x = f x
theorem Sw.pm (s : Sw f f' N a b) : Pm f' N := by
  have key : ∀ x, x < N → ∃ y, y < N ∧ f' x = f y ∧ ((x = a ∧ y = b) ∨ (x = b ∧ y = a) ∨ (x ≠ a ∧ x ≠ b ∧ y = x)) := fun x hx => by
    by_cases h1 : x = a
    · exact ⟨b, s.hb, h1 ▸ s.ea, .inl ⟨h1, rfl⟩⟩
    · by_cases h2 : x = b
      · exact ⟨a, s.ha, h2 ▸ s.eb, .inr (.inl ⟨h2, rfl⟩)⟩
      · exact ⟨x, hx, s.eo x h1 h2, .inr (.inr ⟨h1, h2, rfl⟩)⟩
  refine ⟨fun x hx => ?_, fun x y hx hy e => ?_⟩
  · obtain ⟨y, hy, e, _⟩ := key x hx
    rw [e]
    exact s.p.lt y hy
  · obtain ⟨x', hx', ex, cx⟩ := key x hx
    obtain ⟨y', hy', ey, cy⟩ := key y hy
    have e' : x' = y' := s.p.inj _ _ hx' hy' (by rw [← ex, ← ey, e])
    have := s.ne
    omega
theorem Sw.back (s : Sw f f' N a b) : Sw f' f N a b :=
  ⟨s.pm, s.ha, s.hb, s.ne, s.eb.symm, s.ea.symm, fun x h1 h2 => (s.eo x h1 h2).symm⟩
theorem Sw.turn (s : Sw f f' N a b) : Sw f f' N b a :=
  ⟨s.p, s.hb, s.ha, s.ne.symm, s.eb, s.ea, fun x h1 h2 => s.eo x h2 h1⟩
/-- one cycle becomes two -/
theorem Sw.split (s : Sw f f' N a b) (h : Re f a b) : ¬ Re f' a b := by
  obtain ⟨n, hn⟩ := h
  obtain ⟨k, hk, hm⟩ := least (P := fun k => it f k a = b) hn
  have k1 : 1 ≤ k := by
    rcases Nat.eq_zero_or_pos k with e | e
    · rw [e] at hk
      exact absurd hk s.ne
    · exact e
  have na : ∀ i, 1 ≤ i → i ≤ k → it f i a ≠ a := fun i h1 h2 e => by
    have e2 : it f (i + (k - i)) a = it f (k - i) a := by rw [it_add, e]
    rw [show i + (k - i) = k by omega, hk] at e2
    exact hm (k - i) (by omega) e2.symm
  have cl : ∀ y, (∃ i, 1 ≤ i ∧ i ≤ k ∧ it f i a = y) → ∃ i, 1 ≤ i ∧ i ≤ k ∧ it f i a = f' y := fun y ⟨i, h1, h2, e⟩ => by
    by_cases hi : i = k
    · rw [hi, hk] at e
      refine ⟨1, Nat.le_refl 1, k1, ?_⟩
      rw [← e, s.eb]
      rfl
    · refine ⟨i + 1, by omega, by omega, ?_⟩
      rw [it_succ, e]
      exact (s.eo y (fun z => na i h1 h2 (e.trans z)) (fun z => hm i (by omega) (e.trans z))).symm
  intro q
  have q' : Re f' b a := s.pm.symm s.ha q
  obtain ⟨i, h1, h2, e⟩ := Re.closed (S := fun y => ∃ i, 1 ≤ i ∧ i ≤ k ∧ it f i a = y) cl ⟨k, k1, Nat.le_refl k, hk⟩ q'
  exact na i h1 h2 e
/-- two cycles become one -/
theorem Sw.merge (s : Sw f f' N a b) (h : ¬ Re f a b) : Re f' a b := by
  obtain ⟨L0, hL0⟩ := s.p.back s.hb
  obtain ⟨L, hL, hm⟩ := least (P := fun k => it f (k + 1) b = b) hL0
  have hba : ∀ i, it f i b ≠ a := fun i e => h (s.p.symm s.hb ⟨i, e⟩)
  have key : ∀ i, i ≤ L → it f' (i + 1) a = it f (i + 1) b := by
    intro i
    induction i with
    | zero => intro _; exact s.ea
    | succ i ih =>
      intro hi
      rw [it_succ, ih (by omega), it_succ f (i + 1)]
      exact s.eo _ (hba _) (hm i (by omega))
  exact ⟨L + 1, (key L (Nat.le_refl L)).trans hL⟩
theorem Sw.up (s : Sw f f' N a b) (h : ¬ Re f a b) (hx : x < N) : Re f x y → Re f' x y := fun ⟨k, e⟩ => by
  have m := s.merge h
  have one : ∀ z, Re f' z (f z) := fun z => by
    by_cases h1 : z = a
    · rw [h1, ← s.eb]
      exact m.trans .step
    · by_cases h2 : z = b
      · rw [h2, ← s.ea]
        exact (s.pm.symm s.ha m).trans .step
      · rw [← s.eo z h1 h2]
        exact .step
  subst e
  induction k generalizing x with
  | zero => exact .refl
  | succ k ih => exact (one x).trans (ih (s.p.lt x hx) ⟨k, rfl⟩)
theorem Sw.down (s : Sw f f' N a b) (hx : x < N) : Re f' x y → Re f x y ∨ ((Re f a x ∨ Re f b x) ∧ (Re f a y ∨ Re f b y)) := fun ⟨k, e⟩ => by
  subst e
  induction k generalizing x with
  | zero => exact .inl .refl
  | succ k ih =>
    have i := ih (x := f' x) (s.pm.lt x hx) ⟨k, rfl⟩
    show Re f x (it f' k (f' x)) ∨ _
    by_cases h1 : x = a
    · subst h1
      refine .inr ⟨.inl .refl, ?_⟩
      rcases i with i | i
      · have e2 : Re f b (f' x) := by
          rw [s.ea]
          exact .step
        exact .inr (e2.trans i)
      · exact i.2
    · by_cases h2 : x = b
      · subst h2
        refine .inr ⟨.inr .refl, ?_⟩
        rcases i with i | i
        · have e2 : Re f a (f' x) := by
            rw [s.eb]
            exact .step
          exact .inl (e2.trans i)
        · exact i.2
      · have e := s.eo x h1 h2
        rcases i with i | i
        · exact .inl (Re.step.trans (by rw [← e]; exact i))
        · refine .inr ⟨?_, i.2⟩
          have q : Re f (f' x) x := by
            rw [e]
            exact s.p.symm hx .step
          exact i.1.imp (fun z => z.trans q) (fun z => z.trans q)
/-- x is the least of its cycle -/
def Mn (f : Nat → Nat) (x : Nat) : Prop := ∀ z, z < x → ¬ Re f z x
open Classical in
/-- the number of cycles -/
noncomputable def cnt (f : Nat → Nat) (N : Nat) : Nat := (List.range N).countP fun x => decide (Mn f x)
theorem countP_less {p q : Nat → Bool} {M : Nat} (hp : p M = true) : ∀ {l : List Nat}, l.Nodup → M ∈ l → (∀ x ∈ l, q x = (p x && decide (x ≠ M))) → l.countP p = l.countP q + 1
  | [], _, hm, _ => nomatch hm
  | x :: l, d, hm, hq => by
    have hd := List.nodup_cons.mp d
    rw [List.countP_cons, List.countP_cons]
    by_cases hx : x = M
    · have e : l.countP p = l.countP q := List.countP_congr fun y hy => by
        have hy' : y ≠ M := fun e => hd.1 (hx ▸ e ▸ hy)
        rw [hq y (List.mem_cons_of_mem _ hy)]
        simp [hy']
      have e2 : q x = false := by rw [hq x List.mem_cons_self]; simp [hx]
      rw [e, e2, hx, hp]
      simp
    · have ih := countP_less hp hd.2 ((List.mem_cons.mp hm).resolve_left fun e => hx e.symm) fun y hy => hq y (List.mem_cons_of_mem _ hy)
      have e2 : q x = p x := by rw [hq x List.mem_cons_self]; simp [hx]
      rw [ih, e2]
      omega
open Classical in
theorem Sw.least_lt (s : Sw f f' N a b) (h : ¬ Re f a b) {ma mb : Nat} (h1 : Re f a ma) (h2 : ∀ k, k < ma → ¬ Re f a k) (g1 : Re f b mb) (g2 : ∀ k, k < mb → ¬ Re f b k) (lt : ma < mb) : cnt f N = cnt f' N + 1 := by
  have hma := s.p.re_lt s.ha h1
  have hmb := s.p.re_lt s.hb g1
  have mnb : Mn f mb := fun z hz e => g2 z hz (g1.trans (s.p.symm (Nat.lt_trans hz hmb) e))
  have m := s.merge h
  have e1 : Re f' ma mb := ((s.up h hma (s.p.symm s.ha h1)).trans m).trans (s.up h s.hb g1)
  refine countP_less (M := mb) (decide_eq_true mnb) List.nodup_range (List.mem_range.mpr hmb) fun x hx => ?_
  have hx' := List.mem_range.mp hx
  have key : Mn f' x ↔ (Mn f x ∧ x ≠ mb) := by
    constructor
    · intro q
      refine ⟨fun z hz e => q z hz (s.up h (Nat.lt_trans hz hx') e), fun e => ?_⟩
      rw [e] at q
      exact q ma lt e1
    · rintro ⟨q, n⟩ z hz e
      rcases s.down (Nat.lt_trans hz hx') e with e | ⟨cz, cx⟩
      · exact q z hz e
      · rcases cx with cx | cx
        · have l1 : ¬ ma < x := fun w => q ma w ((s.p.symm s.ha h1).trans cx)
          rcases cz with cz | cz
          · exact q z hz ((s.p.symm s.ha cz).trans cx)
          · have l2 : ¬ z < mb := fun w => g2 z w cz
            omega
        · have l1 : ¬ mb < x := fun w => q mb w ((s.p.symm s.hb g1).trans cx)
          have l2 : ¬ x < mb := fun w => g2 x w cx
          omega
  by_cases w : Mn f' x
  · have := key.mp w
    simp [w, this.1, this.2]
  · by_cases w1 : Mn f x
    · have w2 : x = mb := Classical.byContradiction fun n => w (key.mpr ⟨w1, n⟩)
      subst w2
      simp [w]
    · simp [w, w1]
theorem Sw.fewer (s : Sw f f' N a b) (h : ¬ Re f a b) : cnt f N = cnt f' N + 1 := by
  obtain ⟨ma, h1, h2⟩ := least (P := Re f a) (n := a) .refl
  obtain ⟨mb, g1, g2⟩ := least (P := Re f b) (n := b) .refl
  have hma := s.p.re_lt s.ha h1
  rcases Nat.lt_trichotomy ma mb with lt | e | lt
  · exact s.least_lt h h1 h2 g1 g2 lt
  · subst e
    exact absurd (h1.trans (s.p.symm s.hb g1)) h
  · exact s.turn.least_lt (fun q => h (s.p.symm s.hb q)) g1 g2 h1 h2 lt
/-- THE CHANGE: one cycle more or one less -/
theorem Sw.one (s : Sw f f' N a b) : cnt f N = cnt f' N + 1 ∨ cnt f' N = cnt f N + 1 := by
  by_cases h : Re f a b
  · exact .inr (s.back.fewer (s.split h))
  · exact .inl (s.fewer h)
end
end K52
/-! States as rows of bits; the step of a table modulo 2 on the places of the states; the parity law. Plain Lean. -/
namespace K52
/-- the bits of i, n of them, the highest first -/
def bits : Nat → Nat → List Int
  | 0, _ => []
  | n + 1, i => bits n (i / 2) ++ [((i % 2 : Nat) : Int)]
theorem bits_length : ∀ n i, (bits n i).length = n
  | 0, _ => rfl
  | n + 1, i => by
    show (bits n (i / 2) ++ [_]).length = n + 1
    rw [List.length_append, bits_length n]
    rfl
theorem bits_snoc (n i b : Nat) (hb : b < 2) : bits n i ++ [(b : Int)] = bits (n + 1) (2 * i + b) := by
  show _ = bits n ((2 * i + b) / 2) ++ [(((2 * i + b) % 2 : Nat) : Int)]
  rw [show (2 * i + b) / 2 = i by omega, show (2 * i + b) % 2 = b by omega]
def pl (l : List Int) : Int := l.foldl (fun a b => a * 2 + b) 0
theorem pl_snoc (l : List Int) (b : Int) : pl (l ++ [b]) = pl l * 2 + b := by
  unfold pl
  rw [List.foldl_append]
  rfl
theorem pl_bits : ∀ n i, i < 2 ^ n → pl (bits n i) = (i : Int)
  | 0, i, h => by
    have : i = 0 := by
      rw [Nat.pow_zero] at h
      omega
    subst this
    rfl
  | n + 1, i, h => by
    show pl (bits n (i / 2) ++ [_]) = _
    rw [pl_snoc, pl_bits n (i / 2) (by rw [Nat.pow_succ] at h; omega)]
    omega
theorem bits_inj {n i j : Nat} (hi : i < 2 ^ n) (hj : j < 2 ^ n) (e : bits n i = bits n j) : i = j := by
  have h := congrArg pl e
  rw [pl_bits n i hi, pl_bits n j hj] at h
  omega
theorem div_mod_two (i n : Nat) : i % 2 ^ (n + 1) / 2 = i / 2 % 2 ^ n := by
  rw [Nat.pow_succ, Nat.mul_comm, Nat.mod_mul_right_div_self]
theorem mod_mod_two (i n : Nat) : i % 2 ^ (n + 1) % 2 = i % 2 := by
  rw [Nat.pow_succ, Nat.mul_comm, Nat.mod_mul_right_mod]
theorem bits_tail : ∀ n i, (bits (n + 1) i).drop 1 = bits n (i % 2 ^ n)
  | 0, i => rfl
  | n + 1, i => by
    show (bits (n + 1) (i / 2) ++ [_]).drop 1 = bits n (i % 2 ^ (n + 1) / 2) ++ [_]
    rw [List.drop_append_of_le_length (by rw [bits_length]; omega), bits_tail n, div_mod_two, mod_mod_two]
theorem bits_get : ∀ n i k, k < n → (bits n i)[k]? = some ((i / 2 ^ (n - 1 - k) % 2 : Nat) : Int)
  | 0, _, k, h => absurd h (Nat.not_lt_zero k)
  | n + 1, i, k, h => by
    show (bits n (i / 2) ++ [_])[k]? = _
    by_cases hk : k < n
    · rw [List.getElem?_append_left (by rw [bits_length]; exact hk), bits_get n (i / 2) k hk, Nat.div_div_eq_div_mul, ← Nat.pow_succ']
      rw [show (n - 1 - k).succ = n + 1 - 1 - k by omega]
    · have e : k = n := by omega
      subst e
      rw [List.getElem?_append_right (by rw [bits_length]; exact Nat.le_refl _), bits_length, Nat.sub_self]
      rw [show k + 1 - 1 - k = 0 by omega, Nat.pow_zero, Nat.div_one]
      rfl
theorem bits_head (n i : Nat) (h : i < 2 ^ (n + 1)) : (bits (n + 1) i)[0]? = some ((if i < 2 ^ n then 0 else 1 : Nat) : Int) := by
  rw [bits_get (n + 1) i 0 (by omega)]
  rw [show n + 1 - 1 - 0 = n by omega]
  have hp : 0 < 2 ^ n := Nat.pow_pos (by decide)
  rw [Nat.pow_succ] at h
  by_cases c : i < 2 ^ n
  · rw [if_pos c, Nat.div_eq_of_lt c]
  · rw [if_neg c]
    have e : i / 2 ^ n = 1 := by
      have h1 : 1 ≤ i / 2 ^ n := (Nat.le_div_iff_mul_le hp).mpr (by omega)
      have h2 : i / 2 ^ n < 2 := (Nat.div_lt_iff_lt_mul hp).mpr (by omega)
      omega
    rw [e]

/-! ### the step -/
/-- the place of the state behind the state at place i -/
def nx (h : Nat) (t : Nat → Nat) (i : Nat) : Nat := 2 * (i % h) + t i
/-- a table modulo 2 without clash, of 2 h states -/
structure Fair (h : Nat) (t : Nat → Nat) : Prop where
  pos : 0 < h
  lo : ∀ i, i < h → t i ≤ 1
  hi : ∀ i, i < h → t (i + h) = 1 - t i
section
variable {h : Nat} {t u : Nat → Nat}
theorem Fair.le (F : Fair h t) {i : Nat} (hi : i < 2 * h) : t i ≤ 1 := by
  by_cases c : i < h
  · exact F.lo i c
  · have e := F.hi (i - h) (by omega)
    rw [show i - h + h = i by omega] at e
    omega
theorem mod_lo {i : Nat} (c : i < h) : i % h = i := Nat.mod_eq_of_lt c
theorem mod_hi {i : Nat} (c : i < h) : (i + h) % h = i := by rw [Nat.add_mod_right, Nat.mod_eq_of_lt c]
theorem Fair.pm (F : Fair h t) : Pm (nx h t) (2 * h) := by
  refine ⟨fun x hx => ?_, fun x y hx hy e => ?_⟩
  · have h1 := Nat.mod_lt x F.pos
    have h2 := F.le hx
    unfold nx
    omega
  · have hx1 := F.le hx
    have hy1 := F.le hy
    unfold nx at e
    have e1 : x % h = y % h := by omega
    have e2 : t x = t y := by omega
    have cut : ∀ z, z < 2 * h → (z < h ∧ z % h = z) ∨ (∃ r, r < h ∧ z = r + h ∧ z % h = r) := fun z hz => by
      by_cases c : z < h
      · exact .inl ⟨c, mod_lo c⟩
      · refine .inr ⟨z - h, by omega, by omega, ?_⟩
        have := mod_hi (h := h) (i := z - h) (by omega)
        rw [show z - h + h = z by omega] at this
        exact this
    rcases cut x hx with ⟨a1, a2⟩ | ⟨r, r1, r2, r3⟩ <;> rcases cut y hy with ⟨b1, b2⟩ | ⟨q, q1, q2, q3⟩
    · omega
    · have k := F.hi q q1
      rw [← q2, ← e2, show x = q by omega] at k
      have := F.lo q q1
      omega
    · have k := F.hi r r1
      rw [← r2, e2, show y = r by omega] at k
      have := F.lo r r1
      omega
    · omega
/-- the entry pair at m changed -/
def fl (h m : Nat) (t : Nat → Nat) (i : Nat) : Nat := if i = m ∨ i = m + h then 1 - t i else t i
theorem Fair.flip (F : Fair h t) {m : Nat} (hm : m < h) : Fair h (fl h m t) := by
  refine ⟨F.pos, fun i hi => ?_, fun i hi => ?_⟩
  · have := F.lo i hi
    unfold fl
    split <;> omega
  · have h1 := F.lo i hi
    have h2 := F.hi i hi
    unfold fl
    by_cases c : i = m
    · rw [if_pos (by omega), if_pos (by omega), h2]
    · rw [if_neg (by omega), if_neg (by omega), h2]
theorem Fair.sw (F : Fair h t) {m : Nat} (hm : m < h) : Sw (nx h t) (nx h (fl h m t)) (2 * h) m (m + h) := by
  have h1 := F.lo m hm
  have h2 := F.hi m hm
  refine ⟨F.pm, by omega, by omega, by have := F.pos; omega, ?_, ?_, fun x n1 n2 => ?_⟩
  · unfold nx fl
    rw [if_pos (.inl rfl), mod_lo hm, mod_hi hm, h2]
  · unfold nx fl
    rw [if_pos (.inr rfl), mod_lo hm, mod_hi hm, h2]
    omega
  · unfold nx fl
    rw [if_neg (by omega)]
theorem it_congr {f g : Nat → Nat} {N : Nat} (p : Pm f N) (e : ∀ x, x < N → f x = g x) : ∀ k x, x < N → it f k x = it g k x
  | 0, _, _ => rfl
  | k + 1, x, hx => by
    show it f k (f x) = it g k (g x)
    rw [← e x hx]
    exact it_congr p e k (f x) (p.lt x hx)
open Classical in
theorem cnt_congr {f g : Nat → Nat} {N : Nat} (p : Pm f N) (e : ∀ x, x < N → f x = g x) : cnt f N = cnt g N := by
  unfold cnt
  refine List.countP_congr fun x hx => ?_
  have hx' := List.mem_range.mp hx
  have key : Mn f x ↔ Mn g x := by
    constructor
    · intro q z hz ⟨k, r⟩
      exact q z hz ⟨k, by rw [it_congr p e k z (by omega)]; exact r⟩
    · intro q z hz ⟨k, r⟩
      exact q z hz ⟨k, by rw [← it_congr p e k z (by omega)]; exact r⟩
  rw [decide_eq_true_iff, decide_eq_true_iff]
  exact key
/-- the sum of the first m entries -/
def sm (t : Nat → Nat) : Nat → Nat
  | 0 => 0
  | m + 1 => sm t m + t m
/-- t at the pairs below m, the pure cycle behind -/
def mx (h : Nat) (t : Nat → Nat) (m i : Nat) : Nat := if i % h < m then t i else if i < h then 0 else 1
theorem Fair.mixed (F : Fair h t) (m : Nat) : Fair h (mx h t m) := by
  refine ⟨F.pos, fun i hi => ?_, fun i hi => ?_⟩
  · have := F.lo i hi
    unfold mx
    split
    · exact this
    · omega
  · have h1 := F.lo i hi
    have h2 := F.hi i hi
    unfold mx
    rw [mod_lo hi, mod_hi hi]
    by_cases c : i < m
    · rw [if_pos c, if_pos c, h2]
    · rw [if_neg c, if_neg c, if_pos hi, if_neg (by omega)]
theorem Fair.parity (F : Fair h t) : ∀ m, m ≤ h → cnt (nx h (mx h t m)) (2 * h) % 2 = (cnt (nx h (mx h t 0)) (2 * h) + sm t m) % 2
  | 0, _ => rfl
  | m + 1, hm => by
    have ih := F.parity m (by omega)
    have hm' : m < h := by omega
    have h1 := F.lo m hm'
    have h2 := F.hi m hm'
    have agree : ∀ v : Nat → Nat, (∀ i, i < 2 * h → mx h t (m + 1) i = v i) → cnt (nx h (mx h t (m + 1))) (2 * h) = cnt (nx h v) (2 * h) := fun v e =>
      cnt_congr (F.mixed (m + 1)).pm fun x hx => by
        unfold nx
        rw [e x hx]
    have cut : ∀ i, i < 2 * h → i % h = m → i = m ∨ i = m + h := fun i hi e => by
      by_cases c : i < h
      · rw [mod_lo c] at e
        exact .inl e
      · have := mod_hi (h := h) (i := i - h) (by omega)
        rw [show i - h + h = i by omega] at this
        omega
    show _ = (cnt (nx h (mx h t 0)) (2 * h) + (sm t m + t m)) % 2
    by_cases c : t m = 0
    · rw [agree (mx h t m) fun i hi => ?_, ih, c]
      · omega
      · by_cases k : i % h = m
        · unfold mx
          rw [if_pos (by omega), if_neg (by omega)]
          rcases cut i hi k with e | e
          · rw [e, if_pos hm', c]
          · rw [e, if_neg (by omega), h2, c]
        · unfold mx
          by_cases k2 : i % h < m
          · rw [if_pos (by omega), if_pos k2]
          · rw [if_neg (by omega), if_neg k2]
    · have c1 : t m = 1 := by omega
      have s := ((F.mixed m).sw hm').one
      rw [agree (fl h m (mx h t m)) fun i hi => ?_]
      · rw [c1]
        omega
      · unfold fl
        by_cases k : i % h = m
        · rw [if_pos (cut i hi k)]
          unfold mx
          rw [if_pos (by omega), if_neg (by omega)]
          rcases cut i hi k with e | e
          · rw [e, if_pos hm', c1]
          · rw [e, if_neg (by omega), h2, c1]
        · rw [if_neg fun z => ?_]
          · unfold mx
            by_cases k2 : i % h < m
            · rw [if_pos (by omega), if_pos k2]
            · rw [if_neg (by omega), if_neg k2]
          · rcases z with z | z
            · exact k (by rw [z, mod_lo hm'])
            · exact k (by rw [z, mod_hi hm'])
/-! ### the pure cycle -/
/-- by a number of steps that brings all back -/
theorem it_mod {f : Nat → Nat} {n x : Nat} (e : it f n x = x) (k : Nat) : it f k x = it f (k % n) x := by
  have h := it_add f (k / n * n) (k % n) x
  rw [it_mul e (k / n), Nat.mul_comm, Nat.div_add_mod] at h
  exact h
open Classical in
theorem cnt_by {f : Nat → Nat} {N n : Nat} (p : Pm f N) (hn : 0 < n) (e : ∀ x, x < N → it f n x = x) : cnt f N = (List.range N).countP fun x => (List.range n).all fun k => decide (x ≤ it f k x) := by
  unfold cnt
  refine List.countP_congr fun x hx => ?_
  have hx' := List.mem_range.mp hx
  rw [decide_eq_true_iff, List.all_eq_true]
  constructor
  · intro q k _
    refine decide_eq_true (Nat.le_of_not_lt fun c => q _ c ?_)
    exact p.symm hx' ⟨k, rfl⟩
  · intro q z hz r
    obtain ⟨k, hk⟩ := p.symm (Nat.lt_trans hz hx') r
    have h1 := of_decide_eq_true (q (k % n) (List.mem_range.mpr (Nat.mod_lt _ hn)))
    rw [← it_mod (e x hx'), hk] at h1
    omega
def pure0 (h i : Nat) : Nat := if i < h then 0 else 1
theorem mx0 : mx h t 0 = pure0 h := by
  funext i
  unfold mx pure0
  rw [if_neg (Nat.not_lt_zero _)]
theorem even_of (n : Nat) (hn : 0 < n) (F : Fair h t) (e1 : ((List.range (2 * h)).all fun x => decide (it (nx h (pure0 h)) n x = x)) = true)
    (e2 : ((List.range (2 * h)).countP fun x => (List.range n).all fun k => decide (x ≤ it (nx h (pure0 h)) k x)) % 2 = 0) : cnt (nx h (mx h t 0)) (2 * h) % 2 = 0 := by
  have p : Pm (nx h (pure0 h)) (2 * h) := by
    rw [← mx0 (t := t)]
    exact (F.mixed 0).pm
  rw [mx0, cnt_by p hn fun x hx => of_decide_eq_true (List.all_eq_true.mp e1 x (List.mem_range.mpr hx))]
  exact e2
theorem pure_even {m : Nat} (F : Fair (2 ^ m) t) (h2 : 2 ≤ m) (h7 : m ≤ 7) : cnt (nx (2 ^ m) (mx (2 ^ m) t 0)) (2 * 2 ^ m) % 2 = 0 := by
  have c : m = 2 ∨ m = 3 ∨ m = 4 ∨ m = 5 ∨ m = 6 ∨ m = 7 := by omega
  rcases c with rfl | rfl | rfl | rfl | rfl | rfl
  · exact even_of 3 (by decide) F (by decide +kernel) (by decide +kernel)
  · exact even_of 4 (by decide) F (by decide +kernel) (by decide +kernel)
  · exact even_of 5 (by decide) F (by decide +kernel) (by decide +kernel)
  · exact even_of 6 (by decide) F (by decide +kernel) (by decide +kernel)
  · exact even_of 7 (by decide) F (by decide +kernel) (by decide +kernel)
  · exact even_of 8 (by decide) F (by decide +kernel) (by decide +kernel)
/-- THE PARITY LAW -/
theorem parity_law {m : Nat} (F : Fair (2 ^ m) t) (h2 : 2 ≤ m) (h7 : m ≤ 7) : cnt (nx (2 ^ m) t) (2 * 2 ^ m) % 2 = sm t (2 ^ m) % 2 := by
  have h := F.parity (2 ^ m) (Nat.le_refl _)
  have e : cnt (nx (2 ^ m) (mx (2 ^ m) t (2 ^ m))) (2 * 2 ^ m) = cnt (nx (2 ^ m) t) (2 * 2 ^ m) := cnt_congr (F.mixed _).pm fun x _ => by
    unfold nx mx
    rw [if_pos (Nat.mod_lt x F.pos)]
  have h0 := pure_even F h2 h7
  rw [e] at h
  omega
end
end K52
/-! The terms of a fair table modulo 2: the term (0,) and no other with a 0; the term of all other places by the parity of the entries. Plain Lean. -/
namespace K52
/-- the bit at place k -/
def bt (n i k : Nat) : Bool := decide (i / 2 ^ (n - 1 - k) % 2 = 1)
def plN (n i : Nat) : List Nat := (List.range n).filter (bt n i)
/-- the places of the ones -/
def pls (n i : Nat) : List Int := (plN n i).map fun (k : Nat) => (k : Int)
def sub (n o s : Nat) : Bool := (plN n o).all fun k => decide (((k : Nat) : Int) ∈ pls n s)
def wh (n : Nat) (t : Nat → Nat) (s M : Nat) : Nat := sm (fun o => if sub n o s = true then t o else 0) M
def od (n : Nat) (t : Nat → Nat) (s : Nat) : Bool := decide (wh n t s (2 ^ n) % 2 = 1)
/-- the terms, in the states' order -/
def tl (n : Nat) (t : Nat → Nat) : List (List Int) := ((List.range (2 ^ n)).filter (od n t)).map (pls n)
/-- the places from 1 on -/
def rest1 (m : Nat) : List Int := (List.range m).map fun (i : Nat) => 1 + (i : Int)
theorem sm_congr {g k : Nat → Nat} : ∀ {M : Nat}, (∀ i, i < M → g i = k i) → sm g M = sm k M
  | 0, _ => rfl
  | M + 1, h => by
    show sm g M + g M = sm k M + k M
    rw [sm_congr fun i hi => h i (by omega), h M (by omega)]
theorem sm_add (g : Nat → Nat) (a : Nat) : ∀ b, sm g (a + b) = sm g a + sm (fun i => g (i + a)) b
  | 0 => rfl
  | b + 1 => by
    show sm g (a + b) + g (a + b) = sm g a + (sm (fun i => g (i + a)) b + g (b + a))
    rw [sm_add g a b, Nat.add_comm b a]
    omega
theorem sm_plus (g k : Nat → Nat) : ∀ M, sm g M + sm k M = sm (fun i => g i + k i) M
  | 0 => rfl
  | M + 1 => by
    show sm g M + g M + (sm k M + k M) = sm (fun i => g i + k i) M + (g M + k M)
    rw [← sm_plus g k M]
    omega
theorem sm_zero : ∀ M, sm (fun _ => 0) M = 0
  | 0 => rfl
  | M + 1 => by
    show sm (fun _ => 0) M + 0 = 0
    rw [sm_zero M]
/-- what is to be known of the places of up to five bits, by looking -/
structure Few (m : Nat) : Prop where
  zero : ∀ s, s < 2 * 2 ^ m → ((0 : Int) ∈ pls (m + 1) s ↔ 2 ^ m ≤ s)
  one : pls (m + 1) (2 ^ m) = [0]
  rest : ∀ s, s < 2 * 2 ^ m → (pls (m + 1) s = rest1 m ↔ s = 2 ^ m - 1)
  lo : ∀ r, r < 2 ^ m → ∀ o, o < 2 ^ m → sub (m + 1) o (2 ^ m + r) = sub (m + 1) o r ∧ sub (m + 1) (o + 2 ^ m) (2 ^ m + r) = sub (m + 1) o r
  par : ∀ r, r < 2 ^ m → (sm (fun o => if sub (m + 1) o r = true then 1 else 0) (2 ^ m) % 2 = 1 ↔ r = 0)
  top : ∀ o, o < 2 ^ m → sub (m + 1) o (2 ^ m - 1) = true ∧ sub (m + 1) (o + 2 ^ m) (2 ^ m - 1) = false
  emp : ∀ s, s < 2 * 2 ^ m → (pls (m + 1) s = [] ↔ s = 0)
  at_ : (List.range (2 * 2 ^ m)).filter (fun s => s == 2 ^ m) = [2 ^ m]
theorem few0 : Few 0 := ⟨by decide +kernel, by decide +kernel, by decide +kernel, by decide +kernel, by decide +kernel, by decide +kernel, by decide +kernel, by decide +kernel⟩
theorem few1 : Few 1 := ⟨by decide +kernel, by decide +kernel, by decide +kernel, by decide +kernel, by decide +kernel, by decide +kernel, by decide +kernel, by decide +kernel⟩
theorem few2 : Few 2 := ⟨by decide +kernel, by decide +kernel, by decide +kernel, by decide +kernel, by decide +kernel, by decide +kernel, by decide +kernel, by decide +kernel⟩
theorem few3 : Few 3 := ⟨by decide +kernel, by decide +kernel, by decide +kernel, by decide +kernel, by decide +kernel, by decide +kernel, by decide +kernel, by decide +kernel⟩
theorem few4 : Few 4 := ⟨by decide +kernel, by decide +kernel, by decide +kernel, by decide +kernel, by decide +kernel, by decide +kernel, by decide +kernel, by decide +kernel⟩
theorem few {m : Nat} (h : m ≤ 4) : Few m := by
  have c : m = 0 ∨ m = 1 ∨ m = 2 ∨ m = 3 ∨ m = 4 := by omega
  rcases c with rfl | rfl | rfl | rfl | rfl
  · exact few0
  · exact few1
  · exact few2
  · exact few3
  · exact few4
section
variable {m : Nat} {t : Nat → Nat}
theorem od_hi (W : Few m) (F : Fair (2 ^ m) t) {r : Nat} (hr : r < 2 ^ m) : od (m + 1) t (2 ^ m + r) = true ↔ r = 0 := by
  unfold od
  rw [decide_eq_true_iff, ← W.par r hr]
  have e : wh (m + 1) t (2 ^ m + r) (2 ^ (m + 1)) = sm (fun o => if sub (m + 1) o r = true then 1 else 0) (2 ^ m) := by
    unfold wh
    rw [Nat.pow_succ, Nat.mul_comm, Nat.two_mul, sm_add, sm_plus]
    refine sm_congr fun o ho => ?_
    obtain ⟨h1, h2⟩ := W.lo r hr o ho
    show (if sub (m + 1) o (2 ^ m + r) = true then t o else 0) + (if sub (m + 1) (o + 2 ^ m) (2 ^ m + r) = true then t (o + 2 ^ m) else 0) = _
    rw [h1, h2]
    have a := F.lo o ho
    have b := F.hi o ho
    by_cases c : sub (m + 1) o r = true
    · rw [if_pos c, if_pos c, if_pos c]
      omega
    · rw [if_neg c, if_neg c, if_neg c]
  rw [e]
theorem od_top (W : Few m) : od (m + 1) t (2 ^ m - 1) = true ↔ sm t (2 ^ m) % 2 = 1 := by
  unfold od
  rw [decide_eq_true_iff]
  have e : wh (m + 1) t (2 ^ m - 1) (2 ^ (m + 1)) = sm t (2 ^ m) := by
    unfold wh
    rw [Nat.pow_succ, Nat.mul_comm, Nat.two_mul, sm_add]
    have e1 : sm (fun o => if sub (m + 1) o (2 ^ m - 1) = true then t o else 0) (2 ^ m) = sm t (2 ^ m) := sm_congr fun o ho => by rw [if_pos (W.top o ho).1]
    have e2 : sm (fun i => if sub (m + 1) (i + 2 ^ m) (2 ^ m - 1) = true then t (i + 2 ^ m) else 0) (2 ^ m) = sm (fun _ => 0) (2 ^ m) := sm_congr fun o ho => by
      rw [if_neg]
      rw [(W.top o ho).2]
      decide
    rw [e1, e2, sm_zero]
    rfl
  rw [e]
theorem tl_zeros (W : Few m) (F : Fair (2 ^ m) t) : (tl (m + 1) t).filter (fun l => decide ((0 : Int) ∈ l)) = [[0]] := by
  unfold tl
  rw [List.filter_map, List.filter_filter]
  have e : (List.range (2 ^ (m + 1))).filter (fun s => ((fun l => decide ((0 : Int) ∈ l)) ∘ pls (m + 1)) s && od (m + 1) t s) = (List.range (2 * 2 ^ m)).filter (fun s => s == 2 ^ m) := by
    rw [Nat.pow_succ, Nat.mul_comm]
    refine List.filter_congr fun s hs => ?_
    have hs' := List.mem_range.mp hs
    have z := W.zero s hs'
    show (decide ((0 : Int) ∈ pls (m + 1) s) && od (m + 1) t s) = (s == 2 ^ m)
    by_cases c : 2 ^ m ≤ s
    · rw [decide_eq_true (z.mpr c), Bool.true_and]
      have o := od_hi W F (r := s - 2 ^ m) (by omega)
      rw [show 2 ^ m + (s - 2 ^ m) = s by omega] at o
      by_cases c2 : s = 2 ^ m
      · rw [o.mpr (by omega), c2]
        simp
      · have : od (m + 1) t s = false := by
          rw [← Bool.not_eq_true]
          intro q
          have := o.mp q
          omega
        rw [this]
        exact (beq_eq_false_iff_ne.mpr c2).symm
    · rw [decide_eq_false fun q => c (z.mp q), Bool.false_and]
      exact (beq_eq_false_iff_ne.mpr (by omega)).symm
  rw [e, W.at_, List.map_cons, W.one]
  rfl
theorem tl_rest (W : Few m) : rest1 m ∈ tl (m + 1) t ↔ sm t (2 ^ m) % 2 = 1 := by
  rw [← od_top W]
  have pos : 0 < 2 ^ m := Nat.pow_pos (by decide)
  unfold tl
  constructor
  · intro q
    obtain ⟨s, hs, e⟩ := List.mem_map.mp q
    obtain ⟨h1, h2⟩ := List.mem_filter.mp hs
    have h1' := List.mem_range.mp h1
    rw [Nat.pow_succ, Nat.mul_comm] at h1'
    rw [← (W.rest s h1').mp e]
    exact h2
  · intro q
    refine List.mem_map.mpr ⟨2 ^ m - 1, List.mem_filter.mpr ⟨List.mem_range.mpr ?_, q⟩, (W.rest _ (by omega)).mpr rfl⟩
    rw [Nat.pow_succ]
    omega
end
end K52
set_option Elab.async false
set_option linter.all false
set_option maxRecDepth 100000
set_option maxHeartbeats 4000000
namespace K52
open PySem PySem.Spec PyProof.Rows L2
/-! ### the text -/
def topS (i : Nat) : Stmt := PySem.Challenge.pw_taprows_k52_whole_parity_of_cycles.main.body.getD i (.Pass ⟨0, 0, 0, 0⟩)
abbrev sIsInt : Stmt := topS 8
abbrev sIsIn : Stmt := topS 9
abbrev sPrime : Stmt := topS 10
abbrev sNums : Stmt := topS 11
abbrev sPower : Stmt := topS 13
abbrev sSize : Stmt := topS 16
abbrev sTable : Stmt := topS 17
abbrev sPlace : Stmt := topS 18
abbrev sStates : Stmt := topS 19
abbrev sAfter : Stmt := topS 20
abbrev sClash : Stmt := topS 21
abbrev sWalked : Stmt := topS 22
abbrev sOne : Stmt := topS 23
abbrev sFree : Stmt := topS 24
abbrev sTerms : Stmt := topS 25
abbrev sTaken : Stmt := topS 27
abbrev sEvery : Stmt := topS 28
abbrev sFair : Stmt := topS 29
abbrev sLaw : Stmt := topS 30
/-- what the top leaves of names -/
structure Txt (K : PySem.W.Frag) (mg : Str → Option Value) : Prop where
  isi : mg "isinstance" = none
  int : mg "int" = none
  bool : mg "bool" = none
  tuple : mg "tuple" = none
  len : mg "len" = none
  all : mg "all" = none
  range : mg "range" = none
  min : mg "min" = none
  sorted : mg "sorted" = none
  list : mg "list" = none
  sum : mg "sum" = none
  abs : mg "abs" = none
  primes : ∃ a, mg "PRIMES" = some (.ref a) ∧ ∀ H, SqT K H a [V.int 2, V.int 3, V.int 5, V.int 7]
  most : ∃ t, mg "MOST_STATES" = some (.int 512 t)
/-- a def of the text that keeps its promise -/
def Cal (P : Program) (w : World) (K : PySem.W.Frag) (mg : Str → Option Value) (base : Heap) (k : Nat) (x : Str) (ps : List Str) (sp : Sp) : Prop :=
  ∃ f fd, FnOk P w K mg base CX0 k f fd ps sp ∧ mg x = some (.ref f) ∧ PySem.W.keepIn K (.ref f) = true ∧ Binds K fd ps []
section
variable {X : Cx} {k : Nat} {x : Str} {ps : List Str} {sp : Sp} {p pos : Pos} {e : Expr} {es : List Expr} {t : TA}
theorem pe_cal (C : Cal X.prog X.w X.K X.mg X.base k x ps sp) (hr : Room k X.A) (hg : Gl X x) (ha : PA X (e :: es) t) (hdb : (x == ("__debug__" : Str)) = false := by decide)
    (hpl : (backTo pos (starEach es X.env)).any (·.1) = false := by rfl) (he : starEach (e :: es) X.env = (false, eval e X.env) :: starEach es X.env := by rfl) :
    PE X (.Call (.Name x p) (e :: es) [] pos) (tCall sp [] E0 t) := by
  obtain ⟨f, fd, F, hm, hk, hb⟩ := C
  exact pe_call F hr hg hm hk hb .nil pass0 ha hdb he hpl
theorem pe_glob2 {x : Str} {v : V} {pos : Pos} (h : ∃ u, X.mg x = some u ∧ RelV v u) (hg : Gl X x) (hd : (x == ("__debug__" : Str)) = false := by decide) : PE X (.Name x pos) (tC v) := by
  obtain ⟨u, hm, r⟩ := h
  exact pe_glob hg hm r hd
end
/-! ### heaps -/
theorem same_new {H : Hp} {p : Addr} {o : HO} (h : H p = none) : Same H (upd H p o) := fun b x e => by
  rw [upd_ne (ne_of_none e h)]
  exact e
theorem same_tup {K : PySem.W.Frag} {H H' : Hp} {a : Addr} {xs : List V} (e : Same H H') (h : SqT K H a xs) : SqT K H' a xs := by
  rcases h with (g | ⟨ob, g⟩) | g
  · exact .inl (.inl (e _ _ g))
  · exact .inl (.inr ⟨ob, e _ _ g⟩)
  · exact .inr g
/-- the heap H' keeps what stands in H but at l -/
def But (l : Addr) (H H' : Hp) : Prop := ∀ b o, b ≠ l → H b = some o → H' b = some o
theorem But.refl (l : Addr) (H : Hp) : But l H H := fun _ _ _ h => h
theorem But.trans {l : Addr} {H H1 H2 : Hp} (a : But l H H1) (b : But l H1 H2) : But l H H2 := fun c o n h => b c o n (a c o n h)
theorem same_but {l : Addr} {H H1 : Hp} (a : Same H H1) : But l H H1 := fun c o _ h => a c o h
theorem but_upd {l : Addr} {H : Hp} {o : HO} : But l H (upd H l o) := fun c x n h => by
  rw [upd_ne n]
  exact h
/-- what was made behind H0 may change -/
theorem But.same {l : Addr} {H0 H H1 : Hp} (s : Same H0 H) (n : H0 l = none) (a : But l H H1) : Same H0 H1 := fun c o h => a c o (fun e => by rw [e, n] at h; cases h) (s c o h)
theorem But.keep {l a : Addr} {H H1 : Hp} {o : HO} (b : But l H H1) (h : H a = some o) (n : a ≠ l) : H1 a = some o := b a o n h
theorem But.tupK {K : PySem.W.Frag} {l a : Addr} {H H1 : Hp} {xs ys : List V} (b : But l H H1) (hl : H l = some (.lst ys)) (h : SqT K H a xs) : SqT K H1 a xs := by
  rcases h with (g | ⟨ob, g⟩) | g
  · exact .inl (.inl (b _ _ (ne_of g hl (by intro z; cases z)) g))
  · exact .inl (.inr ⟨ob, b _ _ (ne_of g hl (by intro z; cases z)) g⟩)
  · exact .inr g
/-- the tuple of the bits of i -/
abbrev tB (n i : Nat) : HO := .tup ((bits n i).map V.int)
/-- the table t of N entries -/
abbrev tV (t : Nat → Nat) (N : Nat) : List V := ((List.range N).map fun i => V.int (t i : Int))
theorem tV_get {t : Nat → Nat} {N i : Nat} (h : i < N) : (tV t N)[i]? = some (.int (t i : Int)) := by
  unfold tV
  rw [List.getElem?_map, List.getElem?_range h]
  rfl
theorem tV_length (t : Nat → Nat) (N : Nat) : (tV t N).length = N := by
  unfold tV
  rw [List.length_map]
  exact List.length_range
end K52
set_option Elab.async false
set_option linter.all false
set_option maxRecDepth 100000
set_option maxHeartbeats 4000000
namespace K52
open PySem PySem.Spec PyProof.Rows L2
section
variable {P : Program} {w : World} {K : PySem.W.Frag} {mg : Str → Option Value} {base : Heap} {f : Addr} {fd : FuncData}
/-! ### is_int, is_in -/
theorem scIsInt : FnScope ["value"] ["value"] (defScope sIsInt) := ⟨rfl, rfl, rfl, by decide +kernel, rfl, by decide +kernel, by decide +kernel⟩
def spIsInt : Sp := fun vs H Q _ => ∃ i : Int, vs = [.int i] ∧ Q (.bl true) H
theorem ok_isInt (F : Fun K "is_int" "is_int" sIsInt f fd) (T : Txt K mg) : FnOk P w K mg base CX0 1 f fd ["value"] spIsInt := by
  refine F.ok scIsInt (fun vs H Q E h => ?_) (fun cdv A outer s H vs Q E hr h => ?_)
  · obtain ⟨i, rfl, _⟩ := h
    rfl
  · obtain ⟨i, rfl, q⟩ := h
    refine ⟨_, pss_one (ps_ret (pe_and (pe_callB call_isi (by rfl) T.isi (by decide +kernel) (pa_cons (pv 0) (pa_cons (pe_bltn (v := .ty "int") (by rfl) T.int (by decide +kernel) rfl) pa_nil)))
      (pe_one (pe_not (pe_callB call_isi (by rfl) T.isi (by decide +kernel) (pa_cons (pv 0) (pa_cons (pe_bltn (v := .ty "bool") (by rfl) T.bool (by decide +kernel) rfl) pa_nil))))))), ?_⟩
    refine ⟨_, rfl, .int i, .ty "int", .type "int", .type "int", true, rfl, .ty _, .base (.int i), kit_ty (by decide +kernel), true, rfl, iteT ?_⟩
    exact ⟨_, rfl, .int i, .ty "bool", .type "int", .type "bool", false, rfl, .ty _, .base (.int i), kit_ty (by decide +kernel), false, rfl, q⟩
theorem scIsIn : FnScope ["value", "low", "high"] ["value", "low", "high"] (defScope sIsIn) := ⟨rfl, rfl, rfl, by decide +kernel, rfl, by decide +kernel, by decide +kernel⟩
def spIsIn : Sp := fun vs H Q _ => ∃ i lo hi : Int, vs = [.int i, .int lo, .int hi] ∧ lo ≤ i ∧ i ≤ hi ∧ Q (.bl true) H
theorem ok_isIn (F : Fun K "is_in" "is_in" sIsIn f fd) (C : Cal P w K mg base 1 "is_int" ["value"] spIsInt) : FnOk P w K mg base CX0 2 f fd ["value", "low", "high"] spIsIn := by
  refine F.ok scIsIn (fun vs H Q E h => ?_) (fun cdv A outer s H vs Q E hr h => ?_)
  · obtain ⟨i, lo, hi, rfl, _⟩ := h
    rfl
  · obtain ⟨i, lo, hi, rfl, h1, h2, q⟩ := h
    refine ⟨_, pss_one (ps_ret (pe_and (pe_cal C hr (by rfl) (pa_cons (pv 0) pa_nil)) (pe_one (pe_chain op_le op_le (pv 1) (pv 0) (pv 2))))), ?_⟩
    refine ⟨_, rfl, i, rfl, true, rfl, iteT ?_⟩
    refine ⟨_, rfl, _, rfl, lo, i, rfl, rfl, true, ?_, iteT ⟨_, rfl, i, hi, rfl, rfl, ?_⟩⟩
    · exact congrArg V.bl (decide_eq_true h1)
    · show Q (.bl (decide (i ≤ hi))) H
      rw [decide_eq_true h2]
      exact q
/-! ### need_prime, whole_power, place_of, need_size: for the prime 2 -/
theorem scPrime : FnScope ["value"] ["value"] (defScope sPrime) := ⟨rfl, rfl, rfl, by decide +kernel, rfl, by decide +kernel, by decide +kernel⟩
def spPrime : Sp := fun vs H Q _ => vs = [.int 2] ∧ Q .non H
theorem ok_prime (F : Fun K "need_prime" "need_prime" sPrime f fd) (T : Txt K mg) (C : Cal P w K mg base 1 "is_int" ["value"] spIsInt) : FnOk P w K mg base CX0 2 f fd ["value"] spPrime := by
  refine F.ok scPrime (fun vs H Q E h => ?_) (fun cdv A outer s H vs Q E hr h => ?_)
  · obtain ⟨rfl, _⟩ := h
    rfl
  · obtain ⟨rfl, q⟩ := h
    obtain ⟨a, ma, hT⟩ := T.primes
    refine ⟨_, pss_one (ps_if (PW.pt (pw_or (pt_not (pt_val (pe_cal C hr (by rfl) (pa_cons (pv 0) pa_nil)))) (pw_or1 (pt_cmpR op_notIn_seq (pv 0) (pe_glob2 (v := .ref a) ⟨_, ma, rfl⟩ (by rfl)) (by rfl))))) pss_never pss_nil), ?_⟩
    refine ⟨_, rfl, 2, rfl, true, rfl, iteF ?_⟩
    refine ⟨_, rfl, a, _, rfl, .inr (hT H), rfl, rfl, false, rfl, iteF q⟩
theorem scPower : FnScope ["prime", "exponent", "found", "turn"] ["prime", "exponent"] (defScope sPower) := ⟨rfl, rfl, rfl, by decide +kernel, rfl, by decide +kernel, by decide +kernel⟩
def spPower : Sp := fun vs H Q _ => ∃ n : Nat, vs = [.int 2, .int n] ∧ n ≤ 9 ∧ Q (.int ((2 ^ n : Nat) : Int)) H
theorem ok_power (F : Fun K "whole_power" "whole_power" sPower f fd) (T : Txt K mg) : FnOk P w K mg base CX0 1 f fd ["prime", "exponent"] spPower := by
  refine F.ok scPower (fun vs H Q E h => ?_) (fun cdv A outer s H vs Q E hr h => ?_)
  · obtain ⟨n, rfl, _⟩ := h
    rfl
  · obtain ⟨n, rfl, hn, q⟩ := h
    refine ⟨_, pss_cons (ps_set (i := 2) scPower.nd rfl (.inl rfl) pe_int)
      (pss_cons (ps_for PassesOwn.never rfl (pi_range1 (by rfl) T.range (pa_cons (pv 1) pa_nil)) (pg_name (i := 3) scPower.nd rfl (.inl rfl))
        (pss_one (ps_set (i := 2) scPower.nd rfl (.inl rfl) (pe_op op_mul (pv 2) (pv 0)))))
      (pss_one (ps_ret (pv 2)))), ?_⟩
    refine ⟨_, rfl, n, rfl, by omega, by omega, for_range (lo := 0) (n := (n : Int).toNat) (fun i σ H' => ∃ y, σ = [some (.int 2), some (.int n), some (.int ((2 ^ i : Nat) : Int)), y] ∧ H' = H)
      ⟨none, rfl, rfl⟩ ?_ ?_⟩
    · rintro i σ H' hi ⟨y, rfl, rfl⟩
      have e : ((2 ^ i : Nat) : Int) * 2 = ((2 ^ (i + 1) : Nat) : Int) := by
        rw [Nat.pow_succ, Int.natCast_mul]
        rfl
      refine ⟨_, rfl, _, rfl, _, _, rfl, rfl, .inr ⟨by decide, by decide⟩, some (.int (0 + (i : Int))), ?_, rfl⟩
      show [_, _, some (V.int (((2 ^ i : Nat) : Int) * 2)), _] = _
      rw [e]
    · rintro σ H' ⟨y, rfl, rfl⟩
      refine ⟨_, rfl, ?_⟩
      rw [Int.toNat_natCast]
      exact q
theorem scPlace : FnScope ["prime", "state", "found", "number"] ["prime", "state"] (defScope sPlace) := ⟨rfl, rfl, rfl, by decide +kernel, rfl, by decide +kernel, by decide +kernel⟩
def spPlace (K : PySem.W.Frag) : Sp := fun vs H Q _ => ∃ (a : Addr) (l : List Int), vs = [.int 2, .ref a] ∧ SqT K H a (l.map V.int) ∧ Q (.int (pl l)) H
theorem ok_place (F : Fun K "place_of" "place_of" sPlace f fd) : FnOk P w K mg base CX0 1 f fd ["prime", "state"] (spPlace K) := by
  refine F.ok scPlace (fun vs H Q E h => ?_) (fun cdv A outer s H vs Q E hr h => ?_)
  · obtain ⟨a, l, rfl, _⟩ := h
    rfl
  · obtain ⟨a, l, rfl, hT, q⟩ := h
    refine ⟨_, pss_cons (ps_set (i := 2) scPlace.nd rfl (.inl rfl) pe_int)
      (pss_cons (ps_for PassesOwn.never rfl (pi_tup (pv 1)) (pg_name (i := 3) scPlace.nd rfl (.inl rfl))
        (pss_one (ps_set (i := 2) scPlace.nd rfl (.inl rfl) (pe_op op_add (pe_op op_mul (pv 2) (pv 0)) (pv 3)))))
      (pss_one (ps_ret (pv 2)))), ?_⟩
    refine ⟨_, rfl, a, rfl, ⟨_, hT⟩, for_tup (K := K) (a := a) (xs := l.map V.int) (fun i σ H' => ∃ y, σ = [some (.int 2), some (.ref a), some (.int (pl (l.take i))), y] ∧ H' = H)
      ⟨none, rfl, rfl⟩ (fun i σ H' _ ⟨y, e, eH⟩ => by rw [eH]; exact hT) ?_ ?_⟩
    · rintro i x σ H' hx ⟨y, rfl, rfl⟩
      rw [List.getElem?_map] at hx
      obtain ⟨z, hz, rfl⟩ := Option.map_eq_some_iff.mp hx
      have e : pl (l.take i) * 2 + z = pl (l.take (i + 1)) := by
        rw [List.take_add_one, hz]
        exact (pl_snoc _ _).symm
      refine ⟨_, rfl, _, rfl, _, _, rfl, rfl, .inr ⟨by decide, by decide⟩, _, rfl, _, _, rfl, rfl, some (.int z), ?_, rfl⟩
      show [_, _, some (V.int (pl (l.take i) * 2 + z)), _] = _
      rw [e]
    · rintro σ H' ⟨y, rfl, rfl⟩
      rw [List.length_map (f := V.int), List.take_length]
      exact ⟨_, rfl, q⟩
theorem scSize : FnScope ["prime", "size"] ["prime", "size"] (defScope sSize) := ⟨rfl, rfl, rfl, by decide +kernel, rfl, by decide +kernel, by decide +kernel⟩
def spSize : Sp := fun vs H Q _ => ∃ n : Nat, vs = [.int 2, .int n] ∧ 1 ≤ n ∧ n ≤ 8 ∧ Q .non H
theorem pow_le8 {n : Nat} (h : n ≤ 8) : 2 ^ n ≤ 256 := Nat.pow_le_pow_right (by decide) h
theorem ok_size (F : Fun K "need_size" "need_size" sSize f fd) (T : Txt K mg) (C1 : Cal P w K mg base 2 "need_prime" ["value"] spPrime) (C2 : Cal P w K mg base 2 "is_in" ["value", "low", "high"] spIsIn) (C3 : Cal P w K mg base 1 "whole_power" ["prime", "exponent"] spPower) : FnOk P w K mg base CX0 3 f fd ["prime", "size"] spSize := by
  refine F.ok scSize (fun vs H Q E h => ?_) (fun cdv A outer s H vs Q E hr h => ?_)
  · obtain ⟨n, rfl, _⟩ := h
    rfl
  · obtain ⟨n, rfl, h1, h8, q⟩ := h
    obtain ⟨tk, mt⟩ := T.most
    refine ⟨_, pss_cons (ps_expr (pe_cal C1 hr (by rfl) (pa_cons (pv 0) pa_nil)))
      (pss_one (ps_if (PW.pt (pw_or (pt_not (pt_val (pe_cal C2 hr (by rfl) (pa_cons (pv 1) (pa_cons pe_int (pa_cons pe_int pa_nil))))))
        (pw_or1 (pt_cmpR op_gt (pe_cal C3 (hr.mono (by decide)) (by rfl) (pa_cons (pv 0) (pa_cons (pv 1) pa_nil))) (pe_glob2 (v := .int 512) ⟨_, mt, ⟨_, rfl⟩⟩ (by rfl)) (nomark _))))) pss_never pss_nil)), ?_⟩
    refine ⟨_, rfl, rfl, _, rfl, n, 1, 9, rfl, by omega, by omega, true, rfl, iteF ?_⟩
    refine ⟨_, rfl, _, rfl, n, rfl, by omega, _, _, rfl, rfl, false, ?_, iteF q⟩
    have := pow_le8 h8
    exact congrArg V.bl (decide_eq_false (by omega))
end
end K52
set_option Elab.async false
set_option linter.all false
set_option maxRecDepth 100000
set_option maxHeartbeats 4000000
namespace K52
open PySem PySem.Spec PyProof.Rows L2
/-! ### lists of states -/
theorem tyes {σ : L2.St} {H : Hp} {A B : Hp → Prop} (h : A H) : tYes σ H fun b H3 => if b = true then A H3 else B H3 := by
  show if true = true then A H else B H
  exact iteT h
def SL (H : Hp) (a : Addr) (n m : Nat) : Prop := ∃ ps : List Addr, H a = some (.lst (ps.map V.ref)) ∧ ps.length = m ∧ ∀ i p, ps[i]? = some p → H p = some (tB n i)
theorem SL.same {H H' : Hp} {a : Addr} {n m : Nat} (h : SL H a n m) (s : Same H H') : SL H' a n m := by
  obtain ⟨ps, h1, h2, h3⟩ := h
  exact ⟨ps, s _ _ h1, h2, fun i p e => s _ _ (h3 i p e)⟩
theorem SL.snoc {H : Hp} {D p : Addr} {n m : Nat} {ps : List Addr} (h2 : ps.length = m) (h3 : ∀ i p, ps[i]? = some p → H p = some (tB n i)) (hD : H D = some (.lst (ps.map V.ref))) (hp : H p = some (tB n m)) :
    SL (upd H D (.lst (ps.map V.ref ++ [.ref p]))) D n (m + 1) := by
  refine ⟨ps ++ [p], ?_, by rw [List.length_append, h2]; rfl, fun i q e => ?_⟩
  · rw [upd_same, List.map_append]
    rfl
  · have hq : H q = some (tB n i) := by
      by_cases c : i < ps.length
      · rw [List.getElem?_append_left c] at e
        exact h3 i q e
      · have c2 : i < (ps ++ [p]).length := (List.getElem?_eq_some_iff.mp e).1
        rw [List.length_append, List.length_singleton] at c2
        have ei : i = ps.length := by omega
        subst ei
        rw [List.getElem?_append_right (Nat.le_refl _), Nat.sub_self] at e
        have e' : p = q := Option.some.inj e
        rw [← e', h2]
        exact hp
    rw [upd_ne (ne_of hq hD (by intro z; cases z))]
    exact hq
theorem SL.but {H H' : Hp} {a l : Addr} {n m : Nat} {o : HO} (h : SL H a n m) (b : But l H H') (hl : H l = some o) (na : a ≠ l) (nt : ∀ xs, o ≠ .tup xs) : SL H' a n m := by
  obtain ⟨ps, h1, h2, h3⟩ := h
  exact ⟨ps, b _ _ na h1, h2, fun i p e => b _ _ (ne_of (h3 i p e) hl fun z => nt _ z.symm) (h3 i p e)⟩
theorem tB_snoc {n i b : Nat} (hb : b < 2) : HO.tup ((bits n i).map V.int ++ [V.int (b : Int)]) = tB (n + 1) (2 * i + b) := by
  show _ = HO.tup ((bits (n + 1) (2 * i + b)).map V.int)
  rw [← bits_snoc n i b hb, List.map_append]
  rfl
theorem sizeBig {n : Nat} (h : n ≤ 1000) : n ≤ sizeLine := Nat.le_of_lt (small1000 h)
/-- t + u for a u that isn't empty -/
theorem cat_any {K : PySem.W.Frag} {H : Hp} {a b : Addr} {xs ys : List V} {Q : VK} (ha : SqT K H a xs) (hb : H b = some (.tup ys)) (hy : ys ≠ []) (hz : xs.length + ys.length ≤ 1000)
    (q : ∀ H' p, Same H H' → H' p = some (.tup (xs ++ ys)) → Q (.ref p) H') : rCatA K (.ref a) (.ref b) H Q := by
  refine ⟨a, b, xs, ys, rfl, rfl, ha, .of hb, sizeBig hz, fun e => ?_, fun _ e => absurd e hy, fun _ _ p hp => ?_⟩
  · refine q H b (Same.refl H) ?_
    rw [e]
    exact hb
  · exact q _ p (same_new hp) upd_same
/-- t[1:] -/
theorem tail_any {K : PySem.W.Frag} {H : Hp} {a : Addr} {xs : List V} {Q : VK} (ha : SqT K H a xs) (hx : xs ≠ []) (q : ∀ H' p, Same H H' → H' p = some (.tup (xs.drop 1)) → Q (.ref p) H') : rSlA K (.ref a) (some 1) none H Q := by
  have l1 : 1 ≤ xs.length := List.length_pos_iff.mpr hx
  have e1 : HT.sIx xs.length 0 (some 1) = 1 := by
    rw [show HT.sIx xs.length 0 (some 1) = min 1 xs.length from HT.sIx_nat xs.length 0 1]
    omega
  refine ⟨a, xs, rfl, ha, fun z => ?_, fun _ p hp => ?_⟩
  · have z1 := z.1
    rw [e1] at z1
    cases z1
  · refine q _ p (same_new hp) ?_
    have ec : cutV xs (some 1) none = xs.drop 1 := by
      unfold cutV
      rw [e1, HT.sIx_none]
      exact List.take_of_length_le (by rw [List.length_drop]; exact Nat.le_refl _)
    rw [upd_same, ec]
section
variable {P : Program} {w : World} {K : PySem.W.Frag} {mg : Str → Option Value} {base : Heap} {f : Addr} {fd : FuncData}
/-! ### are_numbers, need_table -/
theorem scNums : FnScope ["prime", "value", "most", "number"] ["prime", "value", "most"] (defScope sNums) := ⟨rfl, rfl, rfl, by decide +kernel, rfl, by decide +kernel, by decide +kernel⟩
def spNums : Sp := fun vs H Q _ => ∃ (a : Addr) (t : Nat → Nat) (N : Nat), vs = [.int 2, .ref a, .int 512] ∧ H a = some (.tup (tV t N)) ∧ N ≤ 512 ∧ (∀ i, i < N → t i ≤ 1) ∧ ∀ H', Same H H' → Q (.bl true) H'
theorem ok_nums (F : Fun K "are_numbers" "are_numbers" sNums f fd) (T : Txt K mg) (C : Cal P w K mg base 2 "is_in" ["value", "low", "high"] spIsIn) : FnOk P w K mg base CX0 3 f fd ["prime", "value", "most"] spNums := by
  refine F.ok scNums (fun vs H Q E h => ?_) (fun cdv A outer s H vs Q E hr h => ?_)
  · obtain ⟨a, t, N, rfl, _⟩ := h
    rfl
  · obtain ⟨a, t, N, rfl, hT, hN, ht, q⟩ := h
    refine ⟨_, pss_cons (ps_if (PW.pt (pw_or (pt_not (pt_val (pe_callB call_isi (by rfl) T.isi (by decide +kernel) (pa_cons (pv 1) (pa_cons (pe_bltn (v := .ty "tuple") (by rfl) T.tuple (by decide +kernel) rfl) pa_nil)))))
        (pw_or1 (pt_cmpR op_gt (pe_callB call_len_seq (by rfl) T.len PySem.boot_len (pa_cons (pv 1) pa_nil)) (pv 2) (nomark _))))) pss_never pss_nil)
      (pss_one (ps_ret (pe_callB (cr_all rfl) (by rfl) T.all (by decide +kernel) (pa_cons (pe_lc (own := [("number", 3)]) (g := gName 3) (tt := tYes) rfl scNums.nd (pi_tup (pv 1))
        (blkOk_by (N := ["prime", "value", "most", "number"]) (sc := defScope sNums) (by decide +kernel)) (fun _ _ _ _ _ => pg_name (i := 3) scNums.nd rfl (Or.inl rfl)) (fun _ _ _ _ _ => pts_nil)
        (fun _ _ _ _ _ => pe_cal C hr (by rfl) (pa_cons (pv 3) (pa_cons pe_int (pa_cons (pe_op op_sub (pv 0) pe_int) pa_nil))))) pa_nil)))), ?_⟩
    refine ⟨_, rfl, .ref a, .ty "tuple", .type "tuple", .type "tuple", true, rfl, .ty _, .base (.tup hT), kit_ty (by decide +kernel), true, rfl, iteF ?_⟩
    refine ⟨_, rfl, a, _, rfl, .inr (.of hT), _, rfl, _, _, rfl, rfl, false, ?_, iteF ?_⟩
    · rw [tV_length]
      exact congrArg V.bl (decide_eq_false (by omega))
    · refine ⟨_, rfl, a, rfl, ⟨_, .of hT⟩, fun D hD => lc_tup (K := K) (a := a) (xs := tV t N) (fun i H' => Same H H' ∧ H' D = some (.lst ((List.replicate i true).map V.bl))) ?_ ?_ ?_ ?_⟩
      · exact ⟨same_new hD, upd_same⟩
      · intro i H' hi ⟨hs, _⟩
        exact .of (hs _ _ hT)
      · intro i x H' hx ⟨hs, hd⟩
        have hi : i < N := by
          have := (List.getElem?_eq_some_iff.mp hx).1
          rw [tV_length] at this
          exact this
        rw [tV_get hi] at hx
        cases hx
        refine ⟨rfl, ?_⟩
        have h1 := ht i hi
        refine tyes ?_
        refine ⟨_, rfl, _, rfl, _, _, rfl, rfl, t i, 0, 1, rfl, by omega, by omega, _, hd, ?_, ?_, ?_⟩
        · rw [List.length_map, List.length_replicate]
          exact small1000 (by omega)
        · exact fun b o e => by
            rw [upd_ne (show b ≠ D from fun z => by rw [z, hD] at e; cases e)]
            exact hs b o e
        · rw [upd_same, List.replicate_succ', List.map_append]
          rfl
      · intro H' ⟨hs, hd⟩
        rw [tV_length] at hd
        refine ⟨D, List.replicate N true, rfl, .of hd, ?_⟩
        have e : (List.replicate N true).all id = true := List.all_eq_true.mpr fun x hx => List.eq_of_mem_replicate hx
        rw [e]
        exact q H' hs
theorem scTable : FnScope ["prime", "size", "table"] ["prime", "size", "table"] (defScope sTable) := ⟨rfl, rfl, rfl, by decide +kernel, rfl, by decide +kernel, by decide +kernel⟩
def spTable : Sp := fun vs H Q _ => ∃ (n : Nat) (a : Addr) (t : Nat → Nat), vs = [.int 2, .int n, .ref a] ∧ 1 ≤ n ∧ n ≤ 8 ∧ H a = some (.tup (tV t (2 ^ n))) ∧ (∀ i, i < 2 ^ n → t i ≤ 1) ∧ ∀ H', Same H H' → Q .non H'
theorem ok_table (F : Fun K "need_table" "need_table" sTable f fd) (T : Txt K mg) (C1 : Cal P w K mg base 3 "need_size" ["prime", "size"] spSize) (C2 : Cal P w K mg base 3 "are_numbers" ["prime", "value", "most"] spNums) (C3 : Cal P w K mg base 1 "whole_power" ["prime", "exponent"] spPower) : FnOk P w K mg base CX0 4 f fd ["prime", "size", "table"] spTable := by
  refine F.ok scTable (fun vs H Q E h => ?_) (fun cdv A outer s H vs Q E hr h => ?_)
  · obtain ⟨n, a, t, rfl, _⟩ := h
    rfl
  · obtain ⟨n, a, t, rfl, h1, h8, hT, ht, q⟩ := h
    obtain ⟨tk, mt⟩ := T.most
    have hp := pow_le8 h8
    refine ⟨_, pss_cons (ps_expr (pe_cal C1 hr (by rfl) (pa_cons (pv 0) (pa_cons (pv 1) pa_nil))))
      (pss_one (ps_if (PW.pt (pw_or (pt_not (pt_val (pe_cal C2 hr (by rfl) (pa_cons (pv 0) (pa_cons (pv 2) (pa_cons (pe_glob2 (v := .int 512) ⟨_, mt, ⟨_, rfl⟩⟩ (by rfl)) pa_nil))))))
        (pw_or1 (pt_cmpR op_ne (pe_callB call_len_seq (by rfl) T.len PySem.boot_len (pa_cons (pv 2) pa_nil)) (pe_cal C3 (hr.mono (by decide)) (by rfl) (pa_cons (pv 0) (pa_cons (pv 1) pa_nil))) (nomark _))))) pss_never pss_nil)), ?_⟩
    refine ⟨_, rfl, _, rfl, n, rfl, h1, h8, ?_⟩
    refine ⟨_, rfl, _, rfl, a, t, 2 ^ n, rfl, hT, by omega, ht, fun H1 s1 => ⟨true, rfl, iteF ?_⟩⟩
    refine ⟨_, rfl, a, _, rfl, .inr (.of (s1 _ _ hT)), _, rfl, _, rfl, n, rfl, by omega, rfl, false, ?_, iteF (q H1 s1)⟩
    rw [tV_length, decide_eq_true rfl]
    rfl
/-! ### states_of, after -/
theorem scStates : FnScope ["prime", "size", "found", "turn", "state", "number"] ["prime", "size"] (defScope sStates) := ⟨rfl, rfl, rfl, by decide +kernel, rfl, by decide +kernel, by decide +kernel⟩
def spStates : Sp := fun vs H Q _ => ∃ n : Nat, vs = [.int 2, .int n] ∧ n ≤ 8 ∧ ∀ H' a, Same H H' → H a = none → SL H' a n (2 ^ n) → Q (.ref a) H'
theorem ok_states (F : Fun K "states_of" "states_of" sStates f fd) (T : Txt K mg) : FnOk P w K mg base CX0 1 f fd ["prime", "size"] spStates := by
  refine F.ok scStates (fun vs H Q E h => ?_) (fun cdv A outer s H vs Q E hr h => ?_)
  · obtain ⟨n, rfl, _⟩ := h
    rfl
  · obtain ⟨n, rfl, h8, q⟩ := h
    refine ⟨_, pss_cons (ps_set (i := 2) scStates.nd rfl (.inl rfl) (pe_lst (pa_cons (pe_tup pa_nil) pa_nil)))
      (pss_cons (ps_for PassesOwn.never rfl (pi_range1 (by rfl) T.range (pa_cons (pv 1) pa_nil)) (pg_name (i := 3) scStates.nd rfl (.inl rfl))
        (pss_one (ps_setLc2 (i := 2) (own := [("state", 4), ("number", 5)]) (vs1 := [5]) (g := gName 4) (g1 := gName 5) (tt := tYes) (tt1 := tYes) rfl scStates.nd rfl rfl (sw_true rfl rfl rfl (by decide +kernel)) (pi_list (pv 2))
          (blkOk_by (N := ["prime", "size", "found", "turn", "state", "number"]) (sc := defScope sStates) (by decide +kernel)) (by decide)
          (fun _ _ _ _ _ => pg_name (i := 4) scStates.nd rfl (Or.inl rfl)) (fun _ _ _ _ _ => pts_nil)
          (fun _ _ _ _ _ => pi_range1 (by rfl) T.range (pa_cons (pv 0) pa_nil))
          (fun _ _ _ _ _ => pg_name (i := 5) scStates.nd rfl (Or.inl rfl)) (fun _ _ _ _ _ => pts_nil)
          (fun _ _ _ _ _ => pe_op (r := rCatA K) op_catA (pv 4) (pe_tup (pa_cons (pv 5) pa_nil))))))
      (pss_one (ps_ret (pv 2)))), ?_⟩
    refine ⟨Nat.zero_le _, fun p np => ⟨by show 1 ≤ sizeLine; decide, fun l nl => ?_⟩⟩
    have s1 : Same H (upd H p (.tup [])) := same_new np
    have s2 : Same (upd H p (.tup [])) (upd (upd H p (.tup [])) l (.lst [.ref p])) := same_new nl
    refine ⟨_, rfl, n, rfl, by omega, by omega, for_range (lo := 0) (n := (n : Int).toNat) (fun i σ H' => ∃ a y, σ = [some (.int 2), some (.int n), some (.ref a), y, none, none] ∧ Same H H' ∧ H a = none ∧ SL H' a i (2 ^ i))
      ⟨l, none, rfl, s1.trans s2, s1.free nl, ?_⟩ ?_ ?_⟩
    · refine ⟨[p], upd_same, rfl, fun i q e => ?_⟩
      cases i with
      | zero =>
        have e' : p = q := Option.some.inj e
        subst e'
        exact s2 _ _ upd_same
      | succ i => simp at e
    · rintro i σ H' hi ⟨a, y, rfl, hs, na, hS⟩
      have hi' : i < n := by
        rw [Int.toNat_natCast] at hi
        exact hi
      obtain ⟨ps, ha, hl, hps⟩ := id hS
      have hp2 : 2 ^ i ≤ 256 := pow_le8 (by omega)
      refine ⟨_, rfl, a, rfl, ⟨_, .of ha⟩, fun D hD => ?_⟩
      have nDa : a ≠ D := ne_of_none ha hD
      have HD0 : ∀ {H'' : Hp}, Same H' H'' → SL H'' a i (2 ^ i) := fun z => hS.same z
      refine ⟨fun j m H1 => j + m = 2 ^ i ∧ Same H' H1 ∧ SL H1 D (i + 1) (2 * j), ⟨2 ^ i, by omega, same_new hD, [], upd_same, rfl, fun k p e => by simp at e⟩, fun j m H1 hW => ?_⟩
      obtain ⟨em, sm, hSD⟩ := hW
      have haL : H1 a = some (.lst (ps.map V.ref)) := sm _ _ ha
      by_cases hj : j < 2 ^ i
      · obtain ⟨pj, hpj⟩ : ∃ pj, ps[j]? = some pj := ⟨_, List.getElem?_eq_getElem (by omega)⟩
        have hx : (ps.map V.ref)[j]? = some (.ref pj) := by
          rw [List.getElem?_map, hpj]
          rfl
        refine .inr ⟨⟨_, _, .of haL, hx⟩, fun H2 => Same H' H2 ∧ SL H2 D (i + 1) (2 * (j + 1)), fun H2 ⟨a1, a2⟩ => ⟨m - 1, by omega, by omega, a1, a2⟩, fun x H2 hy => ?_⟩
        obtain ⟨rfl, fx⟩ := hy
        obtain rfl : x = .ref pj := Option.some.inj ((fx _ (.of haL)).symm.trans hx)
        refine ⟨rfl, tyes ?_⟩
        refine ⟨_, rfl, 2, rfl, by decide, by decide, ?_⟩
        refine ⟨fun b k H3 => b + k = 2 ∧ Same H' H3 ∧ SL H3 D (i + 1) (2 * j + b), ⟨2, rfl, sm, hSD⟩, fun b k H3 hW => ?_⟩
        obtain ⟨ek, sk, hSk⟩ := hW
        by_cases hb : b < 2
        · refine .inr ⟨hb, fun H4 => Same H' H4 ∧ SL H4 D (i + 1) (2 * j + (b + 1)), fun H4 ⟨a1, a2⟩ => ⟨k - 1, by omega, by omega, a1, a2⟩, fun x H4 hy => ?_⟩
          obtain ⟨rfl, rfl⟩ := hy
          refine ⟨rfl, tyes ?_⟩
          obtain ⟨qs, hD3, hql, hqs⟩ := hSk
          have hpjT : H4 pj = some (tB i j) := sk _ _ (hps j pj hpj)
          refine ⟨_, rfl, _, rfl, by show 1 ≤ sizeLine; decide, fun t nt => ?_⟩
          refine cat_any (K := K) (xs := (bits i j).map V.int) (ys := [V.int (0 + (b : Int))]) (.of (same_new nt _ _ hpjT)) upd_same (by simp) (by rw [List.length_map, bits_length, List.length_singleton]; omega) fun H5 c s5 hc => ?_
          have s45 : Same H4 H5 := (same_new nt).trans s5
          have hD5 : H5 D = some (.lst (qs.map V.ref)) := s45 _ _ hD3
          have ec : H5 c = some (tB (i + 1) (2 * j + b)) := by
            rw [hc, Int.zero_add]
            exact congrArg some (tB_snoc hb)
          refine ⟨_, hD5, ?_, ?_, ?_⟩
          · rw [List.length_map, hql]
            exact small1000 (by omega)
          · exact fun x o e => by
              rw [upd_ne (show x ≠ D from fun z => by rw [z, hD] at e; cases e)]
              exact s45 _ _ (sk x o e)
          · exact SL.snoc hql (fun k q e => s45 _ _ (hqs k q e)) hD5 ec
        · refine .inl ⟨by show 2 ≤ b; omega, sk, ?_⟩
          rw [show 2 * (j + 1) = 2 * j + b by omega]
          exact hSk
      · refine .inl ⟨⟨_, .of haL, ?_⟩, ?_⟩
        · rw [List.length_map, hl]
          omega
        · refine ⟨D, some (.int (0 + (i : Int))), rfl, hs.trans sm, hs.free hD, ?_⟩
          rw [Nat.pow_succ, show 2 ^ i * 2 = 2 * j by omega]
          exact hSD
    · rintro σ H' ⟨a, y, rfl, hs, na, hS⟩
      rw [Int.toNat_natCast] at hS
      exact ⟨_, rfl, q H' a hs na hS⟩
theorem scAfter : FnScope ["prime", "table", "state"] ["prime", "table", "state"] (defScope sAfter) := ⟨rfl, rfl, rfl, by decide +kernel, rfl, by decide +kernel, by decide +kernel⟩
def spAfter (K : PySem.W.Frag) : Sp := fun vs H Q _ => ∃ (a b : Addr) (t : Nat → Nat) (m i : Nat), vs = [.int 2, .ref a, .ref b] ∧ SqT K H a (tV t (2 ^ (m + 1))) ∧ H b = some (tB (m + 1) i) ∧ i < 2 ^ (m + 1) ∧ m ≤ 8 ∧ t i ≤ 1 ∧
  ∀ H' p, Same H H' → H' p = some (tB (m + 1) (nx (2 ^ m) t i)) → Q (.ref p) H'
theorem ok_after (F : Fun K "after" "after" sAfter f fd) (C : Cal P w K mg base 1 "place_of" ["prime", "state"] (spPlace K)) : FnOk P w K mg base CX0 2 f fd ["prime", "table", "state"] (spAfter K) := by
  refine F.ok scAfter (fun vs H Q E h => ?_) (fun cdv A outer s H vs Q E hr h => ?_)
  · obtain ⟨a, b, t, m, i, rfl, _⟩ := h
    rfl
  · obtain ⟨a, b, t, m, i, rfl, hT, hb, hi, hm, ht, q⟩ := h
    refine ⟨_, pss_one (ps_ret (pe_op (r := rCatA K) op_catA (pe_slice (r := rSlA K) sl_tupA (pv 2) (po_some pe_int) po_none)
      (pe_tup (pa_cons (pe_ix ix_tup (pv 1) (pe_cal C hr (by rfl) (pa_cons (pv 0) (pa_cons (pv 2) pa_nil))) (fun _ _ => rfl)) pa_nil)))), ?_⟩
    refine ⟨_, rfl, 1, rfl, ?_⟩
    unfold tNoPart
    refine tail_any (K := K) (xs := (bits (m + 1) i).map V.int) (.of hb) (fun z => ?_) fun H1 c s1 hc => ?_
    · have := congrArg List.length z
      rw [List.length_map, bits_length] at this
      cases this
    · refine ⟨_, rfl, _, rfl, _, rfl, b, bits (m + 1) i, rfl, .of (s1 _ _ hb), ?_⟩
      rw [pl_bits _ _ hi]
      refine ⟨a, _, i, .int (t i), rfl, rfl, same_tup s1 hT, atI_nat (tV_get hi), by show 1 ≤ sizeLine; decide, fun u nu => ?_⟩
      refine cat_any (K := K) (xs := ((bits (m + 1) i).map V.int).drop 1) (ys := [V.int (t i)]) (.of (same_new nu _ _ hc)) upd_same (by simp) (by rw [List.length_drop, List.length_map, bits_length, List.length_singleton]; omega) fun H2 d s2 hd => ?_
      refine q H2 d (s1.trans ((same_new nu).trans s2)) ?_
      rw [hd, ← List.map_drop, bits_tail]
      exact congrArg some (tB_snoc (by omega))
end
end K52
set_option Elab.async false
set_option linter.all false
set_option maxRecDepth 100000
set_option maxHeartbeats 4000000
namespace K52
open PySem PySem.Spec PyProof.Rows L2
/-! ### dicts with states as keys -/
/-- the key of the state at place i -/
def ky (n i : Nat) : List Key := (bits n i).map Sum.inl
theorem ky_tup (n i : Nat) : (ky n i).map kV = (bits n i).map V.int := by
  unfold ky
  rw [List.map_map]
  rfl
theorem ky_inj {n i j : Nat} (hi : i < 2 ^ n) (hj : j < 2 ^ n) (e : ky n i = ky n j) : i = j := by
  have h := congrArg (List.map kV) e
  rw [ky_tup, ky_tup] at h
  refine bits_inj hi hj ?_
  have key : ∀ a b : List Int, a.map V.int = b.map V.int → a = b := by
    intro a
    induction a with
    | nil =>
      intro b q
      cases b with
      | nil => rfl
      | cons y b => cases q
    | cons x a ih =>
      intro b q
      cases b with
      | nil => cases q
      | cons y b =>
        rw [List.map_cons, List.map_cons] at q
        injection q with q1 q2
        injection q1 with q1
        rw [q1, ih b q2]
  exact key _ _ h
theorem ky_at {H : Hp} {b : Addr} {n i : Nat} (h : H b = some (tB n i)) : H b = some (.tup ((ky n i).map kV)) := by
  rw [ky_tup]
  exact h
theorem same_put {H0 H : Hp} {d : Addr} {o : HO} (s : Same H0 H) (n : H0 d = none) : Same H0 (upd H d o) := fun b x e => by
  rw [upd_ne (show b ≠ d from fun z => by rw [z, n] at e; cases e)]
  exact s b x e
/-- what stands but no dict, no list -/
theorem put_keep {H : Hp} {d b : Addr} {o u v : HO} (hd : H d = some u) (hb : H b = some v) (ne : v ≠ u) : upd H d o b = some v := by
  rw [upd_ne (ne_of hb hd ne)]
  exact hb
theorem SL.put {H : Hp} {d s : Addr} {n m : Nat} {kvs : List (List Key × V)} {o : HO} (h : SL H s n m) (hd : H d = some (.dT kvs)) : SL (upd H d o) s n m := by
  obtain ⟨ps, h1, h2, h3⟩ := h
  exact ⟨ps, put_keep hd h1 (by intro z; cases z), h2, fun i p e => put_keep hd (h3 i p e) (by intro z; cases z)⟩
/-- the set of the states at the places ks -/
def seenOf (n : Nat) (ks : List Nat) : List (List Key × V) := ks.map fun k => (ky n k, V.bl true)
theorem seen_val {n k : Nat} (hk : k < 2 ^ n) : ∀ {ks : List Nat}, (∀ x ∈ ks, x < 2 ^ n) → valV (seenOf n ks) (ky n k) = if k ∈ ks then some (V.bl true) else none
  | [], _ => rfl
  | x :: ks, h => by
    show valV ((ky n x, V.bl true) :: seenOf n ks) (ky n k) = _
    by_cases e : x = k
    · subst e
      rw [valV_pos rfl, if_pos List.mem_cons_self]
    · rw [valV_neg (fun z => e (ky_inj (h x List.mem_cons_self) hk z)), seen_val hk fun y hy => h y (List.mem_cons_of_mem _ hy)]
      by_cases c : k ∈ ks
      · rw [if_pos c, if_pos (List.mem_cons_of_mem _ c)]
      · rw [if_neg c, if_neg fun z => by
          rcases List.mem_cons.mp z with y | y
          · exact e y.symm
          · exact c y]
theorem seen_put {n k : Nat} {ks : List Nat} (hk : k < 2 ^ n) (h : ∀ x ∈ ks, x < 2 ^ n) (hn : k ∉ ks) : putK (seenOf n ks) (ky n k) (V.bl true) = seenOf n (ks ++ [k]) := by
  rw [putK_new _ (by rw [seen_val hk h, if_neg hn])]
  unfold seenOf
  rw [List.map_append]
  rfl
section
variable {P : Program} {w : World} {K : PySem.W.Frag} {mg : Str → Option Value} {base : Heap} {f : Addr} {fd : FuncData}
/-! ### clash_of: none in a fair table -/
theorem scClash : FnScope ["prime", "size", "table", "seen", "found", "state", "told"] ["prime", "size", "table"] (defScope sClash) := ⟨rfl, rfl, rfl, by decide +kernel, rfl, by decide +kernel, by decide +kernel⟩
def spClash : Sp := fun vs H Q _ => ∃ (m : Nat) (a : Addr) (t : Nat → Nat), vs = [.int 2, .int ((m + 1 : Nat) : Int), .ref a] ∧ m ≤ 7 ∧ H a = some (.tup (tV t (2 ^ (m + 1)))) ∧ Fair (2 ^ m) t ∧ ∀ H', Same H H' → Q .non H'
theorem two_pow (m : Nat) : 2 ^ (m + 1) = 2 * 2 ^ m := by rw [Nat.pow_succ, Nat.mul_comm]
theorem ok_clash (F : Fun K "clash_of" "clash_of" sClash f fd) (T : Txt K mg) (C1 : Cal P w K mg base 1 "states_of" ["prime", "size"] spStates) (C2 : Cal P w K mg base 2 "after" ["prime", "table", "state"] (spAfter K)) : FnOk P w K mg base CX0 3 f fd ["prime", "size", "table"] spClash := by
  refine F.ok scClash (fun vs H Q E h => ?_) (fun cdv A outer s H vs Q E hr h => ?_)
  · obtain ⟨m, a, t, rfl, _⟩ := h
    rfl
  · obtain ⟨m, a, t, rfl, h7, hT, Fr, q⟩ := h
    have hu := hu_of hr
    have hp := pow_le8 (n := m + 1) (by omega)
    refine ⟨_, pss_cons (ps_par (i := 3) (j := 4) (by rfl) scClash.nd rfl rfl (by decide) rfl rfl (pa_cons pe_dnewT (pa_cons (pe_lst pa_nil) pa_nil)) (by rfl))
      (pss_cons (ps_for PassesOwn.never rfl (pi_list (pe_cal C1 (hr.mono (by decide)) (by rfl) (pa_cons (pv 0) (pa_cons (pv 1) pa_nil)))) (pg_name (i := 5) scClash.nd rfl (.inl rfl))
        (pss_cons (ps_set (i := 6) scClash.nd rfl (.inl rfl) (pe_cal C2 hr (by rfl) (pa_cons (pv 0) (pa_cons (pv 2) (pa_cons (pv 5) pa_nil)))))
        (pss_one (ps_if (pt_cmp (pc_din hu (pv 6) (pv 3))) pss_never (pss_one (ps_dput hu (pv 3) (pv 6) (pv 5) rfl))))))
      (pss_one (ps_ret (pe_ifExp (pt_cmpR (op_neD hr.units) (pv 4) (pe_lst pa_nil) (nomark _)) (pe_callB (cr_min rfl) (by rfl) T.min (by decide +kernel) (pa_cons (pv 4) pa_nil)) pe_non)))), ?_⟩
    intro d nd
    refine ⟨Nat.zero_le _, fun l nl => ⟨_, _, rfl, ?_⟩⟩
    have nl0 : H l = none := (same_new nd).free nl
    have s1 : Same H (upd (upd H d (.dT [])) l (.lst [])) := (same_new nd).trans (same_new nl)
    have hd0 : upd (upd H d (.dT [])) l (.lst []) d = some (.dT []) := same_new nl _ _ upd_same
    refine ⟨_, rfl, _, rfl, m + 1, rfl, by omega, fun H1 st s2 nst hS => ⟨st, rfl, ?_⟩⟩
    have s12 := s1.trans s2
    obtain ⟨ps, hst, hpl, hps⟩ := id hS
    have nst0 : H st = none := s1.free nst
    have nsl : st ≠ l := fun z => by rw [z, upd_same] at nst; cases nst
    refine ⟨⟨_, .of hst⟩, for_list (K := K) (a := st) (xs := ps.map V.ref) (fun i σ H' => ∃ y5 y6 kvs, σ = [some (.int 2), some (.int ((m + 1 : Nat) : Int)), some (.ref a), some (.ref d), some (.ref l), y5, y6] ∧ Same H H' ∧ SL H' st (m + 1) (2 ^ (m + 1)) ∧ H' st = some (.lst (ps.map V.ref)) ∧ H' l = some (.lst []) ∧
      H' d = some (.dT kvs) ∧ kvs.length ≤ i ∧ ∀ k, k < 2 ^ (m + 1) → (∀ j, j < i → nx (2 ^ m) t j ≠ k) → valV kvs (ky (m + 1) k) = none)
      ⟨none, none, [], rfl, s12, hS, hst, s2 _ _ upd_same, s2 _ _ hd0, Nat.le_refl _, fun _ _ _ => rfl⟩ (fun i σ H' _ ⟨_, _, _, _, _, _, z, _⟩ => .of z) ?_ ?_⟩
    · rintro i x σ H' hx ⟨y5, y6, kvs, rfl, hs, hSL, hst', hl, hd, hlen, hk⟩
      have hi : i < 2 ^ (m + 1) := by
        have := (List.getElem?_eq_some_iff.mp hx).1
        rw [List.length_map, hpl] at this
        exact this
      obtain ⟨p, hp', rfl⟩ : ∃ p, ps[i]? = some p ∧ x = V.ref p := by
        rw [List.getElem?_map] at hx
        obtain ⟨p, e1, e2⟩ := Option.map_eq_some_iff.mp hx
        exact ⟨p, e1, e2.symm⟩
      have hpT : H' p = some (tB (m + 1) i) := by
        obtain ⟨ps', h1, _, h3⟩ := hSL
        have e : ps'.map V.ref = ps.map V.ref := HO.lst.inj (Option.some.inj (h1.symm.trans hst'))
        have e2 : (ps'.map V.ref)[i]? = some (V.ref p) := by rw [e, hx]
        rw [List.getElem?_map] at e2
        obtain ⟨p2, e3, e4⟩ := Option.map_eq_some_iff.mp e2
        cases e4
        exact h3 i p e3
      have hi2 : i < 2 * 2 ^ m := by rw [← two_pow]; exact hi
      refine ⟨_, rfl, _, rfl, _, rfl, a, p, t, m, i, rfl, .of (hs _ _ hT), hpT, hi, by omega, Fr.le hi2, fun H2 c s3 hc => ?_⟩
      have hnx : nx (2 ^ m) t i < 2 ^ (m + 1) := by rw [two_pow]; exact Fr.pm.lt i hi2
      have hd2 : H2 d = some (.dT kvs) := s3 _ _ hd
      refine ⟨_, rfl, _, rfl, d, _, rfl, DGet.t hd2 (ky_at hc), ?_⟩
      rw [hk _ hnx fun j hj e => by
        have := Fr.pm.inj j i (by omega) hi2 e
        omega]
      refine ⟨false, rfl, iteF ?_⟩
      refine ⟨_, rfl, _, rfl, _, rfl, d, _, rfl, DPut.t hd2 (ky_at hc) (small1000 (by omega)), ?_⟩
      refine ⟨_, _, _, rfl, same_put (hs.trans s3) nd, (hSL.same s3).put hd2, put_keep hd2 (s3 _ _ hst') (by intro z; cases z), put_keep hd2 (s3 _ _ hl) (by intro z; cases z), upd_same, ?_, fun k hk1 hk2 => ?_⟩
      · have := length_putK kvs (ky (m + 1) (nx (2 ^ m) t i)) (V.ref p)
        omega
      · rw [valV_put, if_neg fun z => hk2 i (by omega) (ky_inj hk1 hnx z).symm]
        exact hk k hk1 fun j hj => hk2 j (by omega)
    · rintro σ H' ⟨y5, y6, kvs, rfl, hs, hSL, hst', hl, hd, hlen, hk⟩
      refine ⟨_, rfl, Nat.zero_le _, fun e ne => ?_⟩
      refine ⟨.list [], .list [], .lst (.of (same_new ne _ _ hl)) .nil, .lst (.of upd_same) .nil, by decide +kernel, by decide +kernel, false, ?_, iteF ?_⟩
      · exact congrArg V.bl (by decide +kernel)
      · exact q _ (hs.trans (same_new ne))
/-! ### need_one_to_one -/
theorem scOne : FnScope ["prime", "size", "table"] ["prime", "size", "table"] (defScope sOne) := ⟨rfl, rfl, rfl, by decide +kernel, rfl, by decide +kernel, by decide +kernel⟩
theorem ok_one (F : Fun K "need_one_to_one" "need_one_to_one" sOne f fd) (C1 : Cal P w K mg base 4 "need_table" ["prime", "size", "table"] spTable) (C2 : Cal P w K mg base 3 "clash_of" ["prime", "size", "table"] spClash) : FnOk P w K mg base CX0 5 f fd ["prime", "size", "table"] spClash := by
  refine F.ok scOne (fun vs H Q E h => ?_) (fun cdv A outer s H vs Q E hr h => ?_)
  · obtain ⟨m, a, t, rfl, _⟩ := h
    rfl
  · obtain ⟨m, a, t, rfl, h7, hT, Fr, q⟩ := h
    refine ⟨_, pss_cons (ps_expr (pe_cal C1 hr (by rfl) (pa_cons (pv 0) (pa_cons (pv 1) (pa_cons (pv 2) pa_nil)))))
      (pss_one (ps_if (pt_cmpR op_notN (pe_cal C2 (hr.mono (by decide)) (by rfl) (pa_cons (pv 0) (pa_cons (pv 1) (pa_cons (pv 2) pa_nil)))) pe_non (nomark _)) pss_never pss_nil)), ?_⟩
    refine ⟨_, rfl, _, rfl, _, rfl, m + 1, a, t, rfl, by omega, by omega, hT, fun i hi => Fr.le (by rw [← two_pow]; exact hi), fun H1 s1 => ?_⟩
    refine ⟨_, rfl, _, rfl, _, rfl, m, a, t, rfl, h7, s1 _ _ hT, Fr, fun H2 s2 => ⟨rfl, false, rfl, iteF ?_⟩⟩
    exact q H2 (s1.trans s2)
end
end K52
set_option Elab.async false
set_option linter.all false
set_option maxRecDepth 100000
set_option maxHeartbeats 4000000
namespace K52
open PySem PySem.Spec PyProof.Rows L2
open Classical in
/-- how many of the first i are the least of their cycle -/
noncomputable def cn (f : Nat → Nat) (i : Nat) : Nat := (List.range i).countP fun x => decide (Mn f x)
theorem cn_full (f : Nat → Nat) (N : Nat) : cn f N = cnt f N := rfl
open Classical in
theorem cn_succ (f : Nat → Nat) (i : Nat) : cn f (i + 1) = cn f i + if Mn f i then 1 else 0 := by
  unfold cn
  rw [List.range_succ, List.countP_append, List.countP_singleton]
  by_cases c : Mn f i
  · rw [if_pos c, decide_eq_true c]
    rfl
  · rw [if_neg c, decide_eq_false c]
    rfl
theorem cn_le (f : Nat → Nat) (i : Nat) : cn f i ≤ i := by
  have h := List.countP_le_length (p := fun x => @decide (Mn f x) (Classical.propDecidable _)) (l := List.range i)
  rw [List.length_range] at h
  exact h
/-- what is seen ahead of turn i of the walk -/
def Sn (f : Nat → Nat) (N i : Nat) (ks : List Nat) : Prop := ks.Nodup ∧ (∀ k ∈ ks, k < N) ∧ ∀ k, k ∈ ks ↔ ∃ j, j < i ∧ Re f j k
/-- within the walk of the cycle of i: here x -/
def Wk (f : Nat → Nat) (N i : Nat) (ks0 ks : List Nat) (x : Nat) : Prop :=
  ks.Nodup ∧ (∀ k ∈ ks, k < N) ∧ (∀ k ∈ ks0, k ∈ ks) ∧ (∀ k ∈ ks, k ∈ ks0 ∨ Re f i k) ∧ Re f i x ∧ x < N ∧ (∀ k ∈ ks, f k ∈ ks ∨ f k = x) ∧ (i ∈ ks ∨ x = i)
section
variable {f : Nat → Nat} {N i x : Nat} {ks ks0 : List Nat}
theorem Sn.zero : Sn f N 0 [] := ⟨List.nodup_nil, fun k h => (nomatch h), fun k => ⟨fun h => (nomatch h), fun ⟨j, h, _⟩ => absurd h (Nat.not_lt_zero _)⟩⟩
theorem Sn.len (h : Sn f N i ks) : ks.length ≤ N := nodup_le N ks h.1 h.2.1
theorem Sn.old (h : Sn f N i ks) (hm : i ∈ ks) : Sn f N (i + 1) ks ∧ ¬ Mn f i := by
  obtain ⟨j, hj, r⟩ := (h.2.2 i).mp hm
  refine ⟨⟨h.1, h.2.1, fun k => ⟨fun q => ?_, fun ⟨j', h1, r'⟩ => ?_⟩⟩, fun z => z j hj r⟩
  · obtain ⟨j', h1, r'⟩ := (h.2.2 k).mp q
    exact ⟨j', by omega, r'⟩
  · by_cases c : j' < i
    · exact (h.2.2 k).mpr ⟨j', c, r'⟩
    · have e : j' = i := by omega
      subst e
      exact (h.2.2 k).mpr ⟨j, hj, r.trans r'⟩
theorem Sn.new (h : Sn f N i ks) (hm : i ∉ ks) : Mn f i := fun j hj r => hm ((h.2.2 i).mpr ⟨j, hj, r⟩)
theorem Wk.start (h : Sn f N i ks) (p : Pm f N) (hi : i < N) : Wk f N i ks ks i :=
  ⟨h.1, h.2.1, fun _ q => q, fun _ q => .inl q, .refl, hi, fun k q => .inl (by
    obtain ⟨j, hj, r⟩ := (h.2.2 k).mp q
    exact (h.2.2 _).mpr ⟨j, hj, r.trans .step⟩), .inr rfl⟩
theorem Wk.len (h : Wk f N i ks0 ks x) : ks.length ≤ N := nodup_le N ks h.1 h.2.1
theorem Wk.more (h : Wk f N i ks0 ks x) (hx : x ∉ ks) : ks.length < N := by
  have q := nodup_le N (x :: ks) (List.nodup_cons.mpr ⟨hx, h.1⟩) fun y hy => by
    rcases List.mem_cons.mp hy with rfl | old
    · exact h.2.2.2.2.2.1
    · exact h.2.1 y old
  rw [List.length_cons] at q
  omega
theorem Wk.turn (h : Wk f N i ks0 ks x) (p : Pm f N) (hx : x ∉ ks) : Wk f N i ks0 (ks ++ [x]) (f x) := by
  obtain ⟨h1, h2, h3, h4, h5, h6, h7, h8⟩ := h
  have mem : ∀ k, k ∈ ks ++ [x] ↔ k ∈ ks ∨ k = x := fun k => by rw [List.mem_append, List.mem_singleton]
  refine ⟨?_, fun k q => ?_, fun k q => (mem k).mpr (.inl (h3 k q)), fun k q => ?_, h5.trans .step, p.lt x h6, fun k q => ?_, .inl ((mem i).mpr (h8.imp_right fun z => z.symm))⟩
  · rw [List.nodup_append]
    refine ⟨h1, List.nodup_cons.mpr ⟨fun z => (nomatch z), List.nodup_nil⟩, fun a ha b hb e => ?_⟩
    rw [List.mem_singleton.mp hb] at e
    exact hx (e ▸ ha)
  · rcases (mem k).mp q with q | rfl
    · exact h2 k q
    · exact h6
  · rcases (mem k).mp q with q | rfl
    · exact h4 k q
    · exact .inr h5
  · rcases (mem k).mp q with q | rfl
    · rcases h7 k q with z | z
      · exact .inl ((mem _).mpr (.inl z))
      · exact .inl ((mem _).mpr (.inr z))
    · exact .inr rfl
theorem Wk.stop (s : Sn f N i ks0) (h : Wk f N i ks0 ks x) (hx : x ∈ ks) : Sn f N (i + 1) ks := by
  obtain ⟨h1, h2, h3, h4, h5, h6, h7, h8⟩ := h
  have cl : ∀ k, k ∈ ks → f k ∈ ks := fun k q => (h7 k q).elim (fun z => z) fun z => z ▸ hx
  have hi : i ∈ ks := h8.elim (fun z => z) fun z => z ▸ hx
  refine ⟨h1, h2, fun k => ⟨fun q => ?_, fun ⟨j, hj, r⟩ => ?_⟩⟩
  · rcases h4 k q with z | z
    · obtain ⟨j, hj, r⟩ := (s.2.2 k).mp z
      exact ⟨j, by omega, r⟩
    · exact ⟨i, by omega, z⟩
  · by_cases c : j < i
    · exact h3 k ((s.2.2 k).mpr ⟨j, c, r⟩)
    · have e : j = i := by omega
      subst e
      exact Re.closed (S := fun k => k ∈ ks) cl hi r
end
section
variable {P : Program} {w : World} {K : PySem.W.Frag} {mg : Str → Option Value} {base : Heap} {f : Addr} {fd : FuncData}
/-! ### walked, free_cycles -/
theorem scWalked : FnScope ["prime", "size", "table", "seen", "found", "state", "here", "count"] ["prime", "size", "table"] (defScope sWalked) := ⟨rfl, rfl, rfl, by decide +kernel, rfl, by decide +kernel, by decide +kernel⟩
def spWalked : Sp := fun vs H Q _ => ∃ (m : Nat) (a : Addr) (t : Nat → Nat), vs = [.int 2, .int ((m + 1 : Nat) : Int), .ref a] ∧ m ≤ 7 ∧ H a = some (.tup (tV t (2 ^ (m + 1)))) ∧ Fair (2 ^ m) t ∧
  ∀ H' l xs, Same H H' → H' l = some (.lst xs) → xs.length = cnt (nx (2 ^ m) t) (2 ^ (m + 1)) → Q (.ref l) H'
theorem ok_walked (F : Fun K "walked" "walked" sWalked f fd) (C1 : Cal P w K mg base 1 "states_of" ["prime", "size"] spStates) (C2 : Cal P w K mg base 2 "after" ["prime", "table", "state"] (spAfter K)) : FnOk P w K mg base CX0 3 f fd ["prime", "size", "table"] spWalked := by
  refine F.ok scWalked (fun vs H Q E h => ?_) (fun cdv A outer s H vs Q E hr h => ?_)
  · obtain ⟨m, a, t, rfl, _⟩ := h
    rfl
  · obtain ⟨m, a, t, rfl, h7, hT, Fr, q⟩ := h
    have hu := hu_of hr
    have hp := pow_le8 (n := m + 1) (by omega)
    have pm : Pm (nx (2 ^ m) t) (2 ^ (m + 1)) := by
      rw [two_pow]
      exact Fr.pm
    have tle : ∀ {i}, i < 2 ^ (m + 1) → t i ≤ 1 := fun hi => Fr.le (by rw [← two_pow]; exact hi)
    refine ⟨_, pss_cons (ps_par (i := 3) (j := 4) (by rfl) scWalked.nd rfl rfl (by decide) rfl rfl (pa_cons pe_dnewT (pa_cons (pe_lst pa_nil) pa_nil)) (by rfl))
      (pss_cons (ps_for PassesOwn.never rfl (pi_list (pe_cal C1 (hr.mono (by decide)) (by rfl) (pa_cons (pv 0) (pa_cons (pv 1) pa_nil)))) (pg_name (i := 5) scWalked.nd rfl (.inl rfl))
        (pss_one (ps_if (pt_cmp (pc_dnotin hu (pv 5) (pv 3)))
          (pss_cons (ps_par (i := 6) (j := 7) (by rfl) scWalked.nd rfl rfl (by decide) rfl rfl (pa_cons (pv 5) (pa_cons pe_int pa_nil)) (by rfl))
          (pss_cons (ps_while PassesOwn.never (pt_cmp (pc_dnotin hu (pv 6) (pv 3)))
            (pss_cons (ps_dput hu (pv 3) (pv 6) pe_bl rfl)
            (pss_one (ps_par (i := 6) (j := 7) (by rfl) scWalked.nd rfl rfl (by decide) rfl rfl (pa_cons (pe_cal C2 hr (by rfl) (pa_cons (pv 0) (pa_cons (pv 2) (pa_cons (pv 6) pa_nil)))) (pa_cons (pe_op op_add (pv 7) pe_int) pa_nil)) (by rfl)))))
          (pss_one (ps_expr (pe_bm PySem.F.plainAttrs_list PySem.F.slot_list_append PySem.F.type_list_append mt_append (pv 4) (pa_cons (pe_tup (pa_cons (pv 5) (pa_cons (pv 7) pa_nil))) pa_nil)))))) pss_nil)))
      (pss_one (ps_ret (pv 4)))), ?_⟩
    intro d nd
    refine ⟨Nat.zero_le _, fun l nl => ⟨_, _, rfl, ?_⟩⟩
    have nl0 : H l = none := (same_new nd).free nl
    have s1 : Same H (upd (upd H d (.dT [])) l (.lst [])) := (same_new nd).trans (same_new nl)
    have hd0 : upd (upd H d (.dT [])) l (.lst []) d = some (.dT []) := same_new nl _ _ upd_same
    refine ⟨_, rfl, _, rfl, m + 1, rfl, by omega, fun H1 st s2 nst hS => ⟨st, rfl, ?_⟩⟩
    have s12 := s1.trans s2
    obtain ⟨ps, hst, hpl, hps⟩ := id hS
    have nst0 : H st = none := s1.free nst
    have nsl : st ≠ l := fun z => by rw [z, upd_same] at nst; cases nst
    refine ⟨⟨_, .of hst⟩, for_list (K := K) (a := st) (xs := ps.map V.ref) (fun i σ H' => ∃ y5 y6 y7 ks xs, σ = [some (.int 2), some (.int ((m + 1 : Nat) : Int)), some (.ref a), some (.ref d), some (.ref l), y5, y6, y7] ∧ Same H H' ∧ SL H' st (m + 1) (2 ^ (m + 1)) ∧ H' st = some (.lst (ps.map V.ref)) ∧ H' l = some (.lst xs) ∧
      H' d = some (.dT (seenOf (m + 1) ks)) ∧ Sn (nx (2 ^ m) t) (2 ^ (m + 1)) i ks ∧ xs.length = cn (nx (2 ^ m) t) i)
      ⟨none, none, none, [], [], rfl, s12, hS, hst, s2 _ _ upd_same, s2 _ _ hd0, Sn.zero, rfl⟩ (fun i σ H' _ ⟨_, _, _, _, _, _, _, _, z, _⟩ => .of z) ?_ ?_⟩
    · rintro i x σ H' hx ⟨y5, y6, y7, ks, xs, rfl, hs, hSL, hst', hl, hd, sn, hlen⟩
      have hi : i < 2 ^ (m + 1) := by
        have := (List.getElem?_eq_some_iff.mp hx).1
        rw [List.length_map, hpl] at this
        exact this
      obtain ⟨p, hp', rfl⟩ : ∃ p, ps[i]? = some p ∧ x = V.ref p := by
        rw [List.getElem?_map] at hx
        obtain ⟨p, e1, e2⟩ := Option.map_eq_some_iff.mp hx
        exact ⟨p, e1, e2.symm⟩
      have hpT : H' p = some (tB (m + 1) i) := by
        obtain ⟨ps', h1, _, h3⟩ := hSL
        have e : ps'.map V.ref = ps.map V.ref := HO.lst.inj (Option.some.inj (h1.symm.trans hst'))
        have e2 : (ps'.map V.ref)[i]? = some (V.ref p) := by rw [e, hx]
        rw [List.getElem?_map] at e2
        obtain ⟨p2, e3, e4⟩ := Option.map_eq_some_iff.mp e2
        cases e4
        exact h3 i p e3
      refine ⟨_, rfl, _, rfl, d, _, rfl, DGet.t hd (ky_at hpT), ?_⟩
      rw [seen_val hi sn.2.1]
      by_cases hm : i ∈ ks
      · rw [if_pos hm]
        refine ⟨false, rfl, iteF ?_⟩
        obtain ⟨sn', nm⟩ := sn.old hm
        refine ⟨_, _, _, ks, xs, rfl, hs, hSL, hst', hl, hd, sn', ?_⟩
        rw [cn_succ, if_neg nm, hlen]
        rfl
      · rw [if_neg hm]
        refine ⟨true, rfl, iteT ?_⟩
        have mn := sn.new hm
        refine ⟨_, rfl, _, _, rfl, ?_⟩
        refine ⟨fun μ σ H2 => ∃ c b x ks', σ = [some (.int 2), some (.int ((m + 1 : Nat) : Int)), some (.ref a), some (.ref d), some (.ref l), some (.ref p), some (.ref b), some (.int c)] ∧ Same H H2 ∧ SL H2 st (m + 1) (2 ^ (m + 1)) ∧ H2 st = some (.lst (ps.map V.ref)) ∧ H2 l = some (.lst xs) ∧
          H2 d = some (.dT (seenOf (m + 1) ks')) ∧ H2 p = some (tB (m + 1) i) ∧ H2 b = some (tB (m + 1) x) ∧ Wk (nx (2 ^ m) t) (2 ^ (m + 1)) i ks ks' x ∧ μ = 2 ^ (m + 1) - ks'.length,
          ⟨_, 0, p, i, ks, rfl, hs, hSL, hst', hl, hd, hpT, hpT, Wk.start sn pm hi, rfl⟩, fun μ σ H2 hW => ?_⟩
        obtain ⟨c, b, x, ks', rfl, hs2, hSL2, hst2, hl2, hd2, hp2, hb2, wk, rfl⟩ := hW
        have hx6 := wk.2.2.2.2.2.1
        refine ⟨_, rfl, _, rfl, d, _, rfl, DGet.t hd2 (ky_at hb2), ?_⟩
        rw [seen_val hx6 wk.2.1]
        by_cases hxm : x ∈ ks'
        · rw [if_pos hxm]
          refine ⟨false, rfl, iteF ?_⟩
          have sn' := Wk.stop sn wk hxm
          refine ⟨_, rfl, .inl ⟨rfl, _, SqL.of hl2⟩, _, rfl, _, rfl, by show 2 ≤ sizeLine; decide, fun u nu => ?_⟩
          have su := same_new (o := .tup [V.ref p, V.int c]) nu
          refine ⟨l, _, _, rfl, rfl, su _ _ hl2, ?_, ?_⟩
          · rw [hlen]
            have := cn_le (nx (2 ^ m) t) i
            exact small1000 (by omega)
          refine ⟨_, _, _, ks', xs ++ [.ref u], rfl, same_put (hs2.trans su) nl0, ?_, ?_, upd_same, ?_, sn', ?_⟩
          · exact (hSL2.same su).but (o := .lst xs) but_upd (su _ _ hl2) nsl (fun xs z => by cases z)
          · rw [upd_ne nsl]
            exact su _ _ hst2
          · exact put_keep (su _ _ hl2) (su _ _ hd2) (by intro z; cases z)
          · rw [List.length_append, hlen, cn_succ, if_pos mn]
            rfl
        · rw [if_neg hxm]
          refine ⟨true, rfl, iteT ?_⟩
          have hlt := wk.more hxm
          refine ⟨fun σ' H3 => ∃ c b x ks'', σ' = [some (.int 2), some (.int ((m + 1 : Nat) : Int)), some (.ref a), some (.ref d), some (.ref l), some (.ref p), some (.ref b), some (.int c)] ∧ Same H H3 ∧ SL H3 st (m + 1) (2 ^ (m + 1)) ∧ H3 st = some (.lst (ps.map V.ref)) ∧ H3 l = some (.lst xs) ∧
            H3 d = some (.dT (seenOf (m + 1) ks'')) ∧ H3 p = some (tB (m + 1) i) ∧ H3 b = some (tB (m + 1) x) ∧ Wk (nx (2 ^ m) t) (2 ^ (m + 1)) i ks ks'' x ∧ ks''.length = ks'.length + 1,
            fun σ' H3 ⟨c, b, x, ks'', e, h1, h2, h3, h4, h5, h6, h7, h8, h9⟩ => ⟨_, ?_, c, b, x, ks'', e, h1, h2, h3, h4, h5, h6, h7, h8, rfl⟩, ?_⟩
          · omega
          · refine ⟨_, rfl, _, rfl, d, _, rfl, DPut.t hd2 (ky_at hb2) (by
              unfold seenOf
              rw [List.length_map]
              exact small1000 (by omega)), ?_⟩
            rw [seen_put hx6 wk.2.1 hxm]
            have hb3 : upd H2 d (.dT (seenOf (m + 1) (ks' ++ [x]))) b = some (tB (m + 1) x) := put_keep hd2 hb2 (by intro z; cases z)
            have hT3 : upd H2 d (.dT (seenOf (m + 1) (ks' ++ [x]))) a = some (.tup (tV t (2 ^ (m + 1)))) := put_keep hd2 (hs2 _ _ hT) (by intro z; cases z)
            refine ⟨_, rfl, _, rfl, _, rfl, a, b, t, m, x, rfl, .of hT3, hb3, hx6, by omega, tle hx6, fun H4 b' s4 hb4 => ?_⟩
            refine ⟨_, rfl, c, 1, rfl, rfl, _, _, rfl, ?_⟩
            refine ⟨c + 1, b', _, ks' ++ [x], rfl, (same_put hs2 nd).trans s4, (hSL2.put hd2).same s4, s4 _ _ (put_keep hd2 hst2 (by intro z; cases z)), s4 _ _ (put_keep hd2 hl2 (by intro z; cases z)), s4 _ _ upd_same, s4 _ _ (put_keep hd2 hp2 (by intro z; cases z)), hb4, wk.turn pm hxm, ?_⟩
            rw [List.length_append]
            rfl
    · rintro σ H' ⟨y5, y6, y7, ks, xs, rfl, hs, hSL, hst', hl, hd, sn, hlen⟩
      refine ⟨_, rfl, q H' l xs hs hl ?_⟩
      rw [hlen, List.length_map, hpl]
      rfl
theorem scFree : FnScope ["prime", "size", "table"] ["prime", "size", "table"] (defScope sFree) := ⟨rfl, rfl, rfl, by decide +kernel, rfl, by decide +kernel, by decide +kernel⟩
theorem ok_free (F : Fun K "free_cycles" "free_cycles" sFree f fd) (C1 : Cal P w K mg base 5 "need_one_to_one" ["prime", "size", "table"] spClash) (C2 : Cal P w K mg base 3 "walked" ["prime", "size", "table"] spWalked) : FnOk P w K mg base CX0 6 f fd ["prime", "size", "table"] spWalked := by
  refine F.ok scFree (fun vs H Q E h => ?_) (fun cdv A outer s H vs Q E hr h => ?_)
  · obtain ⟨m, a, t, rfl, _⟩ := h
    rfl
  · obtain ⟨m, a, t, rfl, h7, hT, Fr, q⟩ := h
    refine ⟨_, pss_cons (ps_expr (pe_cal C1 hr (by rfl) (pa_cons (pv 0) (pa_cons (pv 1) (pa_cons (pv 2) pa_nil)))))
      (pss_one (ps_ret (pe_cal C2 (hr.mono (by decide)) (by rfl) (pa_cons (pv 0) (pa_cons (pv 1) (pa_cons (pv 2) pa_nil)))))), ?_⟩
    refine ⟨_, rfl, _, rfl, _, rfl, m, a, t, rfl, h7, hT, Fr, fun H1 s1 => ?_⟩
    exact ⟨_, rfl, _, rfl, _, rfl, m, a, t, rfl, h7, s1 _ _ hT, Fr, fun H2 l xs s2 hl hx => q H2 l xs (s1.trans s2) hl hx⟩
end
end K52
set_option Elab.async false
set_option linter.all false
set_option maxRecDepth 100000
set_option maxHeartbeats 4000000
namespace K52
open PySem PySem.Spec PyProof.Rows L2
/-! ### the law's row: the script, a place, two numbers -/
def RowAt (H : Hp) (r sc : Addr) : Prop := ∃ (u : Nat) (j2 j3 : Int), H r = some (.lst [.ref sc, .int u, .int j2, .int j3])
theorem script_ne {H : Hp} {r sc b : Addr} {ns : List Int} {ys : List V} (h : H r = some (.lst (V.ref sc :: ys))) (hb : H b = some (.lst (ns.map V.int))) : b ≠ r := by
  refine ne_of hb h fun z => ?_
  have e := HO.lst.inj z
  cases ns with
  | nil => cases e
  | cons n ns => cases e
theorem script_but {K : PySem.W.Frag} {H H' : Hp} {r sc : Addr} {ns : List Int} (h : RowAt H r sc) (b : But r H H') (hS : SqL K H sc (ns.map V.int)) : SqL K H' sc (ns.map V.int) := by
  obtain ⟨u, j2, j3, hr⟩ := h
  rcases hS with (hS | ⟨o, hS⟩) | hS
  · exact .inl (.inl (b _ _ (script_ne hr hS) hS))
  · exact .inl (.inr ⟨o, b _ _ (ne_of hS hr (by intro z; cases z)) hS⟩)
  · exact .inr hS
theorem RowAt.same {H H' : Hp} {r sc : Addr} (h : RowAt H r sc) (s : Same H H') : RowAt H' r sc := by
  obtain ⟨u, j2, j3, hr⟩ := h
  exact ⟨u, j2, j3, s _ _ hr⟩
section
variable {P : Program} {w : World} {K : PySem.W.Frag} {mg : Str → Option Value} {base : Heap} {f : Addr} {fd : FuncData}
theorem scTaken : FnScope ["_law_row", "_law_many", "_law_found", "_law_cell"] ["_law_row", "_law_many"] (defScope sTaken) := ⟨rfl, rfl, rfl, by decide +kernel, rfl, by decide +kernel, by decide +kernel⟩
def spTaken (K : PySem.W.Frag) : Sp := fun vs H Q _ => ∃ (r sc : Addr) (ns : List Int) (k : Nat), vs = [.ref r, .int k] ∧ RowAt H r sc ∧ SqL K H sc (ns.map V.int) ∧ 1 ≤ k ∧ k ≤ 1000 ∧
  ∀ H' (v : Nat), But r H H' → RowAt H' r sc → v < k → Q (.int v) H'
theorem ok_taken (F : Fun K "_law_taken" "_law_taken" sTaken f fd) (T : Txt K mg) : FnOk P w K mg base CX0 1 f fd ["_law_row", "_law_many"] (spTaken K) := by
  refine F.ok scTaken (fun vs H Q E h => ?_) (fun cdv A outer s H vs Q E hr h => ?_)
  · obtain ⟨r, sc, ns, k, rfl, _⟩ := h
    rfl
  · obtain ⟨r, sc, ns, k, rfl, hRow, hS, k1, k2, q⟩ := h
    obtain ⟨u, j2, j3, hR⟩ := id hRow
    have md : ∀ z : Int, ∃ v : Nat, v < k ∧ z % (k : Int) = (v : Int) := fun z => by
      have h1 := Int.emod_nonneg z (show (k : Int) ≠ 0 by omega)
      have h2 := Int.emod_lt_of_pos z (show (0 : Int) < k by omega)
      exact ⟨(z % (k : Int)).toNat, by omega, by omega⟩
    have out : ∀ (H' : Hp) (z : Int), But r H H' → RowAt H' r sc → Q (.int (z % (k : Int))) H' := fun H' z b ra => by
      obtain ⟨v, hv, e⟩ := md z
      rw [e]
      exact q H' v b ra hv
    refine ⟨_, pss_cons (ps_if (pt_cmpR op_gt (pe_ix ix_list (pv 0) pe_int (fun _ _ => rfl)) pe_int (nomark _))
        (pss_cons (ps_set (i := 2) scTaken.nd rfl (.inl rfl) (pe_op op_mod (pe_callTy call_int1 (by rfl) T.int (by decide +kernel) (pa_cons (pe_ix ix_list (pv 0) pe_int (fun _ _ => rfl)) pa_nil)) (pv 1)))
        (pss_cons (ps_asg (pe_op op_fdiv (pe_ix ix_list (pv 0) pe_int (fun _ _ => rfl)) (pv 1)) (pg_sub (pv 0) pe_int set_list))
        (pss_one (ps_ret (pv 2))))) pss_nil)
      (pss_cons (ps_asg (pe_op op_add (pe_ix ix_list (pv 0) pe_int (fun _ _ => rfl)) pe_int) (pg_sub (pv 0) pe_int set_list))
      (pss_cons (ps_if (pt_cmpR op_gt (pe_ix ix_list (pv 0) pe_int (fun _ _ => rfl)) (pe_callB call_len_seq (by rfl) T.len PySem.boot_len (pa_cons (pe_ix ix_list (pv 0) pe_int (fun _ _ => rfl)) pa_nil)) (nomark _))
        (pss_cons (ps_asg (pe_op op_mod (pe_callTy call_int1 (by rfl) T.int (by decide +kernel) (pa_cons (pe_op op_add (pe_op op_mul (pe_ix ix_list (pv 0) pe_int (fun _ _ => rfl)) pe_int) pe_int) pa_nil)) pe_int) (pg_sub (pv 0) pe_int set_list))
        (pss_one (ps_ret (pe_op op_mod (pe_callTy call_int1 (by rfl) T.int (by decide +kernel) (pa_cons (pe_op op_fdiv (pe_ix ix_list (pv 0) pe_int (fun _ _ => rfl)) pe_int) pa_nil)) (pv 1))))) pss_nil)
      (pss_cons (ps_set (i := 3) scTaken.nd rfl (.inl rfl) (pe_ix ix_list (pe_ix ix_list (pv 0) pe_int (fun _ _ => rfl)) (pe_op op_sub (pe_ix ix_list (pv 0) pe_int (fun _ _ => rfl)) pe_int) (fun _ _ => rfl)))
      (pss_cons (ps_asg (pe_op op_mod (pe_callTy call_int1 (by rfl) T.int (by decide +kernel) (pa_cons (pe_op op_add (pe_op op_add (pe_op op_mul (pe_ix ix_list (pv 0) pe_int (fun _ _ => rfl)) pe_int) (pv 3)) pe_int) pa_nil)) pe_int) (pg_sub (pv 0) pe_int set_list))
      (pss_cons (ps_if (pt_cmpR op_ge (pv 3) (pe_op op_pow pe_int pe_int) (nomark _))
        (pss_one (ps_asg (pe_op op_fdiv (pv 3) (pv 1)) (pg_sub (pv 0) pe_int set_list))) pss_nil)
      (pss_one (ps_ret (pe_op op_mod (pe_callTy call_int1 (by rfl) T.int (by decide +kernel) (pa_cons (pv 3) pa_nil)) (pv 1))))))))), ?_⟩
    -- if _law_row[3] > 0
    refine ⟨_, rfl, r, _, 3, _, rfl, rfl, .of hR, atI_nat (j := 3) rfl, _, _, rfl, rfl, _, rfl, ite2 (fun _ => ?_) (fun _ => ?_)⟩
    · refine ⟨_, rfl, r, _, 3, _, rfl, rfl, .of hR, atI_nat (j := 3) rfl, .inl ⟨j3, rfl, _, rfl, _, _, rfl, rfl, by omega, ?_⟩⟩
      refine ⟨_, rfl, r, _, 3, _, rfl, rfl, .of hR, atI_nat (j := 3) rfl, _, rfl, _, _, rfl, rfl, ⟨by omega, by omega⟩, ?_⟩
      refine ⟨_, rfl, r, _, 3, 3, rfl, rfl, hR, rfl, ?_⟩
      refine ⟨_, rfl, ?_⟩
      exact out _ j3 but_upd ⟨u, j2, _, upd_same⟩
    · -- _law_row[1] = _law_row[1] + 1
      refine ⟨_, rfl, r, _, 1, _, rfl, rfl, .of hR, atI_nat (j := 1) rfl, _, _, rfl, rfl, ?_⟩
      refine ⟨_, rfl, r, _, 1, 1, rfl, rfl, hR, rfl, ?_⟩
      show tSeq _ _ _ _ (upd H r (.lst [.ref sc, .int ((u : Int) + 1), .int j2, .int j3]))
      have e1 : (u : Int) + 1 = ((u + 1 : Nat) : Int) := rfl
      rw [e1]
      generalize hH1 : upd H r (.lst [.ref sc, .int ((u + 1 : Nat) : Int), .int j2, .int j3]) = H1
      have hR1 : H1 r = some (.lst [.ref sc, .int ((u + 1 : Nat) : Int), .int j2, .int j3]) := by
        rw [← hH1]
        exact upd_same
      have b1 : But r H H1 := by
        rw [← hH1]
        exact but_upd
      have hS1 : SqL K H1 sc (ns.map V.int) := script_but hRow b1 hS
      clear hH1
      refine ⟨_, rfl, r, _, 1, _, rfl, rfl, .of hR1, atI_nat (j := 1) rfl, ?_⟩
      refine ⟨_, rfl, r, _, 0, _, rfl, rfl, .of hR1, atI_nat (j := 0) rfl, sc, _, rfl, .inl hS1, _, _, rfl, rfl, _, rfl, ite2 (fun _ => ?_) (fun hc => ?_)⟩
      · refine ⟨_, rfl, r, _, 2, _, rfl, rfl, .of hR1, atI_nat (j := 2) rfl, j2, 48271, rfl, rfl, .inr ⟨by decide, by decide⟩, _, _, rfl, rfl, .inl ⟨_, rfl, _, _, rfl, rfl, (by show (0 : Int) < 2147483647; decide), ?_⟩⟩
        refine ⟨_, rfl, r, _, 2, 2, rfl, rfl, hR1, rfl, ?_⟩
        refine ⟨_, rfl, r, _, 2, _, rfl, rfl, .of upd_same, atI_nat (j := 2) rfl, _, 7, rfl, rfl, ⟨by decide, by decide⟩, .inl ⟨_, rfl, _, rfl, _, _, rfl, rfl, by omega, ?_⟩⟩
        exact out _ _ (b1.trans but_upd) ⟨_, _, _, upd_same⟩
      · have hlt : u < ns.length := by
          have := of_decide_eq_false (Bool.eq_false_iff.mpr hc)
          rw [List.length_map] at this
          omega
        have hcell : (ns.map V.int)[u]? = some (.int ns[u]) := by
          rw [List.getElem?_map, List.getElem?_eq_getElem hlt]
          rfl
        refine ⟨_, rfl, r, _, 0, _, rfl, rfl, .of hR1, atI_nat (j := 0) rfl, ?_⟩
        refine ⟨_, rfl, r, _, 1, _, rfl, rfl, .of hR1, atI_nat (j := 1) rfl, _, _, rfl, rfl, ?_⟩
        refine ⟨sc, _, _, _, rfl, rfl, hS1, at_of (j := u) (by omega) hcell, ?_⟩
        -- _law_row[2] = ..
        refine ⟨_, rfl, r, _, 2, _, rfl, rfl, .of hR1, atI_nat (j := 2) rfl, j2, 48271, rfl, rfl, .inr ⟨by decide, by decide⟩, _, rfl, _, _, rfl, rfl, _, _, rfl, rfl, .inl ⟨_, rfl, _, _, rfl, rfl, (by show (0 : Int) < 2147483647; decide), ?_⟩⟩
        refine ⟨_, rfl, r, _, 2, 2, rfl, rfl, hR1, rfl, ?_⟩
        generalize hH2 : upd H1 r _ = H2
        have b2 : But r H H2 := by
          rw [← hH2]
          exact b1.trans but_upd
        have hR2 : ∃ z : Int, H2 r = some (.lst [.ref sc, .int ((u + 1 : Nat) : Int), .int z, .int j3]) := by
          rw [← hH2]
          exact ⟨_, upd_same⟩
        obtain ⟨z2, hR2⟩ := hR2
        clear hH2
        -- if _law_cell >= 10 ** 18
        refine ⟨_, rfl, 10, 18, rfl, rfl, ⟨by decide, by decide, by decide⟩, _, _, rfl, rfl, _, rfl, ite2 (fun _ => ?_) (fun _ => ?_)⟩
        · refine ⟨_, rfl, _, rfl, _, _, rfl, rfl, ⟨by omega, by omega⟩, ?_⟩
          refine ⟨_, rfl, r, _, 3, 3, rfl, rfl, hR2, rfl, ?_⟩
          refine ⟨_, rfl, .inl ⟨_, rfl, _, rfl, _, _, rfl, rfl, by omega, ?_⟩⟩
          exact out _ _ (b2.trans but_upd) ⟨_, _, _, upd_same⟩
        · refine ⟨_, rfl, .inl ⟨_, rfl, _, rfl, _, _, rfl, rfl, by omega, ?_⟩⟩
          exact out _ _ b2 ⟨_, _, _, hR2⟩
end
end K52
set_option Elab.async false
set_option linter.all false
set_option maxRecDepth 100000
set_option maxHeartbeats 4000000
namespace K52
open PySem PySem.Spec PyProof.Rows L2
theorem SL.more {H H' : Hp} {D p : Addr} {n m : Nat} {ps : List Addr} (h2 : ps.length = m) (h3 : ∀ i p, ps[i]? = some p → H' p = some (tB n i)) (hD : H' D = some (.lst (ps.map V.ref ++ [.ref p]))) (hp : H' p = some (tB n m)) : SL H' D n (m + 1) := by
  refine ⟨ps ++ [p], ?_, by rw [List.length_append, h2]; rfl, fun i q e => ?_⟩
  · rw [hD, List.map_append]
    rfl
  · by_cases c : i < ps.length
    · rw [List.getElem?_append_left c] at e
      exact h3 i q e
    · have c2 : i < (ps ++ [p]).length := (List.getElem?_eq_some_iff.mp e).1
      rw [List.length_append, List.length_singleton] at c2
      have ei : i = ps.length := by omega
      subst ei
      rw [List.getElem?_append_right (Nat.le_refl _), Nat.sub_self] at e
      have e' : p = q := Option.some.inj e
      rw [← e', h2]
      exact hp
section
variable {P : Program} {w : World} {K : PySem.W.Frag} {mg : Str → Option Value} {base : Heap} {f : Addr} {fd : FuncData}
/-! ### _law_every -/
theorem scEvery : FnScope ["_law_prime", "_law_size", "_law_found", "_law_turn", "_law_longer", "_law_told", "_law_number"] ["_law_prime", "_law_size"] (defScope sEvery) := ⟨rfl, rfl, rfl, by decide +kernel, rfl, by decide +kernel, by decide +kernel⟩
theorem ok_every (F : Fun K "_law_every" "_law_every" sEvery f fd) (T : Txt K mg) : FnOk P w K mg base CX0 1 f fd ["_law_prime", "_law_size"] spStates := by
  refine F.ok scEvery (fun vs H Q E h => ?_) (fun cdv A outer s H vs Q E hr h => ?_)
  · obtain ⟨n, rfl, _⟩ := h
    rfl
  · obtain ⟨n, rfl, h8, q⟩ := h
    refine ⟨_, pss_cons (ps_set (i := 2) scEvery.nd rfl (.inl rfl) (pe_lst (pa_cons (pe_tup pa_nil) pa_nil)))
      (pss_cons (ps_for PassesOwn.never rfl (pi_range1 (by rfl) T.range (pa_cons (pv 1) pa_nil)) (pg_name (i := 3) scEvery.nd rfl (.inl rfl))
        (pss_cons (ps_set (i := 4) scEvery.nd rfl (.inl rfl) (pe_lst pa_nil))
        (pss_cons (ps_for PassesOwn.never rfl (pi_list (pv 2)) (pg_name (i := 5) scEvery.nd rfl (.inr rfl))
          (pss_one (ps_set (i := 4) scEvery.nd rfl (.inl rfl) (pe_op op_cat (pv 4) (pe_lc (own := [("_law_number", 6)]) (g := gName 6) (tt := tYes) rfl scEvery.nd (pi_range1 (by rfl) T.range (pa_cons (pv 0) pa_nil))
            (blkOk_by (N := ["_law_prime", "_law_size", "_law_found", "_law_turn", "_law_longer", "_law_told", "_law_number"]) (sc := defScope sEvery) (by decide +kernel))
            (fun _ _ _ _ _ => pg_name (i := 6) scEvery.nd rfl (Or.inl rfl)) (fun _ _ _ _ _ => pts_nil)
            (fun _ _ _ _ _ => pe_op (r := rCatA K) op_catA (pv 5) (pe_tup (pa_cons (pv 6) pa_nil))))))))
        (pss_one (ps_set (i := 2) scEvery.nd rfl (.inl rfl) (pv 4))))))
      (pss_one (ps_ret (pv 2)))), ?_⟩
    refine ⟨Nat.zero_le _, fun p np => ⟨by show 1 ≤ sizeLine; decide, fun l nl => ?_⟩⟩
    have s1 : Same H (upd H p (.tup [])) := same_new np
    have s2 : Same (upd H p (.tup [])) (upd (upd H p (.tup [])) l (.lst [.ref p])) := same_new nl
    refine ⟨_, rfl, n, rfl, by omega, by omega, for_range (lo := 0) (n := (n : Int).toNat) (fun i σ H' => ∃ a y3 y4 y5, σ = [some (.int 2), some (.int n), some (.ref a), y3, y4, y5, none] ∧ Same H H' ∧ H a = none ∧ SL H' a i (2 ^ i))
      ⟨l, none, none, none, rfl, s1.trans s2, s1.free nl, ?_⟩ ?_ ?_⟩
    · refine ⟨[p], upd_same, rfl, fun i q e => ?_⟩
      cases i with
      | zero =>
        have e' : p = q := Option.some.inj e
        subst e'
        exact s2 _ _ upd_same
      | succ i => simp at e
    · rintro i σ H' hi ⟨a, y3, y4, y5, rfl, hs, na, hS⟩
      have hi' : i < n := by
        rw [Int.toNat_natCast] at hi
        exact hi
      obtain ⟨ps, ha, hl, hps⟩ := id hS
      have hp2 : 2 ^ i ≤ 256 := pow_le8 (by omega)
      refine ⟨Nat.zero_le _, fun g ng => ?_⟩
      have sg := same_new (o := .lst []) ng
      refine ⟨_, rfl, a, rfl, ⟨_, .of (sg _ _ ha)⟩, for_list (K := K) (a := a) (xs := ps.map V.ref) (fun j σ H2 => ∃ b y5, σ = [some (.int 2), some (.int n), some (.ref a), some (.int (0 + (i : Int))), some (.ref b), y5, none] ∧ Same H' H2 ∧ H' b = none ∧ SL H2 b (i + 1) (2 * j))
        ⟨g, y5, rfl, sg, ng, [], upd_same, rfl, fun k p e => by simp at e⟩ (fun j σ H2 _ ⟨_, _, _, z, _⟩ => .of (z _ _ ha)) ?_ ?_⟩
      · rintro j x σ H2 hx ⟨b, y5, rfl, sm, nb, hSb⟩
        have hj : j < 2 ^ i := by
          have := (List.getElem?_eq_some_iff.mp hx).1
          rw [List.length_map, hl] at this
          exact this
        obtain ⟨pj, hpj, rfl⟩ : ∃ p, ps[j]? = some p ∧ x = V.ref p := by
          rw [List.getElem?_map] at hx
          obtain ⟨p, e1, e2⟩ := Option.map_eq_some_iff.mp hx
          exact ⟨p, e1, e2.symm⟩
        have hpT : H2 pj = some (tB i j) := sm _ _ (hps j pj hpj)
        obtain ⟨qs, hb, hql, hqs⟩ := hSb
        refine ⟨_, rfl, _, rfl, 2, rfl, by decide, by decide, fun D hD => lc_range (lo := 0) (n := 2) (fun k H3 => Same H2 H3 ∧ ∃ rs : List Addr, H3 D = some (.lst (rs.map V.ref)) ∧ rs.length = k ∧ ∀ z p, rs[z]? = some p → H3 p = some (tB (i + 1) (2 * j + z)))
          ⟨same_new hD, [], upd_same, rfl, fun z p e => by simp at e⟩ ?_ ?_⟩
        · rintro k H3 hk ⟨sk, rs, hDk, hrl, hrs⟩
          refine ⟨rfl, tyes ?_⟩
          refine ⟨_, rfl, _, rfl, by show 1 ≤ sizeLine; decide, fun t nt => ?_⟩
          refine cat_any (K := K) (xs := (bits i j).map V.int) (ys := [V.int (0 + (k : Int))]) (.of (same_new nt _ _ (sk _ _ hpT))) upd_same (by simp) (by rw [List.length_map, bits_length, List.length_singleton]; omega) fun H5 c s5 hc => ?_
          have s45 : Same H3 H5 := (same_new nt).trans s5
          have hD5 : H5 D = some (.lst (rs.map V.ref)) := s45 _ _ hDk
          have ec : H5 c = some (tB (i + 1) (2 * j + k)) := by
            rw [hc, Int.zero_add]
            exact congrArg some (tB_snoc hk)
          refine ⟨_, hD5, ?_, ?_, rs ++ [c], ?_, ?_, fun z p e => ?_⟩
          · rw [List.length_map, hrl]
            exact small1000 (by omega)
          · exact same_put (sk.trans s45) hD
          · rw [upd_same, List.map_append]
            rfl
          · rw [List.length_append, hrl]
            rfl
          · have hp : H5 p = some (tB (i + 1) (2 * j + z)) := by
              by_cases c1 : z < rs.length
              · rw [List.getElem?_append_left c1] at e
                exact s45 _ _ (hrs z p e)
              · have c2 : z < (rs ++ [c]).length := (List.getElem?_eq_some_iff.mp e).1
                rw [List.length_append, List.length_singleton] at c2
                have ez : z = rs.length := by omega
                subst ez
                rw [List.getElem?_append_right (Nat.le_refl _), Nat.sub_self] at e
                have e' : c = p := Option.some.inj e
                rw [← e', hrl]
                exact ec
            exact put_keep hD5 hp (by intro z; cases z)
        · rintro H3 ⟨sk, rs, hDk, hrl, hrs⟩
          refine ⟨b, D, _, _, rfl, rfl, sk _ _ hb, hDk, ?_, fun c nc => ?_⟩
          · rw [List.length_map, List.length_map, hql, hrl]
            exact sizeBig (by omega)
          · have sc := same_new (o := .lst (qs.map V.ref ++ rs.map V.ref)) nc
            refine ⟨c, some (.ref pj), rfl, sm.trans (sk.trans sc), (sm.trans sk).free nc, qs ++ rs, ?_, ?_, fun z p e => ?_⟩
            · rw [upd_same, List.map_append]
            · rw [List.length_append, hql, hrl]
              omega
            · by_cases c1 : z < qs.length
              · rw [List.getElem?_append_left c1] at e
                exact sc _ _ (sk _ _ (hqs z p e))
              · rw [List.getElem?_append_right (by omega)] at e
                have := hrs _ _ e
                rw [show 2 * j + (z - qs.length) = z by omega] at this
                exact sc _ _ this
      · rintro σ H2 ⟨b, y5, rfl, sm, nb, hSb⟩
        rw [List.length_map, hl] at hSb
        refine ⟨_, rfl, b, some (.int (0 + (i : Int))), some (.ref b), y5, rfl, hs.trans sm, hs.free nb, ?_⟩
        rw [Nat.pow_succ, Nat.mul_comm]
        exact hSb
    · rintro σ H' ⟨a, y3, y4, y5, rfl, hs, na, hS⟩
      rw [Int.toNat_natCast] at hS
      exact ⟨_, rfl, q H' a hs na hS⟩
end
end K52
set_option Elab.async false
set_option linter.all false
set_option maxRecDepth 100000
set_option maxHeartbeats 4000000
namespace K52
open PySem PySem.Spec PyProof.Rows L2
/-- the table of the drawn orders -/
def tG (h : Nat) (g : Nat → Nat) (i : Nat) : Nat := if i < h then g (i % h) else 1 - g (i % h)
theorem tG_fair {h : Nat} {g : Nat → Nat} (p : 0 < h) (hg : ∀ i, i < h → g i ≤ 1) : Fair h (tG h g) := by
  refine ⟨p, fun i hi => ?_, fun i hi => ?_⟩
  · unfold tG
    rw [if_pos hi, mod_lo hi]
    exact hg i hi
  · unfold tG
    rw [if_pos hi, if_neg (by omega), mod_lo hi, mod_hi hi]
/-- the heap H' keeps what stands in H but at r, l, q -/
def But3 (r l q : Addr) (H H' : Hp) : Prop := ∀ b o, b ≠ r → b ≠ l → b ≠ q → H b = some o → H' b = some o
theorem but3_upd {r l q d : Addr} {H0 H : Hp} {o : HO} (b : But3 r l q H0 H) (hd : d = r ∨ d = l ∨ d = q) : But3 r l q H0 (upd H d o) := fun c x n1 n2 n3 e => by
  have nc : c ≠ d := fun z => by rcases hd with y | y | y <;> exact absurd (z.trans y) (by assumption)
  rw [upd_ne nc]
  exact b c x n1 n2 n3 e
theorem but3_but {r l q : Addr} {H0 H H1 : Hp} (b : But3 r l q H0 H) (c : But r H H1) : But3 r l q H0 H1 := fun x o n1 n2 n3 e => c x o n1 (b x o n1 n2 n3 e)
/-- the orders drawn for the rests below i -/
def Drawn' (H : Hp) (m i : Nat) (kvs : List (List Key × V)) (g : Nat → Nat) (o : Nat → Addr) : Prop :=
  ∀ j, j < i → g j ≤ 1 ∧ valV kvs (ky m j) = some (.ref (o j)) ∧ H (o j) = some (.lst [.int (g j : Int), .int ((1 - g j : Nat) : Int)])
section
variable {P : Program} {w : World} {K : PySem.W.Frag} {mg : Str → Option Value} {base : Heap} {f : Addr} {fd : FuncData}
/-! ### _law_fair_table -/
theorem scFair : FnScope ["_law_row", "_law_prime", "_law_size", "_law_shifts", "_law_rest", "_law_order", "_law_left", "_law_turn", "_law_state"] ["_law_row", "_law_prime", "_law_size"] (defScope sFair) := ⟨rfl, rfl, rfl, by decide +kernel, rfl, by decide +kernel, by decide +kernel⟩
def spFair (K : PySem.W.Frag) : Sp := fun vs H Q _ => ∃ (r sc : Addr) (ns : List Int) (m : Nat), vs = [.ref r, .int 2, .int ((m + 1 : Nat) : Int)] ∧ RowAt H r sc ∧ SqL K H sc (ns.map V.int) ∧ m ≤ 7 ∧
  ∀ H' p t, But r H H' → RowAt H' r sc → H' p = some (.tup (tV t (2 ^ (m + 1)))) → Fair (2 ^ m) t → Q (.ref p) H'
theorem ok_fair (F : Fun K "_law_fair_table" "_law_fair_table" sFair f fd) (T : Txt K mg) (C1 : Cal P w K mg base 1 "_law_every" ["_law_prime", "_law_size"] spStates) (C2 : Cal P w K mg base 1 "_law_taken" ["_law_row", "_law_many"] (spTaken K)) : FnOk P w K mg base CX0 2 f fd ["_law_row", "_law_prime", "_law_size"] (spFair K) := by
  refine F.ok scFair (fun vs H Q E h => ?_) (fun cdv A outer s H vs Q E hr h => ?_)
  · obtain ⟨r, sc, ns, m, rfl, _⟩ := h
    rfl
  · obtain ⟨r, sc, ns, m, rfl, hRow, hS, h7, q⟩ := h
    have hu := hu_of hr
    have hp2 : 2 ^ m ≤ 256 := pow_le8 (by omega)
    have hp3 : 2 ^ (m + 1) ≤ 256 := pow_le8 (by omega)
    refine ⟨_, pss_cons (ps_set (i := 3) scFair.nd rfl (.inr rfl) pe_dnewT)
      (pss_cons (ps_for PassesOwn.never rfl (pi_list (pe_cal C1 hr (by rfl) (pa_cons (pv 1) (pa_cons (pe_op op_sub (pv 2) pe_int) pa_nil)))) (pg_name (i := 4) scFair.nd rfl (.inl rfl))
        (pss_cons (ps_par (i := 5) (j := 6) (by rfl) scFair.nd rfl rfl (by decide) rfl rfl (pa_cons (pe_lst pa_nil) (pa_cons (pe_listRg rfl (by rfl) T.list (prg_1 (by rfl) T.range (pv 1))) pa_nil)) (by rfl))
        (pss_cons (ps_for PassesOwn.never rfl (pi_range1 (by rfl) T.range (pa_cons (pv 1) pa_nil)) (pg_name (i := 7) scFair.nd rfl (.inl rfl))
          (pss_one (ps_expr (pe_bm PySem.F.plainAttrs_list PySem.F.slot_list_append PySem.F.type_list_append mt_append (pv 5) (pa_cons (pe_bm PySem.F.plainAttrs_list PySem.F.slot_list_pop PySem.F.type_list_pop mt_popAt (pv 6)
            (pa_cons (pe_cal C2 hr (by rfl) (pa_cons (pv 0) (pa_cons (pe_callB call_len_seq (by rfl) T.len PySem.boot_len (pa_cons (pv 6) pa_nil)) pa_nil))) pa_nil)) pa_nil)))))
        (pss_one (ps_dput hu (pv 3) (pv 4) (pv 5) rfl)))))
      (pss_one (ps_ret (pe_callTy call_tuple_of (by rfl) T.tuple (by decide +kernel) (pa_cons (pe_lc (own := [("_law_state", 8)]) (g := gName 8) (tt := tYes) rfl scFair.nd (pi_list (pe_cal C1 hr (by rfl) (pa_cons (pv 1) (pa_cons (pv 2) pa_nil))))
        (blkOk_by (N := ["_law_row", "_law_prime", "_law_size", "_law_shifts", "_law_rest", "_law_order", "_law_left", "_law_turn", "_law_state"]) (sc := defScope sFair) (by decide +kernel))
        (fun _ _ _ _ _ => pg_name (i := 8) scFair.nd rfl (Or.inl rfl)) (fun _ _ _ _ _ => pts_nil)
        (fun _ _ _ _ _ => pe_ix (r := rIxL K) ix_list (pe_dget hu (pv 3) (pe_slice (r := rSlA K) sl_tupA (pv 8) (po_some pe_int) po_none) (fun _ _ => rfl)) (pe_ix (r := rIxT K) ix_tup (pv 8) pe_int (fun _ _ => rfl)) (fun _ _ => rfl))) pa_nil))))), ?_⟩
    intro d nd
    have hRd := hRow.same (same_new (o := .dT []) nd)
    have ndr : d ≠ r := by
      obtain ⟨u, j2, j3, e⟩ := hRow
      exact (ne_of_none e nd).symm
    refine ⟨_, rfl, _, rfl, ((m + 1 : Nat) : Int), 1, rfl, rfl, ?_⟩
    refine ⟨m, ?_, by omega, fun H1 st s1 nst hSL => ⟨st, rfl, ?_⟩⟩
    · show [V.int 2, V.int (((m + 1 : Nat) : Int) - 1)] = _
      rw [show ((m + 1 : Nat) : Int) - 1 = (m : Int) by omega]
    obtain ⟨ps, hst, hpl, hps⟩ := id hSL
    have nst0 : H st = none := (same_new nd).free nst
    have nstr : st ≠ r := by
      obtain ⟨u, j2, j3, e⟩ := hRow
      exact (ne_of_none e nst0).symm
    have b01 : But r H H1 := same_but ((same_new nd).trans s1)
    refine ⟨⟨_, .of hst⟩, for_list (K := K) (a := st) (xs := ps.map V.ref) (fun i σ H2 => ∃ y4 y5 y6 y7 kvs g o, σ = [some (.ref r), some (.int 2), some (.int ((m + 1 : Nat) : Int)), some (.ref d), y4, y5, y6, y7, none] ∧ But r H H2 ∧ RowAt H2 r sc ∧ H2 st = some (.lst (ps.map V.ref)) ∧
      (∀ j p, ps[j]? = some p → H2 p = some (tB m j)) ∧ H2 d = some (.dT kvs) ∧ kvs.length ≤ i ∧ Drawn' H2 m i kvs g o)
      ⟨none, none, none, none, [], fun _ => 0, fun _ => 0, rfl, b01, hRd.same s1, hst, hps, s1 _ _ upd_same, Nat.le_refl _, fun j hj => absurd hj (Nat.not_lt_zero _)⟩ (fun i σ H2 _ ⟨_, _, _, _, _, _, _, _, _, _, z, _⟩ => .of z) ?_ ?_⟩
    · rintro i x σ H2 hx ⟨y4, y5, y6, y7, kvs, g, o, rfl, b2, hR2, hst2, hps2, hd2, hlen, hD⟩
      have hi : i < 2 ^ m := by
        have := (List.getElem?_eq_some_iff.mp hx).1
        rw [List.length_map, hpl] at this
        exact this
      obtain ⟨p, hp', rfl⟩ : ∃ p, ps[i]? = some p ∧ x = V.ref p := by
        rw [List.getElem?_map] at hx
        obtain ⟨p, e1, e2⟩ := Option.map_eq_some_iff.mp hx
        exact ⟨p, e1, e2.symm⟩
      -- _law_order, _law_left = [], list(range(2))
      refine ⟨Nat.zero_le _, fun l nl => ?_⟩
      refine ⟨_, rfl, 2, rfl, RgOk.of_le (by decide) (by decide) (by decide) (by decide), fun q' nq => ⟨_, _, rfl, ?_⟩⟩
      have s2 : Same H2 (upd (upd H2 l (.lst [])) q' (.lst (rgV 0 2))) := (same_new nl).trans (same_new nq)
      have nq2 : H2 q' = none := (same_new nl).free nq
      have nql : q' ≠ l := fun z => by rw [z, upd_same] at nq; cases nq
      have nlr : l ≠ r := by
        obtain ⟨u, j2, j3, e⟩ := hR2
        exact (ne_of_none e nl).symm
      have nqr : q' ≠ r := by
        obtain ⟨u, j2, j3, e⟩ := hR2
        exact (ne_of_none e nq2).symm
      have hl0 : upd (upd H2 l (.lst [])) q' (.lst (rgV 0 2)) l = some (.lst []) := same_new nq _ _ upd_same
      refine ⟨_, rfl, 2, rfl, by decide, by decide, for_range (lo := 0) (n := (2 : Int).toNat) (fun k σ H3 => ∃ y7, σ = [some (.ref r), some (.int 2), some (.int ((m + 1 : Nat) : Int)), some (.ref d), some (.ref p), some (.ref l), some (.ref q'), y7, none] ∧ But3 r l q' H2 H3 ∧ RowAt H3 r sc ∧
        ((k = 0 ∧ H3 l = some (.lst []) ∧ H3 q' = some (.lst [.int 0, .int 1])) ∨ (k = 1 ∧ ∃ z : Nat, z ≤ 1 ∧ H3 l = some (.lst [.int (z : Int)]) ∧ H3 q' = some (.lst [.int ((1 - z : Nat) : Int)])) ∨
         (k = 2 ∧ ∃ z : Nat, z ≤ 1 ∧ H3 l = some (.lst [.int (z : Int), .int ((1 - z : Nat) : Int)]))))
        ⟨y7, rfl, fun c x _ _ _ e => s2 c x e, hR2.same s2, .inl ⟨rfl, hl0, upd_same⟩⟩ ?_ ?_⟩
      · rintro k σ H3 hk ⟨y, rfl, b3, hR3, hcase⟩
        have hb3 : ∀ {H4}, But r H3 H4 → But3 r l q' H2 H4 := fun c => but3_but b3 c
        have hS3 : SqL K H3 sc (ns.map V.int) := by
          have hS2 : SqL K H2 sc (ns.map V.int) := script_but hRow b2 hS
          obtain ⟨u2, j22, j32, e2⟩ := hR2
          rcases hS2 with (z | ⟨ob, z⟩) | z
          · exact .inl (.inl (b3 _ _ (script_ne e2 z) (ne_of_none z nl) (ne_of_none z nq2) z))
          · exact .inl (.inr ⟨ob, b3 _ _ (ne_of z e2 (by intro y; cases y)) (ne_of_none z nl) (ne_of_none z nq2) z⟩)
          · exact .inr z
        rcases hcase with ⟨rfl, hl, hq⟩ | ⟨rfl, z, hz, hl, hq⟩ | ⟨rfl, _⟩
        · refine ⟨_, rfl, .inl ⟨rfl, _, SqL.of hl⟩, _, rfl, .inl ⟨rfl, _, SqL.of hq⟩, _, rfl, _, rfl, q', _, rfl, .inl (.of hq), ?_⟩
          refine ⟨r, sc, ns, 2, rfl, hR3, hS3, by decide, by decide, fun H4 v b4 hR4 hv => ?_⟩
          have hq4 : H4 q' = some (.lst [.int 0, .int 1]) := b4 _ _ nqr hq
          have hl4 : H4 l = some (.lst []) := b4 _ _ nlr hl
          have hv2 : v = 0 ∨ v = 1 := by omega
          have key : ∀ (y1 y2 : Int), ([V.int 0, V.int 1] : List V)[v]? = some (.int y1) → ([V.int 0, V.int 1] : List V).eraseIdx v = [V.int y2] → y1 = (v : Int) ∧ y2 = ((1 - v : Nat) : Int) := fun y1 y2 e1 e2 => by
            rcases hv2 with rfl | rfl
            · cases e1
              cases e2
              exact ⟨rfl, rfl⟩
            · cases e1
              cases e2
              exact ⟨rfl, rfl⟩
          have six : seqIndex? (v : Int) ([V.int 0, V.int 1] : List V).length = some v := by
            rcases hv2 with rfl | rfl <;> decide +kernel
          obtain ⟨y1, e1⟩ : ∃ y1, ([V.int 0, V.int 1] : List V)[v]? = some (.int y1) := by
            rcases hv2 with rfl | rfl
            · exact ⟨0, rfl⟩
            · exact ⟨1, rfl⟩
          obtain ⟨y2, e2⟩ : ∃ y2, ([V.int 0, V.int 1] : List V).eraseIdx v = [V.int y2] := by
            rcases hv2 with rfl | rfl
            · exact ⟨1, rfl⟩
            · exact ⟨0, rfl⟩
          obtain ⟨f1, f2⟩ := key y1 y2 e1 e2
          refine ⟨q', _, v, v, _, rfl, rfl, hq4, by omega, by omega, six, e1, ?_⟩
          refine ⟨l, _, _, rfl, rfl, (by rw [upd_ne nql.symm]; exact hl4), by show 0 < sizeLine; decide, ?_⟩
          refine ⟨some (.int (0 + ((0 : Nat) : Int))), rfl, but3_upd (but3_upd (hb3 b4) (.inr (.inr rfl))) (.inr (.inl rfl)), ?_, .inr (.inl ⟨rfl, v, by omega, ?_, ?_⟩)⟩
          · obtain ⟨u, j2, j3, e⟩ := hR4
            exact ⟨u, j2, j3, by rw [upd_ne nlr.symm, upd_ne nqr.symm]; exact e⟩
          · rw [upd_same, f1]
            rfl
          · rw [upd_ne nql, upd_same, e2, f2]
        · refine ⟨_, rfl, .inl ⟨rfl, _, SqL.of hl⟩, _, rfl, .inl ⟨rfl, _, SqL.of hq⟩, _, rfl, _, rfl, q', _, rfl, .inl (.of hq), ?_⟩
          refine ⟨r, sc, ns, 1, rfl, hR3, hS3, by decide, by decide, fun H4 v b4 hR4 hv => ?_⟩
          have hq4 : H4 q' = some (.lst [.int ((1 - z : Nat) : Int)]) := b4 _ _ nqr hq
          have hl4 : H4 l = some (.lst [.int (z : Int)]) := b4 _ _ nlr hl
          have v0 : v = 0 := by omega
          subst v0
          refine ⟨q', _, ((0 : Nat) : Int), 0, _, rfl, rfl, hq4, by decide, by decide, (by show seqIndex? 0 1 = some 0; decide +kernel), rfl, ?_⟩
          refine ⟨l, _, _, rfl, rfl, (by rw [upd_ne nql.symm]; exact hl4), by show 1 < sizeLine; decide, ?_⟩
          refine ⟨some (.int (0 + ((1 : Nat) : Int))), rfl, but3_upd (but3_upd (hb3 b4) (.inr (.inr rfl))) (.inr (.inl rfl)), ?_, .inr (.inr ⟨rfl, z, hz, ?_⟩)⟩
          · obtain ⟨u, j2, j3, e⟩ := hR4
            exact ⟨u, j2, j3, by rw [upd_ne nlr.symm, upd_ne nqr.symm]; exact e⟩
          · rw [upd_same]
            rfl
        · exact absurd hk (by decide)
      · rintro σ H3 ⟨y, rfl, b3, hR3, hcase⟩
        obtain ⟨z, hz, hl⟩ : ∃ z : Nat, z ≤ 1 ∧ H3 l = some (.lst [.int (z : Int), .int ((1 - z : Nat) : Int)]) := by
          rcases hcase with ⟨e, _⟩ | ⟨e, _⟩ | ⟨_, z, h1, h2⟩
          · exact absurd e (by decide)
          · exact absurd e (by decide)
          · exact ⟨z, h1, h2⟩
        have keep : ∀ {b : Addr} {ob : HO}, b ≠ r → H2 b = some ob → H3 b = some ob := fun nb e => b3 _ _ nb (ne_of_none e nl) (ne_of_none e nq2) e
        have hd3 : H3 d = some (.dT kvs) := keep ndr hd2
        have npr : ∀ {j p}, ps[j]? = some p → p ≠ r := fun e => by
          obtain ⟨u, j2, j3, e2⟩ := hR2
          exact ne_of (hps2 _ _ e) e2 (by intro z; cases z)
        have hpT : H3 p = some (tB m i) := keep (npr hp') (hps2 _ _ hp')
        refine ⟨_, rfl, _, rfl, _, rfl, d, _, rfl, DPut.t hd3 (ky_at hpT) (small1000 (by omega)), ?_⟩
        refine ⟨_, _, _, _, _, fun j => if j = i then z else g j, fun j => if j = i then l else o j, rfl, ?_, ?_, ?_, ?_, upd_same, ?_, ?_⟩
        · intro b ob nb e
          rw [upd_ne (show b ≠ d from fun y => by rw [y, nd] at e; cases e)]
          exact keep nb (b2 _ _ nb e)
        · obtain ⟨u, j2, j3, e⟩ := hR3
          exact ⟨u, j2, j3, put_keep hd3 e (by intro z; cases z)⟩
        · exact put_keep hd3 (keep nstr hst2) (by intro z; cases z)
        · exact fun j p e => put_keep hd3 (keep (npr e) (hps2 j p e)) (by intro z; cases z)
        · have := length_putK kvs (ky m i) (V.ref l)
          omega
        · intro j hj
          by_cases c : j = i
          · subst c
            show (if j = j then z else g j) ≤ 1 ∧ valV _ _ = some (.ref (if j = j then l else o j)) ∧ upd H3 d _ (if j = j then l else o j) = some (.lst [.int ((if j = j then z else g j : Nat) : Int), .int ((1 - (if j = j then z else g j) : Nat) : Int)])
            rw [if_pos rfl, if_pos rfl, valV_put, if_pos rfl]
            exact ⟨hz, rfl, put_keep hd3 hl (by intro z; cases z)⟩
          · have hj' : j < i := by omega
            obtain ⟨a1, a2, a3⟩ := hD j hj'
            show (if j = i then z else g j) ≤ 1 ∧ valV _ _ = some (.ref (if j = i then l else o j)) ∧ upd H3 d _ (if j = i then l else o j) = some (.lst [.int ((if j = i then z else g j : Nat) : Int), .int ((1 - (if j = i then z else g j) : Nat) : Int)])
            rw [if_neg c, if_neg c, valV_put, if_neg (fun e => c (ky_inj (by omega) hi e))]
            have nor : o j ≠ r := by
              obtain ⟨u, j2, j3, e⟩ := hR2
              exact ne_of a3 e (by intro z; cases z)
            exact ⟨a1, a2, put_keep hd3 (keep nor a3) (by intro z; cases z)⟩
    · rintro σ H2 ⟨y4, y5, y6, y7, kvs, g, o, rfl, b2, hR2, hst2, hps2, hd2, hlen, hD⟩
      rw [List.length_map, hpl] at hlen hD
      refine ⟨_, rfl, _, rfl, m + 1, rfl, by omega, fun H3 st2 s3 nst3 hSL3 => ⟨st2, rfl, ?_⟩⟩
      obtain ⟨qs, hst3, hql, hqs⟩ := id hSL3
      have pos : 0 < 2 ^ m := Nat.pow_pos (by decide)
      refine ⟨⟨_, .of hst3⟩, fun D hDn => lc_list (K := K) (a := st2) (xs := qs.map V.ref) (fun i H4 => Same H3 H4 ∧ H4 D = some (.lst (tV (tG (2 ^ m) g) i))) ⟨same_new hDn, upd_same⟩ (fun i H4 _ ⟨z, _⟩ => .of (z _ _ hst3)) ?_ ?_⟩
      · intro i x H4 hx ⟨s4, hD4⟩
        have hi : i < 2 ^ (m + 1) := by
          have := (List.getElem?_eq_some_iff.mp hx).1
          rw [List.length_map, hql] at this
          exact this
        obtain ⟨p, hp', rfl⟩ : ∃ p, qs[i]? = some p ∧ x = V.ref p := by
          rw [List.getElem?_map] at hx
          obtain ⟨p, e1, e2⟩ := Option.map_eq_some_iff.mp hx
          exact ⟨p, e1, e2.symm⟩
        have hpT : H4 p = some (tB (m + 1) i) := s4 _ _ (hqs i p hp')
        refine ⟨rfl, tyes ?_⟩
        refine ⟨_, rfl, _, rfl, 1, rfl, ?_⟩
        unfold tNoPart
        show rSlA K (.ref p) (some 1) none H4 _
        refine tail_any (K := K) (xs := (bits (m + 1) i).map V.int) (.of hpT) (fun z => ?_) fun H5 c s5 hc => ?_
        · have := congrArg List.length z
          rw [List.length_map, bits_length] at this
          cases this
        · have hmod := Nat.mod_lt i pos
          obtain ⟨g1, v1, o1⟩ := hD (i % 2 ^ m) hmod
          have s25 : ∀ {b ob}, H2 b = some ob → H5 b = some ob := fun e => s5 _ _ (s4 _ _ (s3 _ _ e))
          have hcT : H5 c = some (tB m (i % 2 ^ m)) := by
            rw [hc, ← List.map_drop, bits_tail]
          refine ⟨d, .ref (o (i % 2 ^ m)), rfl, ?_, ?_⟩
          · rw [← v1]
            exact DGet.t (s25 hd2) (ky_at hcT)
          · have hh : ((bits (m + 1) i).map V.int)[0]? = some (.int ((if i < 2 ^ m then 0 else 1 : Nat) : Int)) := by
              rw [List.getElem?_map, bits_head m i hi]
              rfl
            refine ⟨_, rfl, p, _, 0, _, rfl, rfl, .of (s5 _ _ hpT), atI_nat (j := 0) hh, ?_⟩
            refine ⟨o (i % 2 ^ m), _, _, .int (tG (2 ^ m) g i : Int), rfl, rfl, .of (s25 o1), ?_, ?_⟩
            · refine atI_nat ?_
              unfold tG
              by_cases cc : i < 2 ^ m
              · rw [if_pos cc, if_pos cc]
                rfl
              · rw [if_neg cc, if_neg cc]
                rfl
            · refine ⟨_, s5 _ _ hD4, ?_, ?_, ?_⟩
              · rw [tV_length]
                exact small1000 (by omega)
              · exact fun b ob e => by
                  rw [upd_ne (show b ≠ D from fun z => by rw [z, hDn] at e; cases e)]
                  exact s5 _ _ (s4 _ _ e)
              · rw [upd_same]
                unfold tV
                rw [List.range_succ, List.map_append]
                rfl
      · intro H4 ⟨s4, hD4⟩
        rw [List.length_map, hql] at hD4
        refine ⟨D, _, rfl, .inl ⟨.of hD4, fun p np => ?_⟩⟩
        have s24 : Same H2 (upd H4 p (.tup (tV (tG (2 ^ m) g) (2 ^ (m + 1))))) := s3.trans (s4.trans (same_new np))
        exact q _ p (tG (2 ^ m) g) (b2.trans (same_but s24)) (hR2.same s24) upd_same (tG_fair pos fun i hi => (hD i hi).1)
end
end K52
set_option Elab.async false
set_option linter.all false
set_option maxRecDepth 100000
set_option maxHeartbeats 4000000
namespace K52
open PySem PySem.W PyProof.Rows
/-! ### sorted(xs), xs a list of tuples of ints of any lengths: the first empty, or none empty -/
/-- a tuple of ints reads as that datum -/
theorem reads_ints {h : Heap} {a : Addr} {xs : Array Value} {ns : List Int} (ht : IsTup h a xs) (hi : IntsAre xs.toList ns) : ∃ as, Reads h (.ref a) (.tuple (ns.map .int)) as := by
  obtain ⟨ob, g1, g2, ep, g3⟩ := ht
  have key : ∀ {vs : List Value} {ms : List Int}, IntsAre vs ms → ∃ as, ReadsAll h vs (ms.map PyData.int) as := by
    intro vs ms i
    induction i with
    | nil => exact ⟨_, .nil⟩
    | cons m t _ ih =>
      obtain ⟨as, r⟩ := ih
      exact ⟨_, .cons (.int m t) r⟩
  obtain ⟨as, r⟩ := key hi
  exact ⟨as, .tuple g1 g2 g3 r⟩
theorem rowLt_lex : ∀ ns ms : List Int, rowLt (ns.map .int) (ms.map .int) = HT.lexLt ns ms
  | [], [] => by decide +kernel
  | [], m :: ms => by
    unfold rowLt
    rw [List.map_nil, List.map_cons]
    rw [toks_all_cons]
    rfl
  | n :: ns, [] => by
    unfold rowLt
    rw [List.map_nil, List.map_cons]
    rw [toks_all_cons]
    rfl
  | n :: ns, m :: ms => by
    have e : rowLt ((n :: ns).map .int) ((m :: ms).map .int) = if PyData.eqv (.int n) (.int m) = true then rowLt (ns.map .int) (ms.map .int) else dataLt (.int n) (.int m) := dataLt_cons (by simp [alike]) _ _
    rw [e, rowLt_lex ns ms, dataLt_int, HT.lexLt_cons]
    have q : PyData.eqv (.int n) (.int m) = decide (n = m) := by
      simp only [PyData.eqv]
      exact Bool.beq_eq_decide_eq _ _
    rw [q]
    by_cases c : n = m
    · rw [if_pos (decide_eq_true c), if_pos c]
    · rw [if_neg (by rw [decide_eq_false c]; decide), if_neg c]
section
variable {prog : Program} {w : World} {s : Shared} {A : Around} {E : Value → Shared → Prop}
theorem oneLt_tup {l b : Addr} {items items2 : Array Value} {ns ms : List Int} {Q : Bool → Shared → Prop} (hl : IsTup s.heap l items) (hb : IsTup s.heap b items2) (hi : IntsAre items.toList ns) (hj : IntsAre items2.toList ms)
    (hu : A.units < cLine) (h : Q (HT.lexLt ns ms) s) : wpAny (model prog w) A (oneLt' true (.ref l) (.ref b)) Q E s := by
  obtain ⟨⟨kl, od, dt, so⟩, oH, cH, n, dH⟩ := id hl
  obtain ⟨⟨kl2, od2, dt2, so2⟩, oH2, cH2, ep2, dH2⟩ := id hb
  simp only at cH dH cH2 dH2
  subst cH dH cH2 dH2
  rw [oneLt'_eq]
  simp only [if_true]
  refine wpAny_bind (wpAny_cRoomFor hu (wpAny_bind ?_))
  refine (wpAny_callSpecialIfBound?_slot (T := "tuple") ⟨_, oH, rfl⟩ PySem.F.slot_tuple_lt (call_meets PySem.F.slot_tuple_lt ⟨_, oH, rfl⟩ PySem.F.entry_tuple_lt (PySem.F.args_tuple_lt_2 _ _) (HT.tuple_lt_ints l b items items2 n ep2 od od2 so so2 ns ms hi hj)
    ⟨oH, oH2, ?_⟩))
  exact wpAny_truthy_bool h
/-- what firstOfTuple gives -/
theorem firsts_run {M : Model} : ∀ (vs : List Value) (fs : List (Option Value)) {Q : List (Option Value) → Shared → Prop}, EachIs (fun v f => ∃ a xs, v = Value.ref a ∧ IsTup s.heap a xs ∧ xs[0]? = f) vs fs → Q fs s → wpAny M A (vs.mapM firstOfTuple') Q E s
  | _, _, _, .nil, h => by
    rw [List.mapM_nil]
    exact wpAny_pure h
  | _, _, Q, .cons (a := v) (b := f) (as := vs) (bs := fs) ⟨a, xs, e, ⟨o, oH, cH, n, dH⟩, hf⟩ t, h => by
    subst e
    rw [List.mapM_cons]
    refine wpAny_bind ?_
    rw [kas_first_eq]
    refine wpAny_bind (Looks.here (show Looks M s.heap (typeOf (.ref a)) o.cls from (Looks.ld oH).andThen .now) ?_)
    rw [cH, if_neg (by first | decide | simp)]
    refine wpAny_bind (listItems_at oH dH (wpAny_pure ?_))
    rw [hf]
    exact wpAny_bind (firsts_run vs fs (Q := fun bs s' => wpAny M A (pure (f :: bs)) Q E s') t (wpAny_pure h))
/-- the first tuple empty: all of one type -/
theorem kind_first {M : Model} {vs : List Value} {fs : List (Option Value)} {Q : SortKind → Shared → Prop} (h2 : 1 ≤ vs.length) (t : EachIs (fun v f => ∃ a xs, v = Value.ref a ∧ IsTup s.heap a xs ∧ xs[0]? = f) vs (none :: fs)) (h : Q oneType' s) : wpAny M A (keyKind' vs.toArray) Q E s := by
  rw [kat_kind_eq]
  rw [List.mapM_toArray, map_eq_pure_bind]
  refine wpAny_bind (wpAny_bind (firsts_run vs _ t (wpAny_pure ?_)))
  rw [if_neg (by simp)]
  rw [if_neg (by simp), oneTypeOnly'_eq]
  rw [List.mapM_toArray, map_eq_pure_bind]
  have hT : ∀ v ∈ vs, Looks M s.heap (typeOf v) (Value.type "tuple") := fun v hv => by
    have : ∃ f, ∃ a xs, v = Value.ref a ∧ IsTup s.heap a xs ∧ xs[0]? = f := by
      obtain ⟨f, _, q⟩ := t.left v hv
      exact ⟨f, q⟩
    obtain ⟨_, a, xs, e, ⟨o, ho, hc, n, hd⟩, _⟩ := this
    subst e
    rw [← hc]
    exact (Looks.ld ho).andThen .now
  refine wpAny_bind (wpAny_bind (wpAny_bind (kas_mapM (r := Value.type "tuple") _ (fun v hv Q' hq => (hT v hv).here hq) (wpAny_pure ?_))))
  obtain ⟨v₁, rest, rfl⟩ : ∃ v₁ rest, vs = v₁ :: rest := by
    match vs, h2 with
    | v₁ :: rest, _ => exact ⟨v₁, rest, rfl⟩
  have hall : ((List.map (fun _ => Value.type "tuple") (v₁ :: rest)).toArray.all fun x => x == Value.type "tuple") = true := by
    rw [List.all_toArray, List.all_map, List.all_eq_true]
    exact fun _ _ => rfl
  have h0 : (List.map (fun _ => Value.type "tuple") (v₁ :: rest)).toArray[0]? = some (Value.type "tuple") := by simp
  rw [h0]
  simp only [hall, if_true]
  refine wpAny_pure ?_
  exact wpAny_pure h
/-- an item: its address, its ints -/
abbrev It2 : Type := Addr × List Int
def encT (q : It2) : PyData := .tuple (q.2.map .int)
theorem encT_alike (p q : It2) : alike (encT p) (encT q) = true := by
  unfold encT
  simp only [alike]
  exact alike_ints _ _
theorem encT_depth (q : It2) : (encT q).depth ≤ 1 := by
  unfold encT
  simp only [PyData.depth, depth_ints]
  exact Nat.le_refl _
/-- the item stands there -/
def StT (h : Heap) (v : Value) (q : It2) : Prop := v = Value.ref q.1 ∧ ∃ xs, IsTup h q.1 xs ∧ IntsAre xs.toList q.2
theorem StT.reads {h : Heap} {v : Value} {q : It2} (x : StT h v q) : ∃ as, Reads h v (encT q) as := by
  obtain ⟨rfl, xs, ht, hi⟩ := x
  exact reads_ints ht hi
theorem enc_inj {p q : It2} (e : encT p = encT q) : p.2 = q.2 := by
  unfold encT at e
  have e' := PyData.tuple.inj e
  have key : ∀ a b : List Int, a.map PyData.int = b.map PyData.int → a = b := by
    intro a
    induction a with
    | nil =>
      intro b q
      cases b with
      | nil => rfl
      | cons y b => cases q
    | cons x a ih =>
      intro b q
      cases b with
      | nil => cases q
      | cons y b =>
        rw [List.map_cons, List.map_cons] at q
        injection q with q1 q2
        injection q1 with q1
        rw [q1, ih b q2]
  exact key _ _ e'
theorem sortsAt_first {vs : List Value} {q : It2} {qs : List It2} (e : EachIs (StT s.heap) vs (q :: qs)) (he : q.2 = []) (hu : A.units < cLine) : SortsAt prog w A s (dataKind s.heap ((q :: qs).map encT)) vs := by
  have hal : AllAlike ((q :: qs).map encT) := AllAlike.of encT_alike
  have back : ∀ {v : Value} {k : List (Int ⊕ List Nat)}, (dataKind s.heap ((q :: qs).map encT)).keyOf v = some k → ∃ (a : Addr) (xs : Array Value) (ns : List Int), v = Value.ref a ∧ IsTup s.heap a xs ∧ IntsAre xs.toList ns ∧ k = keyToksAll (ns.map .int) := fun {v k} hk => by
    obtain ⟨d, as, hd, ra, rfl⟩ := dataKind_inv hk
    obtain ⟨p, hp, rfl⟩ := List.mem_map.mp hd
    unfold encT at ra ⊢
    cases ra with
    | @tuple a o xs n _ _ h1 h2 h3 h4 =>
      refine ⟨a, xs, p.2, rfl, ⟨o, h1, h2, n, h3⟩, ?_, by simp only [keyToks]⟩
      have key : ∀ {us : List Value} {ms : List Int} {as : List Addr}, ReadsAll s.heap us (ms.map PyData.int) as → IntsAre us ms := by
        intro us ms
        induction ms generalizing us with
        | nil =>
          intro as r
          have r' : ReadsAll s.heap us [] as := r
          cases r'
          exact .nil
        | cons m ms ih =>
          intro as r
          have r' : ReadsAll s.heap us (.int m :: ms.map .int) as := r
          cases r' with
          | cons h1 h2 =>
            cases h1
            exact .cons _ _ (ih h2)
      exact key h4
  refine ⟨fun v hv => ?_, oneType', ?_, fun h2 E Q hq => ?_⟩
  · obtain ⟨p, hp, x⟩ := e.left v hv
    obtain ⟨as, r⟩ := x.reads
    exact ⟨_, dataKind_some hal (List.mem_map.mpr ⟨p, hp, rfl⟩) r⟩
  · intro E x y a b Q ha hb hq
    obtain ⟨l, xs, ns, rfl, h1, h2, rfl⟩ := back ha
    obtain ⟨l', xs', ms, rfl, k1, k2, rfl⟩ := back hb
    rw [keyLt'_oneType]
    refine oneLt_tup h1 k1 h2 k2 hu ?_
    rw [← rowLt_lex]
    exact hq
  · have t : ∃ fs, EachIs (fun v f => ∃ a xs, v = Value.ref a ∧ IsTup s.heap a xs ∧ xs[0]? = f) vs (none :: fs) := by
      have all : ∀ {vs : List Value} {qs : List It2}, EachIs (StT s.heap) vs qs → ∃ fs, EachIs (fun v f => ∃ a xs, v = Value.ref a ∧ IsTup s.heap a xs ∧ xs[0]? = f) vs fs := by
        intro vs qs z
        induction z with
        | nil => exact ⟨[], .nil⟩
        | cons h1 _ ih =>
          obtain ⟨fs, ih⟩ := ih
          obtain ⟨rfl, xs, ht, _⟩ := h1
          exact ⟨_ :: fs, .cons ⟨_, xs, rfl, ht, rfl⟩ ih⟩
      cases e with
      | cons h1 h3 =>
        obtain ⟨fs, ht⟩ := all h3
        obtain ⟨rfl, xs, hx, hi⟩ := h1
        rw [he] at hi
        refine ⟨fs, .cons ⟨_, xs, rfl, hx, ?_⟩ ht⟩
        have e0 : xs.toList = [] := by
          cases q0 : xs.toList with
          | nil => rfl
          | cons y ys =>
            rw [q0] at hi
            cases hi
        rw [← Array.getElem?_toList, e0]
        rfl
    obtain ⟨fs, t⟩ := t
    exact kind_first (by omega) t hq
theorem StT.keeps {h h' : Heap} {v : Value} {q : It2} (k : ∀ b o, h.get? b = some o → h'.get? b = some o) (x : StT h v q) : StT h' v q := by
  obtain ⟨e, xs, ⟨o, ho, r⟩, hi⟩ := x
  exact ⟨e, xs, ⟨o, k _ _ ho, r⟩, hi⟩
theorem sorted_tupsV {l : Addr} {vs : List Value} {qs : List It2} {Q : Value → Shared → Prop} (hl : s.heap.IsList l vs.toArray) (e : EachIs (StT s.heap) vs qs) (hk : (∀ q ∈ qs, q.2 ≠ []) ∨ ∃ q r, qs = q :: r ∧ q.2 = []) (hL : qs.length ≤ sizeLine) (hu : A.units + 8 < cLine)
    (h : ∀ out, EachIs (StT s.heap) out (qs.mergeSort (dataLe false encT)) → out.length = qs.length → Q (.ref (s.heap.objs.size + 1)) { s with heap := sortedAll s.heap vs (List.toArray out) }) :
    (wpAny (model prog w) A (call (.builtin "sorted") [.ref l]) Q E s) := by
  have hal : AllAlike (qs.map encT) := AllAlike.of encT_alike
  have e' : EachIs (StT (sortingHeap (copyHeap s.heap vs) (s.heap.objs.size + 1) vs)) vs qs := e.mono fun _ _ x => x.keeps fun _ _ => sorting_copy_old
  have er' : EachIs (fun v b => ∃ as, Reads (sortingHeap (copyHeap s.heap vs) (s.heap.objs.size + 1) vs) v (encT b) as) vs qs := e'.mono fun _ _ x => x.reads
  refine sorted_vals hl (κ := dataKind (sortingHeap (copyHeap s.heap vs) (s.heap.objs.size + 1) vs) (qs.map encT)) ?_ (by rw [e.length]; exact hL)
    (h _ (sortVals_data false e er' hal) (by rw [sortVals_length false rfl]; exact e.length))
  rcases hk with hk | ⟨q, r, rfl, he⟩
  · refine SortsAt.data (s := { s with heap := sortingHeap (copyHeap s.heap vs) (s.heap.objs.size + 1) vs }) (each_map (R := fun v d => ∃ as, Reads (sortingHeap (copyHeap s.heap vs) (s.heap.objs.size + 1) vs) v d as) encT er') hal (.inl fun d hd => ?_) fun d hd => ?_
    · obtain ⟨q, hq, rfl⟩ := List.mem_map.mp hd
      unfold encT
      cases c : q.2 with
      | nil => exact absurd c (hk q hq)
      | cons x r => exact ⟨.int x, r.map .int, rfl⟩
    · obtain ⟨q, hq, rfl⟩ := List.mem_map.mp hd
      have := encT_depth q
      show A.units + 1 + 1 + (encT q).depth < cLine
      omega
  · refine sortsAt_first (s := { s with heap := sortingHeap (copyHeap s.heap vs) (s.heap.objs.size + 1) vs }) e' he ?_
    show A.units + 1 + 1 < cLine
    omega
end
end K52
namespace K52
open PySem PySem.Spec PyProof.Rows L2
section
variable {X : Cx}
/-- sorted(xs), xs a list of tuples of ints, the first empty or none: a new list of the same -/
def rSortV (K : PySem.W.Frag) : List V → Hp → VK → Prop := fun vs H Q => ∃ (a : Addr) (qs : List It2), vs = [V.ref a] ∧ SqL K H a (qs.map fun q => V.ref q.1) ∧ (∀ q ∈ qs, SqT K H q.1 (q.2.map V.int)) ∧ qs.length ≤ 1000 ∧
  ((∀ q ∈ qs, q.2 ≠ []) ∨ ∃ q r, qs = q :: r ∧ q.2 = []) ∧ ∀ (rs : List It2) (p : Addr), rs.Perm qs → H p = none → Q (.ref p) (upd H p (.lst (rs.map fun q => V.ref q.1)))
theorem vals_its : ∀ (qs : List It2), Vals (qs.map fun q => V.ref q.1) (qs.map fun q => Value.ref q.1)
  | [] => .nil
  | _ :: qs => .cons rfl (vals_its qs)
theorem cr_sortV (hu : X.A.units + 8 < cLine) : CallR X (.builtin "sorted") (rSortV X.K) := by
  intro pn s σ H vs us Q I r h
  obtain ⟨a, qs, rfl, hs, hx, hlen, hk, q⟩ := h
  obtain ⟨its, rv, hl, lz⟩ := I.list hs
  rw [Vals.ref1 r]
  have e0 : its = qs.map fun q => Value.ref q.1 := refs_of_vals rv
  subst e0
  have each : ∀ (qs : List It2), (∀ q ∈ qs, SqT X.K H q.1 (q.2.map V.int)) → PySem.W.EachIs (StT s.heap) (qs.map fun q => Value.ref q.1) qs := by
    intro qs
    induction qs with
    | nil => exact fun _ => .nil
    | cons q qs ih =>
      intro hq
      refine .cons ⟨rfl, ?_⟩ (ih fun p hp => hq p (List.mem_cons_of_mem _ hp))
      obtain ⟨its, rv, hT, _⟩ := I.tuple (hq q List.mem_cons_self)
      exact ⟨its.toArray, hT, by simpa using rv.ints⟩
  refine sorted_tupsV hl.isList (each qs hx) hk (sizeBig hlen) hu fun out eo lo => ?_
  have hp : (qs.mergeSort (PySem.W.dataLe false encT)).Perm qs := List.mergeSort_perm _ _
  have eout : out = (qs.mergeSort (PySem.W.dataLe false encT)).map fun q => Value.ref q.1 := by
    clear lo
    generalize qs.mergeSort (PySem.W.dataLe false encT) = rs at eo
    induction eo with
    | nil => rfl
    | cons h1 _ ih => rw [List.map_cons, ← ih, h1.1]
  obtain ⟨ep, he'⟩ := PyProof.Rows.sortedAll_at s.heap (qs.map fun q => Value.ref q.1) (List.toArray out)
  refine ⟨.ref _, upd H (s.heap.objs.size + 1) (.lst ((qs.mergeSort (PySem.W.dataLe false encT)).map fun q => V.ref q.1)), I.laid (t' := s.toks) (fun _ _ => PyProof.Rows.sortedAll_old) (Nat.le_succ _) ⟨?_, out, ep, ?_, he'⟩, rfl, q _ _ hp (I.hok.fresh (Nat.le_succ _))⟩
  · rw [List.length_map, hp.length_eq]
    exact sizeBig hlen
  · rw [eout]
    exact vals_its _
end
end K52
set_option Elab.async false
set_option linter.all false
set_option maxRecDepth 100000
set_option maxHeartbeats 4000000
namespace K52
open PySem PySem.Spec PyProof.Rows L2
theorem inV_ints (k : Int) : ∀ l : List Int, inV (.int k) (l.map V.int) = decide (k ∈ l)
  | [] => rfl
  | x :: l => by
    show (eqV (.int x) (.int k) || inV (.int k) (l.map V.int)) = _
    rw [inV_ints k l]
    have e : eqV (.int x) (.int k) = decide (x = k) := by
      show (x == k) = _
      exact Bool.beq_eq_decide_eq _ _
    rw [e]
    by_cases c : x = k
    · have h : k ∈ x :: l := c ▸ List.mem_cons_self
      rw [decide_eq_true c, decide_eq_true h]
      rfl
    · rw [decide_eq_false c, Bool.false_or]
      refine decide_eq_decide.mpr ⟨fun h => List.mem_cons_of_mem _ h, fun h => ?_⟩
      rcases List.mem_cons.mp h with h | h
      · exact absurd h.symm c
      · exact h
theorem flat_ints (l : List Int) : (l.map V.int).all flatV = true := List.all_eq_true.mpr fun x hx => by
  obtain ⟨i, _, rfl⟩ := List.mem_map.mp hx
  rfl
theorem filter_succ (p : Nat → Bool) (i : Nat) : (List.range (i + 1)).filter p = (List.range i).filter p ++ if p i = true then [i] else [] := by
  rw [List.range_succ, List.filter_append]
  by_cases c : p i = true
  · rw [if_pos c, List.filter_cons_of_pos c]
    rfl
  · rw [if_neg c, List.filter_cons_of_neg c]
    rfl
theorem filter_len (p : Nat → Bool) (i : Nat) : ((List.range i).filter p).length ≤ i := by
  have := List.length_filter_le p (List.range i)
  rw [List.length_range] at this
  exact this
/-- the bit, read off the state -/
theorem bit_at {n s k : Nat} (hk : k < n) : ∃ z : Int, ((bits n s).map V.int)[k]? = some (.int z) ∧ (z = 1 ↔ bt n s k = true) := by
  refine ⟨((s / 2 ^ (n - 1 - k) % 2 : Nat) : Int), ?_, ?_⟩
  · rw [List.getElem?_map, bits_get n s k hk]
    rfl
  · unfold bt
    rw [decide_eq_true_iff]
    omega
section
variable {P : Program} {w : World} {K : PySem.W.Frag} {mg : Str → Option Value} {base : Heap} {f : Addr} {fd : FuncData}
theorem scTerms : FnScope ["size", "table", "found", "state", "places", "whole", "other", "at"] ["size", "table"] (defScope sTerms) := ⟨rfl, rfl, rfl, by decide +kernel, rfl, by decide +kernel, by decide +kernel⟩
def spTerms : Sp := fun vs H Q _ => ∃ (m : Nat) (a : Addr) (t : Nat → Nat), vs = [.int ((m + 1 : Nat) : Int), .ref a] ∧ m ≤ 4 ∧ H a = some (.tup (tV t (2 ^ (m + 1)))) ∧ (∀ i, i < 2 ^ (m + 1) → t i ≤ 1) ∧
  ∀ H' l (qs : List It2), Same H H' → H' l = some (.lst (qs.map fun q => V.ref q.1)) → (∀ q ∈ qs, H' q.1 = some (.tup (q.2.map V.int))) → (qs.map (·.2)).Perm (tl (m + 1) t) → Q (.ref l) H'
theorem ok_terms (F : Fun K "terms_of" "terms_of" sTerms f fd) (T : Txt K mg) (C1 : Cal P w K mg base 4 "need_table" ["prime", "size", "table"] spTable) (C2 : Cal P w K mg base 1 "states_of" ["prime", "size"] spStates) (C3 : Cal P w K mg base 1 "place_of" ["prime", "state"] (spPlace K)) : FnOk P w K mg base CX0 5 f fd ["size", "table"] spTerms := by
  refine F.ok scTerms (fun vs H Q E h => ?_) (fun cdv A outer s H vs Q E hr h => ?_)
  · obtain ⟨m, a, t, rfl, _⟩ := h
    rfl
  · obtain ⟨m, a, t, rfl, h4, hT, ht, q⟩ := h
    have hu8 : (A.deeper (envOfC "terms_of" (defScope sTerms) s.heap.objs.size f cdv)).units + 8 < cLine := Nat.lt_of_le_of_lt (Nat.add_le_add_left (by decide : 8 ≤ 64) _) hr.units
    have W := few h4
    have hp : 2 ^ (m + 1) ≤ 32 := Nat.pow_le_pow_right (by decide) (show m + 1 ≤ 5 by omega)
    refine ⟨_, pss_cons (ps_expr (pe_cal C1 hr (by rfl) (pa_cons pe_int (pa_cons (pv 0) (pa_cons (pv 1) pa_nil)))))
      (pss_cons (ps_set (i := 2) scTerms.nd rfl (.inl rfl) (pe_lst pa_nil))
      (pss_cons (ps_for PassesOwn.never rfl (pi_list (pe_cal C2 (hr.mono (by decide)) (by rfl) (pa_cons pe_int (pa_cons (pv 0) pa_nil)))) (pg_name (i := 3) scTerms.nd rfl (.inr rfl))
        (pss_cons (ps_set (i := 4) scTerms.nd rfl (.inr rfl) (pe_callTy call_tuple_of (by rfl) T.tuple (by decide +kernel) (pa_cons (pe_lc (own := [("at", 7)]) (g := gName 7) rfl scTerms.nd (pi_range1 (by rfl) T.range (pa_cons (pv 0) pa_nil))
          (blkOk_by (N := ["size", "table", "found", "state", "places", "whole", "other", "at"]) (sc := defScope sTerms) (by decide +kernel)) (fun _ _ _ _ _ => pg_name (i := 7) scTerms.nd rfl (Or.inl rfl))
          (fun _ _ _ _ _ => pts_one (pt_cmpR op_eq (pe_ix (r := rIxT K) ix_tup (pv 3) (pv 7) (fun _ _ => rfl)) pe_int (nomark _))) (fun _ _ _ _ _ => pv 7)) pa_nil)))
        (pss_cons (ps_set (i := 5) scTerms.nd rfl (.inl rfl) pe_int)
        (pss_cons (ps_for PassesOwn.never rfl (pi_list (pe_cal C2 (hr.mono (by decide)) (by rfl) (pa_cons pe_int (pa_cons (pv 0) pa_nil)))) (pg_name (i := 6) scTerms.nd rfl (.inr rfl))
          (pss_one (ps_if (pt_val (pe_callB (cr_all rfl) (by rfl) T.all (by decide +kernel) (pa_cons (pe_lc (own := [("at", 7)]) (g := gName 7) rfl scTerms.nd (pi_range1 (by rfl) T.range (pa_cons (pv 0) pa_nil))
            (blkOk_by (N := ["size", "table", "found", "state", "places", "whole", "other", "at"]) (sc := defScope sTerms) (by decide +kernel)) (fun _ _ _ _ _ => pg_name (i := 7) scTerms.nd rfl (Or.inl rfl))
            (fun _ _ _ _ _ => pts_one (pt_cmpR op_eq (pe_ix (r := rIxT K) ix_tup (pv 6) (pv 7) (fun _ _ => rfl)) pe_int (nomark _))) (fun _ _ _ _ _ => pe_cmpR (r := rIn K false) op_in_seq (pv 7) (pv 4) (by rfl))) pa_nil)))
            (pss_one (ps_aug (i := 5) scTerms.nd rfl (.inl rfl) (pe_ix ix_tup (pv 1) (pe_cal C3 (hr.mono (by decide)) (by rfl) (pa_cons pe_int (pa_cons (pv 6) pa_nil))) (fun _ _ => rfl)) ip_add)) pss_nil)))
        (pss_one (ps_if (pt_cmpR op_eq (pe_op op_mod (pv 5) pe_int) pe_int (nomark _))
          (pss_one (ps_expr (pe_bm PySem.F.plainAttrs_list PySem.F.slot_list_append PySem.F.type_list_append mt_append (pv 2) (pa_cons (pv 4) pa_nil)))) pss_nil))))))
      (pss_one (ps_ret (pe_callB (cr_sortV hu8) (by rfl) T.sorted (by decide +kernel) (pa_cons (pv 2) pa_nil)))))), ?_⟩
    refine ⟨_, rfl, _, rfl, m + 1, a, t, rfl, by omega, by omega, hT, ht, fun H1 s1 => ?_⟩
    refine ⟨Nat.zero_le _, fun l nl => ?_⟩
    have s2 := same_new (o := .lst []) nl
    refine ⟨_, rfl, m + 1, rfl, by omega, fun H3 st s3 nst hSL => ⟨st, rfl, ?_⟩⟩
    have nl0 : H l = none := s1.free nl
    have nstl : st ≠ l := fun z => by rw [z, upd_same] at nst; cases nst
    obtain ⟨ps, hst, hpl, hps⟩ := id hSL
    refine ⟨⟨_, .of hst⟩, for_list (K := K) (a := st) (xs := ps.map V.ref) (fun i σ H4 => ∃ y3 y4 y5 y6 qs, σ = [some (.int ((m + 1 : Nat) : Int)), some (.ref a), some (.ref l), y3, y4, y5, y6, none] ∧ Same H H4 ∧ H4 st = some (.lst (ps.map V.ref)) ∧ (∀ j p, ps[j]? = some p → H4 p = some (tB (m + 1) j)) ∧
      H4 l = some (.lst (qs.map fun q : It2 => V.ref q.1)) ∧ (∀ q ∈ qs, H4 q.1 = some (.tup (q.2.map V.int))) ∧ qs.map (·.2) = ((List.range i).filter (od (m + 1) t)).map (pls (m + 1)))
      ⟨none, none, none, none, [], rfl, s1.trans (s2.trans s3), hst, hps, s3 _ _ upd_same, fun q hq => (nomatch hq), rfl⟩ (fun i σ H4 _ ⟨_, _, _, _, _, _, _, z, _⟩ => .of z) ?_ ?_⟩
    · rintro i x σ H4 hx ⟨y3, y4, y5, y6, qs, rfl, hs4, hst4, hps4, hl4, hq4, hqs⟩
      have hi : i < 2 ^ (m + 1) := by
        have := (List.getElem?_eq_some_iff.mp hx).1
        rw [List.length_map, hpl] at this
        exact this
      obtain ⟨p, hp', rfl⟩ : ∃ p, ps[i]? = some p ∧ x = V.ref p := by
        rw [List.getElem?_map] at hx
        obtain ⟨p, e1, e2⟩ := Option.map_eq_some_iff.mp hx
        exact ⟨p, e1, e2.symm⟩
      have hpT : H4 p = some (tB (m + 1) i) := hps4 i p hp'
      have qlen : qs.length ≤ i := by
        have := congrArg List.length hqs
        rw [List.length_map, List.length_map] at this
        rw [this]
        exact filter_len _ _
      -- places
      refine ⟨_, rfl, ((m + 1 : Nat) : Int), rfl, by omega, by omega, fun D hD => lc_range (lo := 0) (n := (((m + 1 : Nat) : Int)).toNat) (fun k H5 => Same H4 H5 ∧ H5 D = some (.lst (((List.range k).filter (bt (m + 1) i)).map fun (k : Nat) => V.int (k : Int)))) ⟨same_new hD, upd_same⟩ ?_ ?_⟩
      · rintro k H5 hk ⟨s5, hD5⟩
        have hk' : k < m + 1 := by
          rw [Int.toNat_natCast] at hk
          exact hk
        obtain ⟨z, hz, hzb⟩ := bit_at (n := m + 1) (s := i) hk'
        refine ⟨rfl, _, rfl, _, rfl, p, _, _, .int z, rfl, rfl, .of (s5 _ _ hpT), at_of (j := k) (by omega) hz, rfl, _, rfl, ?_⟩
        have len := filter_len (bt (m + 1) i) k
        by_cases c : z = 1
        · rw [c, decide_eq_true rfl]
          refine iteT ⟨_, rfl, _, hD5, ?_, ?_, ?_⟩
          · rw [List.length_map]
            exact small1000 (by omega)
          · exact same_put s5 hD
          · rw [upd_same, filter_succ, if_pos (hzb.mp c), List.map_append, Int.zero_add]
            rfl
        · rw [decide_eq_false (fun y => c (V.int.inj y))]
          refine iteF ⟨s5, ?_⟩
          rw [filter_succ, if_neg (fun y => c (hzb.mpr y)), List.append_nil]
          exact hD5
      · rintro H5 ⟨s5, hD5⟩
        rw [Int.toNat_natCast] at hD5
        refine ⟨D, _, rfl, .inl ⟨.of hD5, fun pt npt => ?_⟩⟩
        have s6 := same_new (o := .tup (((List.range (m + 1)).filter (bt (m + 1) i)).map fun (k : Nat) => V.int (k : Int))) npt
        have s46 := s5.trans s6
        have hPt : upd H5 pt (.tup (((List.range (m + 1)).filter (bt (m + 1) i)).map fun (k : Nat) => V.int (k : Int))) pt = some (.tup ((pls (m + 1) i).map V.int)) := by
          rw [upd_same]
          unfold pls plN
          rw [List.map_map]
          rfl
        generalize upd H5 pt _ = H6 at s6 s46 hPt
        clear s6 npt
        -- whole = 0; the inner loop
        refine ⟨_, rfl, m + 1, rfl, by omega, fun H7 st2 s7 nst2 hSL7 => ⟨st2, rfl, ?_⟩⟩
        have s47 := s46.trans s7
        obtain ⟨rs, hst7, hrl, hrs⟩ := id hSL7
        refine ⟨⟨_, .of hst7⟩, for_list (K := K) (a := st2) (xs := rs.map V.ref) (fun j σ H8 => ∃ y6, σ = [some (.int ((m + 1 : Nat) : Int)), some (.ref a), some (.ref l), some (.ref p), some (.ref pt), some (.int ((wh (m + 1) t i j : Nat) : Int)), y6, none] ∧ Same H7 H8)
          ⟨y6, rfl, Same.refl H7⟩ (fun j σ H8 _ ⟨_, _, z⟩ => .of (z _ _ hst7)) ?_ ?_⟩
        · rintro j x σ H8 hx ⟨y, rfl, s8⟩
          have hj : j < 2 ^ (m + 1) := by
            have := (List.getElem?_eq_some_iff.mp hx).1
            rw [List.length_map, hrl] at this
            exact this
          obtain ⟨o, ho, rfl⟩ : ∃ p, rs[j]? = some p ∧ x = V.ref p := by
            rw [List.getElem?_map] at hx
            obtain ⟨p, e1, e2⟩ := Option.map_eq_some_iff.mp hx
            exact ⟨p, e1, e2.symm⟩
          have hoT : H8 o = some (tB (m + 1) j) := s8 _ _ (hrs j o ho)
          have hPt8 : H8 pt = some (.tup ((pls (m + 1) i).map V.int)) := s8 _ _ (s7 _ _ hPt)
          refine ⟨_, rfl, ((m + 1 : Nat) : Int), rfl, by omega, by omega, fun D2 hD2 => lc_range (lo := 0) (n := (((m + 1 : Nat) : Int)).toNat) (fun k H9 => Same H8 H9 ∧ H9 D2 = some (.lst (((List.range k).filter (bt (m + 1) j)).map fun (k : Nat) => V.bl (decide ((k : Int) ∈ pls (m + 1) i))))) ⟨same_new hD2, upd_same⟩ ?_ ?_⟩
          · rintro k H9 hk ⟨s9, hD9⟩
            have hk' : k < m + 1 := by
              rw [Int.toNat_natCast] at hk
              exact hk
            obtain ⟨z, hz, hzb⟩ := bit_at (n := m + 1) (s := j) hk'
            refine ⟨rfl, _, rfl, _, rfl, o, _, _, .int z, rfl, rfl, .of (s9 _ _ hoT), at_of (j := k) (by omega) hz, rfl, _, rfl, ?_⟩
            have len := filter_len (bt (m + 1) j) k
            by_cases c : z = 1
            · rw [c, decide_eq_true rfl]
              refine iteT ⟨_, rfl, _, rfl, pt, _, rfl, .inr (.of (s9 _ _ hPt8)), rfl, flat_ints _, _, hD9, ?_, ?_, ?_⟩
              · rw [List.length_map]
                exact small1000 (by omega)
              · exact same_put s9 hD2
              · rw [upd_same, filter_succ, if_pos (hzb.mp c), List.map_append, Int.zero_add, inV_ints]
                rfl
            · rw [decide_eq_false (fun y => c (V.int.inj y))]
              refine iteF ⟨s9, ?_⟩
              rw [filter_succ, if_neg (fun y => c (hzb.mpr y)), List.append_nil]
              exact hD9
          · rintro H9 ⟨s9, hD9⟩
            rw [Int.toNat_natCast] at hD9
            refine ⟨D2, ((List.range (m + 1)).filter (bt (m + 1) j)).map fun (k : Nat) => decide ((k : Int) ∈ pls (m + 1) i), rfl, .of (by rw [List.map_map]; exact hD9), _, rfl, ?_⟩
            have esub : (((List.range (m + 1)).filter (bt (m + 1) j)).map fun (k : Nat) => decide ((k : Int) ∈ pls (m + 1) i)).all id = sub (m + 1) j i := by
              rw [List.all_map]
              rfl
            rw [esub]
            refine ite2 (fun (c : sub (m + 1) j i = true) => ?_) (fun c => ?_)
            · refine ⟨_, rfl, _, rfl, _, rfl, o, bits (m + 1) j, rfl, .of (s9 _ _ hoT), ?_⟩
              rw [pl_bits _ _ hj]
              refine ⟨a, _, j, .int (t j), rfl, rfl, .of (s9 _ _ (s8 _ _ (s47 _ _ (hs4 _ _ hT)))), atI_nat (tV_get hj), _, _, rfl, rfl, some (.ref o), ?_, s8.trans s9⟩
              have e : ((wh (m + 1) t i j : Nat) : Int) + (t j : Int) = ((wh (m + 1) t i (j + 1) : Nat) : Int) := by
                show _ = ((wh (m + 1) t i j + (if sub (m + 1) j i = true then t j else 0) : Nat) : Int)
                rw [if_pos c]
                rfl
              show [_, _, _, _, _, some (V.int (((wh (m + 1) t i j : Nat) : Int) + (t j : Int))), _, _] = _
              rw [e]
            · refine ⟨some (.ref o), ?_, s8.trans s9⟩
              have e : ((wh (m + 1) t i j : Nat) : Int) = ((wh (m + 1) t i (j + 1) : Nat) : Int) := by
                show _ = ((wh (m + 1) t i j + (if sub (m + 1) j i = true then t j else 0) : Nat) : Int)
                rw [if_neg c]
                rfl
              rw [← e]
              rfl
        · rintro σ H8 ⟨y, rfl, s8⟩
          rw [List.length_map, hrl]
          have s48 := s47.trans s8
          have hl8 := s48 _ _ hl4
          refine ⟨_, rfl, _, 2, rfl, rfl, (by show (0 : Int) < 2; decide), rfl, _, rfl, ite2 (fun c => ?_) (fun c => ?_)⟩
          · have c' : od (m + 1) t i = true := by
              have := V.int.inj (of_decide_eq_true c)
              unfold od
              rw [decide_eq_true_iff]
              omega
            refine ⟨_, rfl, .inl ⟨rfl, _, SqL.of hl8⟩, _, rfl, l, _, _, rfl, rfl, hl8, ?_, ?_⟩
            · rw [List.length_map]
              exact small1000 (by omega)
            have keep : ∀ {b : Addr} {ob : HO}, H8 b = some ob → b ≠ l → upd H8 l (.lst ((qs.map fun q : It2 => V.ref q.1) ++ [V.ref pt])) b = some ob := fun e n => by
              rw [upd_ne n]
              exact e
            refine ⟨_, _, _, _, qs ++ [(pt, pls (m + 1) i)], rfl, same_put (hs4.trans s48) nl0, keep (s48 _ _ hst4) nstl, fun j p e => ?_, ?_, fun q hq => ?_, ?_⟩
            · exact put_keep hl8 (s48 _ _ (hps4 j p e)) (by intro z; cases z)
            · rw [upd_same, List.map_append]
              rfl
            · rcases List.mem_append.mp hq with old | new
              · exact put_keep hl8 (s48 _ _ (hq4 q old)) (by intro z; cases z)
              · rw [List.mem_singleton.mp new]
                exact put_keep hl8 (s8 _ _ (s7 _ _ hPt)) (by intro z; cases z)
            · rw [filter_succ, if_pos c', List.map_append, List.map_append, hqs]
              rfl
          · have c' : ¬ od (m + 1) t i = true := by
              intro z
              unfold od at z
              rw [decide_eq_true_iff] at z
              refine c (decide_eq_true (congrArg V.int ?_))
              omega
            refine ⟨_, _, _, _, qs, rfl, hs4.trans s48, s48 _ _ hst4, fun j p e => s48 _ _ (hps4 j p e), hl8, fun q hq => s48 _ _ (hq4 q hq), ?_⟩
            rw [filter_succ, if_neg c', List.append_nil]
            exact hqs
    · rintro σ H4 ⟨y3, y4, y5, y6, qs, rfl, hs4, hst4, hps4, hl4, hq4, hqs⟩
      rw [List.length_map, hpl] at hqs
      have qlen : qs.length ≤ 2 ^ (m + 1) := by
        have := congrArg List.length hqs
        rw [List.length_map, List.length_map] at this
        rw [this]
        exact filter_len _ _
      refine ⟨_, rfl, l, qs, rfl, .of hl4, fun q hq => .of (hq4 q hq), by omega, ?_, fun rs p hperm np => ?_⟩
      · have pos : 0 < 2 ^ (m + 1) := Nat.pow_pos (by decide)
        by_cases c : od (m + 1) t 0 = true
        · refine .inr ?_
          obtain ⟨N, hN⟩ : ∃ N, 2 ^ (m + 1) = N + 1 := ⟨2 ^ (m + 1) - 1, by omega⟩
          have e : qs.map (·.2) = pls (m + 1) 0 :: (((List.range N).map Nat.succ).filter (od (m + 1) t)).map (pls (m + 1)) := by
            rw [hqs, hN, List.range_succ_eq_map, List.filter_cons_of_pos c]
            rfl
          cases qs with
          | nil => cases e
          | cons q qs =>
            rw [List.map_cons] at e
            injection e with e1 e2
            exact ⟨q, qs, rfl, e1.trans ((W.emp 0 (by have := Nat.pow_pos (n := m) (show 0 < 2 by decide); omega)).mpr rfl)⟩
        · refine .inl fun q hq z => ?_
          have hm : q.2 ∈ qs.map (·.2) := List.mem_map.mpr ⟨q, hq, rfl⟩
          rw [hqs] at hm
          obtain ⟨s, hs, e⟩ := List.mem_map.mp hm
          obtain ⟨h1, h2⟩ := List.mem_filter.mp hs
          have h1' := List.mem_range.mp h1
          rw [two_pow] at h1'
          have s0 : s = 0 := (W.emp s h1').mp (e.trans z)
          rw [s0] at h2
          exact c h2
      · have sp := same_new (o := .lst (rs.map fun q : It2 => V.ref q.1)) np
        refine q _ p rs (hs4.trans sp) upd_same (fun q hq => sp _ _ (hq4 q (hperm.mem_iff.mp hq))) ?_
        have := hperm.map (·.2)
        rw [hqs] at this
        exact this
end
end K52
set_option Elab.async false
set_option linter.all false
set_option maxRecDepth 100000
set_option maxHeartbeats 4000000
namespace K52
open PySem PySem.Spec PyProof.Rows L2
/-! ### data: lists of tuples of ints -/
theorem eqvAll_ints : ∀ ns ms : List Int, PyData.eqvAll (ns.map .int) (ms.map .int) = decide (ns = ms)
  | [], [] => by
    rw [List.map_nil, PyData.eqvAll]
    rfl
  | [], m :: ms => by simp [PyData.eqvAll]
  | n :: ns, [] => by simp [PyData.eqvAll]
  | n :: ns, m :: ms => by
    rw [List.map_cons, List.map_cons, PyData.eqvAll, eqvAll_ints ns ms]
    have e : PyData.eqv (.int n) (.int m) = decide (n = m) := by
      simp only [PyData.eqv]
      exact Bool.beq_eq_decide_eq _ _
    rw [e, ← Bool.decide_and]
    exact decide_eq_decide.mpr (Iff.of_eq (List.cons.injEq ..).symm)
theorem encT_eqv (p q : It2) : PyData.eqv (encT p) (encT q) = decide (p.2 = q.2) := by
  unfold encT
  simp only [PyData.eqv]
  exact eqvAll_ints _ _
theorem lay_ints : ∀ ns : List Int, PyData.canLayAll0 (ns.map .int) = true
  | [] => by rw [List.map_nil, PyData.canLayAll0]
  | n :: ns => by simp [PyData.canLayAll0, PyData.canLay0, lay_ints ns]
theorem encT_shaped (q : It2) : SeqAt.shaped (encT q) = true := by
  show ((encT q).canLay0 && decide ((encT q).depth ≤ 64)) = true
  have h := encT_depth q
  rw [Bool.and_eq_true]
  refine ⟨?_, decide_eq_true (by omega)⟩
  unfold encT
  simp only [PyData.canLay0]
  exact lay_ints _
theorem encTs_lay : ∀ qs : List It2, PyData.canLayAll0 (qs.map encT) = true
  | [] => by rw [List.map_nil, PyData.canLayAll0]
  | q :: qs => by
    rw [List.map_cons, PyData.canLayAll0, encTs_lay qs, Bool.and_true]
    unfold encT
    simp only [PyData.canLay0]
    exact lay_ints _
theorem encTs_depth : ∀ qs : List It2, PyData.depthAll (qs.map encT) ≤ 1
  | [] => by
    rw [List.map_nil, PyData.depthAll]
    exact Nat.zero_le 1
  | q :: qs => by
    have h1 := encTs_depth qs
    have h2 := encT_depth q
    rw [List.map_cons, PyData.depthAll]
    omega
theorem encTs_shaped (qs : List It2) : SeqAt.shaped (.list (qs.map encT)) = true := by
  have h1 := encTs_depth qs
  have h2 : PyData.depth (.list (qs.map encT)) ≤ 64 := by
    simp only [PyData.depth]
    omega
  show (PyData.canLay0 (.list (qs.map encT)) && decide (PyData.depth (.list (qs.map encT)) ≤ 64)) = true
  rw [Bool.and_eq_true]
  exact ⟨by simp only [PyData.canLay0]; exact encTs_lay qs, decide_eq_true h2⟩
theorem dp_ints {K : PySem.W.Frag} {H : Hp} : ∀ ns : List Int, DpAll K H (ns.map V.int) (ns.map .int)
  | [] => .nil
  | n :: ns => .cons (.int n) (dp_ints ns)
theorem dp_tup {K : PySem.W.Frag} {H : Hp} {q : It2} (h : H q.1 = some (.tup (q.2.map V.int))) : Dp K H (.ref q.1) (encT q) := .tup (.of h) (dp_ints _)
theorem dp_tups {K : PySem.W.Frag} {H : Hp} : ∀ {qs : List It2}, (∀ q ∈ qs, H q.1 = some (.tup (q.2.map V.int))) → DpAll K H (qs.map fun q => V.ref q.1) (qs.map encT)
  | [], _ => .nil
  | q :: qs, h => .cons (dp_tup (h q List.mem_cons_self)) (dp_tups fun p hp => h p (List.mem_cons_of_mem _ hp))
theorem any_enc (a : Addr) (l : List Int) : ∀ qs : List It2, ((qs.map encT).any fun z => PyData.eqv z (encT (a, l))) = decide (l ∈ qs.map (·.2))
  | [] => rfl
  | q :: qs => by
    rw [List.map_cons, List.any_cons, any_enc a l qs, encT_eqv, List.map_cons, ← Bool.decide_or]
    refine decide_eq_decide.mpr ?_
    rw [List.mem_cons]
    exact or_congr_left eq_comm
/-! ### the changed table -/
theorem tV_flip {h m : Nat} {t : Nat → Nat} (F : Fair h t) (hm : m < h) :
    ((tV t (2 * h)).set m (.int (1 - (t m : Int)))).set (m + h) (.int (1 - (t (m + h) : Int))) = tV (fl h m t) (2 * h) := by
  have h1 := F.lo m hm
  have h2 := F.hi m hm
  refine List.ext_getElem? fun i => ?_
  by_cases hi : i < 2 * h
  · rw [tV_get hi]
    by_cases c2 : i = m + h
    · subst c2
      rw [List.getElem?_set_self (by rw [List.length_set, tV_length]; exact hi)]
      unfold fl
      rw [if_pos (.inr rfl)]
      refine congrArg (fun z => some (V.int z)) ?_
      omega
    · rw [List.getElem?_set_ne (Ne.symm c2)]
      by_cases c1 : i = m
      · subst c1
        rw [List.getElem?_set_self (by rw [tV_length]; exact hi)]
        unfold fl
        rw [if_pos (.inl rfl)]
        refine congrArg (fun z => some (V.int z)) ?_
        omega
      · rw [List.getElem?_set_ne (Ne.symm c1), tV_get hi]
        unfold fl
        rw [if_neg (by omega)]
  · rw [List.getElem?_eq_none (by rw [List.length_set, List.length_set, tV_length]; omega), List.getElem?_eq_none (by rw [tV_length]; omega)]
theorem sum_tv (t : Nat → Nat) : ∀ M, ((List.range M).map fun (i : Nat) => (t i : Int)).sum = ((sm t M : Nat) : Int)
  | 0 => rfl
  | M + 1 => by
    rw [List.range_succ, List.map_append, List.sum_append, sum_tv t M]
    show _ = ((sm t M + t M : Nat) : Int)
    rw [List.map_cons, List.map_nil, List.sum_cons, List.sum_nil]
    omega
theorem tV_take (t : Nat → Nat) (a b : Nat) : (tV t (a + b)).take a = tV t a := by
  refine List.ext_getElem? fun i => ?_
  rw [List.getElem?_take]
  by_cases c : i < a
  · rw [if_pos c, tV_get c, tV_get (by omega)]
  · rw [if_neg c, List.getElem?_eq_none (by rw [tV_length]; omega)]
section
variable {X : Cx}
/-- sum(t), t a tuple of ints -/
def rSumT (K : PySem.W.Frag) : List V → Hp → VK → Prop := fun vs H Q => ∃ (a : Addr) (ns : List Int), vs = [V.ref a] ∧ SqT K H a (ns.map V.int) ∧ Q (.int ns.sum) H
theorem cr_sumT (hc : X.calm = true) : CallR X (.builtin "sum") (rSumT X.K) := by
  intro pn s σ H vs us Q I r h
  obtain ⟨a, ns, rfl, ht, q⟩ := h
  obtain ⟨its, rv, hl, _⟩ := I.tuple ht
  rw [Vals.ref1 r]
  have hi : IntsAre its ns := rv.ints
  obtain ⟨ys, e⟩ := hi.allInts.items
  have hn : numsOf (intItems ys).toList = ns := e ▸ hi.numsOf
  rw [nums_intItems] at hn
  have hl' : s.heap.IsTuple a (intItems ys) := by
    rw [← e]
    exact hl
  refine PySem.W.ktm_sumG (I.ok.hd hc) hl' fun h' tk t' hk => ⟨.int _, H, I.kept hk, ⟨_, rfl⟩, ?_⟩
  rw [preSum_eq, List.take_of_length_le (by simp)]
  rw [hn]
  exact q
end
theorem perm_one {α : Type} {l : List α} {x : α} (h : l.Perm [x]) : l = [x] := List.perm_singleton.mp h
section
variable {P : Program} {w : World} {K : PySem.W.Frag} {mg : Str → Option Value} {base : Heap} {f : Addr} {fd : FuncData}
/-! ### the law -/
theorem scLaw : FnScope ["_law_script", "_law_row", "_law_size", "_law_table", "_law_count", "_law_half", "_law_at", "_law_other", "_law_terms", "_law_term"] ["_law_script"] (defScope sLaw) := ⟨rfl, rfl, rfl, by decide +kernel, rfl, by decide +kernel, by decide +kernel⟩
def spLaw (K : PySem.W.Frag) : Sp := fun vs H Q _ => ∃ (a : Addr) (ns : List Int), vs = [.ref a] ∧ SqL K H a (ns.map V.int) ∧ ∀ H', Q (.bl true) H'
theorem ok_law (F : Fun K "law" "law" sLaw f fd) (T : Txt K mg) (C1 : Cal P w K mg base 1 "_law_taken" ["_law_row", "_law_many"] (spTaken K)) (C2 : Cal P w K mg base 2 "_law_fair_table" ["_law_row", "_law_prime", "_law_size"] (spFair K))
    (C3 : Cal P w K mg base 6 "free_cycles" ["prime", "size", "table"] spWalked) (C4 : Cal P w K mg base 5 "terms_of" ["size", "table"] spTerms) : FnOk P w K mg base CX0 7 f fd ["_law_script"] (spLaw K) := by
  refine F.ok scLaw (fun vs H Q E h => ?_) (fun cdv A outer s H vs Q E hr h => ?_)
  · obtain ⟨a, ns, rfl, _⟩ := h
    rfl
  · obtain ⟨a, ns, rfl, hS, q⟩ := h
    have hu := hu_of hr
    have hu65 : (A.deeper (envOfC "law" (defScope sLaw) s.heap.objs.size f cdv)).units + 65 < cLine := by
      have := hr.un
      omega
    refine ⟨_, pss_cons (ps_set (i := 1) scLaw.nd rfl (.inl rfl) (pe_lst (pa_cons (pv 0) (pa_cons pe_int (pa_cons pe_int (pa_cons pe_int pa_nil))))))
      (pss_cons (ps_set (i := 2) scLaw.nd rfl (.inl rfl) (pe_op op_add pe_int (pe_cal C1 (hr.mono (by decide)) (by rfl) (pa_cons (pv 1) (pa_cons pe_int pa_nil)))))
      (pss_cons (ps_set (i := 3) scLaw.nd rfl (.inl rfl) (pe_cal C2 (hr.mono (by decide)) (by rfl) (pa_cons (pv 1) (pa_cons pe_int (pa_cons (pv 2) pa_nil)))))
      (pss_cons (ps_par (i := 4) (j := 5) (by rfl) scLaw.nd rfl rfl (by decide) rfl rfl (pa_cons (pe_callB call_len_seq (by rfl) T.len PySem.boot_len (pa_cons (pe_cal C3 hr (by rfl) (pa_cons pe_int (pa_cons (pv 2) (pa_cons (pv 3) pa_nil)))) pa_nil)) (pa_cons (pe_op op_fdiv (pe_callB call_len_seq (by rfl) T.len PySem.boot_len (pa_cons (pv 3) pa_nil)) pe_int) pa_nil)) (by rfl))
      (pss_cons (ps_if (PW.pt (pw_and (pt_cmpR op_gt (pv 2) pe_int (nomark _)) (pw_and1 (pt_cmpR op_ne (pe_op op_mod (pe_callTy call_int1 (by rfl) T.int (by decide +kernel) (pa_cons (pv 4) pa_nil)) pe_int) (pe_op op_mod (pe_callTy call_int1 (by rfl) T.int (by decide +kernel) (pa_cons (pe_callB (cr_sumT rfl) (by rfl) T.sum (by decide +kernel) (pa_cons (pe_slice (r := rSlA K) sl_tupA (pv 3) po_none (po_some (pv 5))) pa_nil)) pa_nil)) pe_int) (nomark _))))) pss_never pss_nil)
      (pss_cons (ps_set (i := 6) scLaw.nd rfl (.inl rfl) (pe_cal C1 (hr.mono (by decide)) (by rfl) (pa_cons (pv 1) (pa_cons (pv 5) pa_nil))))
      (pss_cons (ps_set (i := 7) scLaw.nd rfl (.inl rfl) (pe_callTy call_list_of (by rfl) T.list (by decide +kernel) (pa_cons (pv 3) pa_nil)))
      (pss_cons (ps_asg (pe_tup (pa_cons (pe_op op_sub pe_int (pe_ix ix_list (pv 7) (pv 6) (fun _ _ => rfl))) (pa_cons (pe_op op_sub pe_int (pe_ix ix_list (pv 7) (pe_op op_add (pv 6) (pv 5)) (fun _ _ => rfl))) pa_nil))) (pg_tup rfl (pgs_cons (pg_sub (pv 7) (pv 6) set_list) (pgs_cons (pg_sub (pv 7) (pe_op op_add (pv 6) (pv 5)) set_list) pgs_nil))))
      (pss_cons (ps_set (i := 7) scLaw.nd rfl (.inl rfl) (pe_callTy call_tuple_of (by rfl) T.tuple (by decide +kernel) (pa_cons (pv 7) pa_nil)))
      (pss_cons (ps_if (pt_cmpR op_ne (pe_callB call_abs (by rfl) T.abs (by decide +kernel) (pa_cons (pe_op op_sub (pe_callB call_len_seq (by rfl) T.len PySem.boot_len (pa_cons (pe_cal C3 hr (by rfl) (pa_cons pe_int (pa_cons (pv 2) (pa_cons (pv 7) pa_nil)))) pa_nil)) (pv 4)) pa_nil)) pe_int (nomark _)) pss_never pss_nil)
      (pss_cons (ps_if (pt_cmpR op_gt (pv 2) pe_int (nomark _)) (pss_one (ps_ret pe_bl)) pss_nil)
      (pss_cons (ps_set (i := 8) scLaw.nd rfl (.inl rfl) (pe_cal C4 (hr.mono (by decide)) (by rfl) (pa_cons (pv 2) (pa_cons (pv 3) pa_nil))))
      (pss_cons (ps_if (PW.pt (pw_or (pt_cmpR (op_notInD hu65) (pe_tup (pa_cons pe_int pa_nil)) (pv 8) (by rfl)) (pw_or1 (pt_cmpR (op_neD hr.units) (pe_lc (own := [("_law_term", 9)]) (g := gName 9) rfl scLaw.nd (pi_list (pv 8)) (blkOk_by (N := ["_law_script", "_law_row", "_law_size", "_law_table", "_law_count", "_law_half", "_law_at", "_law_other", "_law_terms", "_law_term"]) (sc := defScope sLaw) (by decide +kernel)) (fun _ _ _ _ _ => pg_name (i := 9) scLaw.nd rfl (Or.inl rfl)) (fun _ _ _ _ _ => pts_one (pt_cmpR (r := rIn K false) op_in_seq pe_int (pv 9) (by rfl))) (fun _ _ _ _ _ => pv 9)) (pe_lst (pa_cons (pe_tup (pa_cons pe_int pa_nil)) pa_nil)) (nomark _))))) pss_never pss_nil)
      (pss_one (ps_ret (pe_or (pe_cmpR op_lt (pv 2) pe_int (nomark _)) (pe_one (pe_cmpR op_eq (pe_cmpR (op_inD hu65) (pe_tupRg rfl (by rfl) T.tuple (prg_2 (by rfl) T.range pe_int (pv 2))) (pv 8) (by rfl)) (pe_cmpR op_eq (pe_op op_mod (pe_callTy call_int1 (by rfl) T.int (by decide +kernel) (pa_cons (pv 4) pa_nil)) pe_int) pe_int (nomark _)) (nomark _)))))))))))))))))), ?_⟩
    -- _law_row
    refine ⟨_, rfl, by show 4 ≤ sizeLine; decide, fun r nr => ?_⟩
    have s1 := same_new (o := .lst [.ref a, .int 0, .int 5052, .int 0]) nr
    have hR1 : RowAt (upd H r (.lst [.ref a, .int 0, .int 5052, .int 0])) r a := ⟨0, 5052, 0, upd_same⟩
    have hS1 := s1.seq hS
    -- _law_size
    refine ⟨_, rfl, r, a, ns, 8, rfl, hR1, hS1, by decide, by decide, fun H2 m b2 hR2 hm => ⟨1, (m : Int), rfl, rfl, ?_⟩⟩
    have hS2 := script_but hR1 b2 hS1
    have esz : (1 : Int) + (m : Int) = ((m + 1 : Nat) : Int) := by omega
    -- _law_table
    refine ⟨_, rfl, _, rfl, r, a, ns, m, (by show [V.ref r, V.int 2, V.int (1 + (m : Int))] = _; rw [esz]), hR2, hS2, by omega, fun H3 p t b3 hR3 hT3 Fr => ?_⟩
    have hS3 := script_but hR2 b3 hS2
    have pos : 0 < 2 ^ m := Nat.pow_pos (by decide)
    have hp8 : 2 ^ (m + 1) ≤ 256 := pow_le8 (by omega)
    have e2 := two_pow m
    -- _law_count, _law_half
    refine ⟨_, rfl, _, rfl, m, p, t, (by show [V.int 2, V.int (1 + (m : Int)), V.ref p] = _; rw [esz]), by omega, hT3, Fr, fun H4 l4 xs4 s4 hl4 hlen4 => ⟨l4, xs4, rfl, .inl (.of hl4), ?_⟩⟩
    have hT4 := s4 _ _ hT3
    refine ⟨_, rfl, p, _, rfl, .inr (.of hT4), _, _, rfl, rfl, ⟨by decide, by decide⟩, _, _, rfl, ?_⟩
    have ehalf : ((tV t (2 ^ (m + 1))).length : Int) / 2 = ((2 ^ m : Nat) : Int) := by
      rw [tV_length]
      omega
    have hpar : 2 ≤ m → cnt (nx (2 ^ m) t) (2 ^ (m + 1)) % 2 = sm t (2 ^ m) % 2 := fun h => by
      rw [e2]
      exact parity_law Fr h (by omega)
    -- if _law_size > 2 and ..
    refine ⟨_, rfl, _, _, rfl, rfl, _, rfl, (fun (key : ∀ H5, Same H4 H5 → (_ : Hp → Prop) H5) => ite2 (fun c3 => ?_) (fun c3 => iteF (key H4 (Same.refl H4)))) ?_⟩
    · have h2m : 2 ≤ m := by
        have c3' : (2 : Int) < 1 + (m : Int) := of_decide_eq_true c3
        omega
      refine ⟨_, rfl, .inl ⟨_, rfl, _, 2, rfl, rfl, (by show (0 : Int) < 2; decide), ?_⟩⟩
      refine ⟨_, rfl, ?_⟩
      unfold tNoPart
      refine ⟨_, rfl, _, rfl, ?_⟩
      show rSlA K (.ref p) none (some (((tV t (2 ^ (m + 1))).length : Int) / 2)) H4 _
      rw [ehalf]
      refine ⟨p, _, rfl, .of hT4, fun z => ?_, fun _ c nc => ?_⟩
      · have z2 := z.2
        rw [tV_length, show HT.sIx (2 ^ (m + 1)) (2 ^ (m + 1)) (some ((2 ^ m : Nat) : Int)) = min (2 ^ m) (2 ^ (m + 1)) from HT.sIx_nat _ _ _] at z2
        omega
      · have ecut : cutV (tV t (2 ^ (m + 1))) none (some ((2 ^ m : Nat) : Int)) = ((List.range (2 ^ m)).map fun (i : Nat) => (t i : Int)).map V.int := by
          unfold cutV
          rw [HT.sIx_none, tV_length, show HT.sIx (2 ^ (m + 1)) (2 ^ (m + 1)) (some ((2 ^ m : Nat) : Int)) = min (2 ^ m) (2 ^ (m + 1)) from HT.sIx_nat _ _ _, List.drop_zero, show min (2 ^ m) (2 ^ (m + 1)) - 0 = 2 ^ m by omega, e2, Nat.two_mul, tV_take, List.map_map]
          rfl
        refine ⟨c, _, rfl, .of (by rw [upd_same, ecut]), .inl ⟨_, rfl, _, 2, rfl, rfl, (by show (0 : Int) < 2; decide), rfl, false, ?_, iteF (key _ (same_new nc))⟩⟩
        have := hpar h2m
        rw [sum_tv, hlen4]
        refine congrArg V.bl ?_
        have e : V.int ((cnt (nx (2 ^ m) t) (2 ^ (m + 1)) : Nat) % 2 : Int) = V.int (((sm t (2 ^ m) : Nat) : Int) % 2) := congrArg V.int (by omega)
        show (!decide (V.int ((cnt (nx (2 ^ m) t) (2 ^ (m + 1)) : Nat) % 2 : Int) = V.int (((sm t (2 ^ m) : Nat) : Int) % 2))) = false
        rw [decide_eq_true e]
        rfl
    · intro H5 s5
      have hT5 := s5 _ _ hT4
      have hR5 : RowAt H5 r a := (hR3.same s4).same s5
      have hS5 : SqL K H5 a (ns.map V.int) := s5.seq (s4.seq hS3)
      have npr : p ≠ r := by
        obtain ⟨u, j2, j3, e⟩ := hR3
        exact ne_of hT3 e (by intro z; cases z)
      -- _law_at
      refine ⟨_, rfl, _, rfl, r, a, ns, 2 ^ m, ?_, hR5, hS5, pos, by omega, fun H6 v b6 hR6 hv => ?_⟩
      · show [V.ref r, V.int (((tV t (2 ^ (m + 1))).length : Int) / 2)] = _
        rw [ehalf]
      have hT6 := b6 _ _ npr hT5
      -- _law_other
      refine ⟨_, rfl, p, _, rfl, .inr (.of hT6), fun l nl => ?_⟩
      have s7 := same_new (o := .lst (tV t (2 ^ (m + 1)))) nl
      have eix : (v : Int) + ((tV t (2 ^ (m + 1))).length : Int) / 2 = ((v + 2 ^ m : Nat) : Int) := by
        rw [ehalf]
        omega
      have ixn : ∀ {n : Nat} {i : Int} {j : Nat}, i = (j : Int) → j < n → ixN n i = some j := fun {n i j} e hj => by
        subst e
        unfold ixN
        rw [if_pos (by omega)]
        rw [if_pos (by omega)]
        rfl
      refine ⟨_, rfl, _, rfl, l, _, (v : Int), .int (t v), rfl, rfl, .of upd_same, atI_nat (tV_get (by omega)), 1, (t v : Int), rfl, rfl, ?_⟩
      refine ⟨_, rfl, _, rfl, _, rfl, _, _, rfl, rfl, l, _, _, .int (t (v + 2 ^ m)), rfl, rfl, .of upd_same, at_of (j := v + 2 ^ m) eix (tV_get (by omega)), 1, (t (v + 2 ^ m) : Int), rfl, rfl, by show 2 ≤ sizeLine; decide, fun tp ntp => ?_⟩
      have s8 := same_new (o := .tup [.int (1 - (t v : Int)), .int (1 - (t (v + 2 ^ m) : Int))]) ntp
      have hl8 := s8 _ _ (upd_same (H := H6) (a := l) (o := .lst (tV t (2 ^ (m + 1)))))
      refine ⟨tp, [.int (1 - (t v : Int)), .int (1 - (t (v + 2 ^ m) : Int))], rfl, .of upd_same, rfl, ?_⟩
      refine ⟨_, _, rfl, _, rfl, _, rfl, l, _, (v : Int), v, rfl, rfl, hl8, ixn rfl (by rw [tV_length]; omega), ?_⟩
      refine ⟨_, _, rfl, _, rfl, _, rfl, _, rfl, _, _, rfl, rfl, l, _, _, v + 2 ^ m, rfl, rfl, upd_same, ixn eix (by rw [List.length_set, tV_length]; omega), rfl, ?_⟩
      have flip := tV_flip Fr hv
      rw [← e2] at flip
      rw [flip]
      generalize hH9 : upd (upd _ l _) l _ = H9
      have hl9 : H9 l = some (.lst (tV (fl (2 ^ m) v t) (2 ^ (m + 1)))) := by
        rw [← hH9]
        exact upd_same
      have b9 : But l H6 H9 := by
        rw [← hH9]
        exact (same_but (s7.trans s8)).trans (but_upd.trans but_upd)
      have hT9 : H9 p = some (.tup (tV t (2 ^ (m + 1)))) := b9 _ _ (ne_of_none hT6 nl) hT6
      clear hH9
      -- tuple(_law_other)
      refine ⟨_, rfl, l, _, rfl, .inl ⟨.of hl9, fun o no => ?_⟩⟩
      have s10 := same_new (o := .tup (tV (fl (2 ^ m) v t) (2 ^ (m + 1)))) no
      have hO := upd_same (H := H9) (a := o) (o := .tup (tV (fl (2 ^ m) v t) (2 ^ (m + 1))))
      have hT10 := s10 _ _ hT9
      generalize upd H9 o _ = H10 at s10 hO hT10
      -- the number of cycles of the changed table
      refine ⟨_, rfl, _, rfl, m, o, fl (2 ^ m) v t, (by show [V.int 2, V.int (1 + (m : Int)), V.ref o] = _; rw [esz]), by omega, hO, Fr.flip hv, fun H11 l11 xs11 s11 hl11 hlen11 => ?_⟩
      refine ⟨l11, xs11, rfl, .inl (.of hl11), _, rfl, _, _, rfl, rfl, _, rfl, rfl, false, ?_, iteF ?_⟩
      · have one := (Fr.sw hv).one
        rw [← e2] at one
        rw [hlen11, hlen4]
        refine congrArg V.bl ?_
        have e : V.int (if ((cnt (nx (2 ^ m) (fl (2 ^ m) v t)) (2 ^ (m + 1)) : Nat) : Int) - (cnt (nx (2 ^ m) t) (2 ^ (m + 1)) : Nat) < 0 then -(((cnt (nx (2 ^ m) (fl (2 ^ m) v t)) (2 ^ (m + 1)) : Nat) : Int) - (cnt (nx (2 ^ m) t) (2 ^ (m + 1)) : Nat)) else ((cnt (nx (2 ^ m) (fl (2 ^ m) v t)) (2 ^ (m + 1)) : Nat) : Int) - (cnt (nx (2 ^ m) t) (2 ^ (m + 1)) : Nat)) = V.int 1 := by
          refine congrArg V.int ?_
          split <;> omega
        show (!decide (V.int (if ((cnt (nx (2 ^ m) (fl (2 ^ m) v t)) (2 ^ (m + 1)) : Nat) : Int) - (cnt (nx (2 ^ m) t) (2 ^ (m + 1)) : Nat) < 0 then -(((cnt (nx (2 ^ m) (fl (2 ^ m) v t)) (2 ^ (m + 1)) : Nat) : Int) - (cnt (nx (2 ^ m) t) (2 ^ (m + 1)) : Nat)) else ((cnt (nx (2 ^ m) (fl (2 ^ m) v t)) (2 ^ (m + 1)) : Nat) : Int) - (cnt (nx (2 ^ m) t) (2 ^ (m + 1)) : Nat)) = V.int 1)) = false
        rw [decide_eq_true e]
        rfl
      have hT11 := s11 _ _ hT10
      -- if _law_size > 5: return True
      refine ⟨_, rfl, _, _, rfl, rfl, _, rfl, ite2 (fun _ => q H11) (fun c5 => ?_)⟩
      have m4 : m ≤ 4 := by
        have c5' : ¬ ((5 : Int) < 1 + (m : Int)) := of_decide_eq_false (Bool.eq_false_iff.mpr c5)
        omega
      have W := few m4
      -- _law_terms
      refine ⟨_, rfl, _, rfl, m, p, t, (by show [V.int (1 + (m : Int)), V.ref p] = _; rw [esz]), m4, hT11, fun i hi => Fr.le (by rw [← e2]; exact hi), fun H12 lt qs s12 hlt hqs perm => ?_⟩
      have zeros := tl_zeros W Fr
      have hz0 : ([0] : List Int) ∈ qs.map (·.2) := by
        refine perm.mem_iff.mpr ?_
        have : ([0] : List Int) ∈ (tl (m + 1) t).filter (fun l => decide ((0 : Int) ∈ l)) := by
          rw [zeros]
          exact List.mem_cons_self
        exact (List.mem_filter.mp this).1
      have qlen : qs.length ≤ 32 := by
        have h1 := perm.length_eq
        rw [List.length_map] at h1
        have h2 : (tl (m + 1) t).length ≤ 2 ^ (m + 1) := by
          unfold tl
          rw [List.length_map]
          exact filter_len _ _
        have h3 : 2 ^ (m + 1) ≤ 32 := Nat.pow_le_pow_right (by decide) (show m + 1 ≤ 5 by omega)
        omega
      -- (0,) not in _law_terms
      refine ⟨by show 1 ≤ sizeLine; decide, fun z nz => ?_⟩
      have s13 := same_new (o := .tup [V.int 0]) nz
      refine ⟨_, rfl, encT (z, [0]), qs.map encT, dp_tup (q := (z, [0])) upd_same, .lst (.of (s13 _ _ hlt)) (dp_tups fun q hq => s13 _ _ (hqs q hq)), encT_shaped _, encTs_shaped _, false, ?_, iteF ?_⟩
      · rw [any_enc, decide_eq_true hz0]
        rfl
      generalize upd H12 z _ = H13 at s13
      have hlt13 := s13 _ _ hlt
      have hqs13 : ∀ q ∈ qs, H13 q.1 = some (.tup (q.2.map V.int)) := fun q hq => s13 _ _ (hqs q hq)
      -- [.. if 0 in _law_term] != [(0,)]
      refine ⟨_, rfl, lt, rfl, ⟨_, .of hlt13⟩, fun D hD => lc_list (K := K) (a := lt) (xs := qs.map fun q : It2 => V.ref q.1) (fun i H14 => Same H13 H14 ∧ H14 D = some (.lst (((qs.take i).filter fun q : It2 => decide ((0 : Int) ∈ q.2)).map fun q : It2 => V.ref q.1)))
        ⟨same_new hD, upd_same⟩ (fun i H14 _ ⟨z, _⟩ => .of (z _ _ hlt13)) ?_ ?_⟩
      · rintro i x H14 hx ⟨s14, hD14⟩
        obtain ⟨qi, hqi, rfl⟩ : ∃ qi : It2, qs[i]? = some qi ∧ x = V.ref qi.1 := by
          rw [List.getElem?_map] at hx
          obtain ⟨p, e1, e2⟩ := Option.map_eq_some_iff.mp hx
          exact ⟨p, e1, e2.symm⟩
        have hq14 := s14 _ _ (hqs13 qi (List.mem_of_getElem? hqi))
        have etake : qs.take (i + 1) = qs.take i ++ [qi] := by
          rw [List.take_add_one, hqi]
          rfl
        refine ⟨rfl, _, rfl, qi.1, qi.2.map V.int, rfl, .inr (.of hq14), rfl, flat_ints _, _, rfl, ?_⟩
        show if (inV (.int 0) (qi.2.map V.int)) = true then _ else _
        rw [inV_ints]
        refine ite2 (fun (c : decide ((0 : Int) ∈ qi.2) = true) => ?_) (fun c => ?_)
        · refine ⟨_, rfl, _, hD14, ?_, ?_, ?_⟩
          · rw [List.length_map]
            have h1 := List.length_filter_le (fun q : It2 => decide ((0 : Int) ∈ q.2)) (qs.take i)
            have h2 := List.length_take_le i qs
            have h3 : (qs.take i).length ≤ qs.length := by
              rw [List.length_take]
              exact Nat.min_le_right _ _
            exact small1000 (by omega)
          · exact same_put s14 hD
          · rw [upd_same, etake, List.filter_append, List.map_append, List.filter_cons_of_pos (p := fun q : It2 => decide ((0 : Int) ∈ q.2)) c]
            rfl
        · refine ⟨s14, ?_⟩
          rw [etake, List.filter_append, List.filter_cons_of_neg (p := fun q : It2 => decide ((0 : Int) ∈ q.2)) c, List.filter_nil, List.append_nil]
          exact hD14
      · rintro H14 ⟨s14, hD14⟩
        rw [List.length_map, List.take_length] at hD14
        refine ⟨by show 1 ≤ sizeLine; decide, fun y ny => ⟨by show 1 ≤ sizeLine; decide, fun g ng => ?_⟩⟩
        have s15 : Same H14 (upd (upd H14 y (.tup [V.int 0])) g (.lst [V.ref y])) := (same_new ny).trans (same_new ng)
        have hfl : (qs.filter fun q : It2 => decide ((0 : Int) ∈ q.2)).map (·.2) = [[0]] := by
          refine perm_one ?_
          have h1 := perm.filter (fun l => decide ((0 : Int) ∈ l))
          rw [zeros, List.filter_map] at h1
          exact h1
        generalize hfs : (qs.filter fun q : It2 => decide ((0 : Int) ∈ q.2)) = fs at hD14 hfl
        have hfs13 : ∀ q ∈ fs, H13 q.1 = some (.tup (q.2.map V.int)) := fun q hq => by
          rw [← hfs] at hq
          exact hqs13 q (List.mem_filter.mp hq).1
        obtain ⟨f0, rfl, hf0⟩ : ∃ f0 : It2, fs = [f0] ∧ f0.2 = [0] := by
          cases fs with
          | nil => cases hfl
          | cons f0 fs =>
            cases fs with
            | nil =>
              rw [List.map_cons] at hfl
              injection hfl with e1 e2
              exact ⟨f0, rfl, e1⟩
            | cons f1 fs =>
              have := congrArg List.length hfl
              rw [List.length_map] at this
              cases this
        refine ⟨.list [encT f0], .list [encT (y, [0])], .lst (.of (s15 _ _ hD14)) (.cons (dp_tup (s15 _ _ (s14 _ _ (hfs13 f0 List.mem_cons_self)))) .nil), .lst (.of upd_same) (.cons (dp_tup (q := (y, [0])) (same_new ng _ _ upd_same)) .nil), encTs_shaped [f0], encTs_shaped [(y, [0])], false, ?_, iteF ?_⟩
        · have e : PyData.eqv (.list [encT f0]) (.list [encT (y, [0])]) = true := by
            rw [PyData.eqv, PyData.eqvAll, PyData.eqvAll, encT_eqv, decide_eq_true hf0]
            rfl
          rw [e]
          rfl
        have s1315 := s14.trans s15
        generalize upd (upd H14 y _) g _ = H15 at s15 s1315
        have hlt15 := s1315 _ _ hlt13
        -- return _law_size < 3 or ..
        refine ⟨_, rfl, _, _, rfl, rfl, _, rfl, ite2 (fun _ => q _) (fun c3 => ?_)⟩
        have m2 : 2 ≤ m := by
          have c3' : ¬ (1 + (m : Int) < 3) := of_decide_eq_false (Bool.eq_false_iff.mpr c3)
          omega
        refine ⟨_, rfl, 1, _, rfl, rfl, RgOk.of_le (by decide) (by omega) (by decide) (by omega), fun u nu => ?_⟩
        have s16 := same_new (o := .tup (rgV 1 (1 + (m : Int)))) nu
        have hu16 : upd H15 u (.tup (rgV 1 (1 + (m : Int)))) u = some (.tup ((rest1 m).map V.int)) := by
          rw [upd_same]
          unfold rgV rest1
          rw [show (1 + (m : Int) - 1).toNat = m by omega, List.map_map]
          rfl
        refine ⟨_, rfl, encT (u, rest1 m), qs.map encT, dp_tup (q := (u, rest1 m)) hu16, .lst (.of (s16 _ _ hlt15)) (dp_tups fun q hq => s16 _ _ (s1315 _ _ (hqs13 q hq))), encT_shaped _, encTs_shaped _, ?_⟩
        refine ⟨_, rfl, .inl ⟨_, rfl, _, 2, rfl, rfl, (by show (0 : Int) < 2; decide), rfl, rfl, ?_⟩⟩
        rw [any_enc, hlen4]
        have hm1 : rest1 m ∈ qs.map (·.2) ↔ sm t (2 ^ m) % 2 = 1 := perm.mem_iff.trans (tl_rest W)
        have hp := hpar m2
        have e : V.bl (decide (rest1 m ∈ qs.map (·.2))) = V.bl (decide (V.int ((cnt (nx (2 ^ m) t) (2 ^ (m + 1)) : Nat) % 2 : Int) = V.int 1)) := by
          refine congrArg V.bl (decide_eq_decide.mpr ?_)
          rw [hm1, V.int.injEq]
          omega
        show Q (V.bl (decide (V.bl (decide (rest1 m ∈ qs.map (·.2))) = V.bl (decide (V.int ((cnt (nx (2 ^ m) t) (2 ^ (m + 1)) : Nat) % 2 : Int) = V.int 1))))) _
        rw [decide_eq_true e]
        exact q _
end
end K52
set_option Elab.async false
set_option linter.all false
set_option maxRecDepth 100000
set_option maxHeartbeats 4000000
namespace K52
open PySem PySem.Spec PyProof.Rows L2
/-! ### what the top has written -/
/-- a def of the text stands -/
def Stands (K : PySem.W.Frag) (mg : Str → Option Value) (x : Str) (st : Stmt) (ps : List Str) : Prop := ∃ f fd, Fun K x x st f fd ∧ mg x = some (.ref f) ∧ Binds K fd ps []
theorem stands_mk {K : PySem.W.Frag} {h : Heap} {mg : Str → Option Value} {x : Str} {st : Stmt} {ps : List Str} {f : Addr} {od an : Option Addr} {sl : Array (Option Value)} {oc kV dc pm cd ct : Value} (X : K.In h) (G : h.Ns mainGlobals mg)
    (a : PySem.W.nsIn K mainGlobals x = some (some (.ref f))) (l : K.lookup f = some ⟨oc, od, .func (PySem.W.fnOf x x (defArgs st) (defBody st) (defScope st) .none kV dc pm an cd ct), sl⟩) (c : PySem.W.codeIn K cd x = true) (k : PySem.W.keepIn K (.ref f) = true)
    (hb : ∀ (kV doc pm : Value) (an : Option Addr) (cdv ct : Value) (us : List Value), us.length = ps.length → bindArgs (PySem.W.fnOf x x (defArgs st) (defBody st) (defScope st) .none kV doc pm an cdv ct) ⟨us, []⟩ = pure (ps.zip us)) : Stands K mg x st ps := by
  have F := fun_mk (st := st) l c k
  exact ⟨f, _, F, PySem.W.mg_of X G a, F.binds hb⟩
theorem Stands.cal {P : Program} {w : World} {K : PySem.W.Frag} {mg : Str → Option Value} {base : Heap} {k : Nat} {x : Str} {st : Stmt} {ps : List Str} {sp : Sp} (S : Stands K mg x st ps) (ok : ∀ (f : Addr) (fd : FuncData), Fun K x x st f fd → FnOk P w K mg base CX0 k f fd ps sp) : Cal P w K mg base k x ps sp := by
  obtain ⟨f, fd, F, m, b⟩ := S
  exact ⟨f, fd, ok f fd F, m, F.kp, b⟩
/-- all the defs keep their promises -/
theorem law_ok {P : Program} {w : World} {K : PySem.W.Frag} {mg : Str → Option Value} {base : Heap} {f : Addr} {fd : FuncData} (T : Txt K mg) (F : Fun K "law" "law" sLaw f fd)
    (S0 : Stands K mg "is_int" sIsInt ["value"])
    (S1 : Stands K mg "is_in" sIsIn ["value", "low", "high"])
    (S2 : Stands K mg "need_prime" sPrime ["value"])
    (S3 : Stands K mg "are_numbers" sNums ["prime", "value", "most"])
    (S4 : Stands K mg "whole_power" sPower ["prime", "exponent"])
    (S5 : Stands K mg "need_size" sSize ["prime", "size"])
    (S6 : Stands K mg "need_table" sTable ["prime", "size", "table"])
    (S7 : Stands K mg "place_of" sPlace ["prime", "state"])
    (S8 : Stands K mg "states_of" sStates ["prime", "size"])
    (S9 : Stands K mg "after" sAfter ["prime", "table", "state"])
    (S10 : Stands K mg "clash_of" sClash ["prime", "size", "table"])
    (S11 : Stands K mg "walked" sWalked ["prime", "size", "table"])
    (S12 : Stands K mg "need_one_to_one" sOne ["prime", "size", "table"])
    (S13 : Stands K mg "free_cycles" sFree ["prime", "size", "table"])
    (S14 : Stands K mg "terms_of" sTerms ["size", "table"])
    (S15 : Stands K mg "_law_taken" sTaken ["_law_row", "_law_many"])
    (S16 : Stands K mg "_law_every" sEvery ["_law_prime", "_law_size"])
    (S17 : Stands K mg "_law_fair_table" sFair ["_law_row", "_law_prime", "_law_size"])
    : FnOk P w K mg base CX0 7 f fd ["_law_script"] (spLaw K) := by
  have c_is_int : Cal P w K mg base 1 "is_int" ["value"] spIsInt := S0.cal fun f fd F => ok_isInt F T
  have c_is_in : Cal P w K mg base 2 "is_in" ["value", "low", "high"] spIsIn := S1.cal fun f fd F => ok_isIn F c_is_int
  have c_need_prime : Cal P w K mg base 2 "need_prime" ["value"] spPrime := S2.cal fun f fd F => ok_prime F T c_is_int
  have c_are_numbers : Cal P w K mg base 3 "are_numbers" ["prime", "value", "most"] spNums := S3.cal fun f fd F => ok_nums F T c_is_in
  have c_whole_power : Cal P w K mg base 1 "whole_power" ["prime", "exponent"] spPower := S4.cal fun f fd F => ok_power F T
  have c_need_size : Cal P w K mg base 3 "need_size" ["prime", "size"] spSize := S5.cal fun f fd F => ok_size F T c_need_prime c_is_in c_whole_power
  have c_need_table : Cal P w K mg base 4 "need_table" ["prime", "size", "table"] spTable := S6.cal fun f fd F => ok_table F T c_need_size c_are_numbers c_whole_power
  have c_place_of : Cal P w K mg base 1 "place_of" ["prime", "state"] (spPlace K) := S7.cal fun f fd F => ok_place F
  have c_states_of : Cal P w K mg base 1 "states_of" ["prime", "size"] spStates := S8.cal fun f fd F => ok_states F T
  have c_after : Cal P w K mg base 2 "after" ["prime", "table", "state"] (spAfter K) := S9.cal fun f fd F => ok_after F c_place_of
  have c_clash_of : Cal P w K mg base 3 "clash_of" ["prime", "size", "table"] spClash := S10.cal fun f fd F => ok_clash F T c_states_of c_after
  have c_walked : Cal P w K mg base 3 "walked" ["prime", "size", "table"] spWalked := S11.cal fun f fd F => ok_walked F c_states_of c_after
  have c_need_one_to_one : Cal P w K mg base 5 "need_one_to_one" ["prime", "size", "table"] spClash := S12.cal fun f fd F => ok_one F c_need_table c_clash_of
  have c_free_cycles : Cal P w K mg base 6 "free_cycles" ["prime", "size", "table"] spWalked := S13.cal fun f fd F => ok_free F c_need_one_to_one c_walked
  have c_terms_of : Cal P w K mg base 5 "terms_of" ["size", "table"] spTerms := S14.cal fun f fd F => ok_terms F T c_need_table c_states_of c_place_of
  have c__law_taken : Cal P w K mg base 1 "_law_taken" ["_law_row", "_law_many"] (spTaken K) := S15.cal fun f fd F => ok_taken F T
  have c__law_every : Cal P w K mg base 1 "_law_every" ["_law_prime", "_law_size"] spStates := S16.cal fun f fd F => ok_every F T
  have c__law_fair_table : Cal P w K mg base 2 "_law_fair_table" ["_law_row", "_law_prime", "_law_size"] (spFair K) := S17.cal fun f fd F => ok_fair F T c__law_every c__law_taken
  exact ok_law F T c__law_taken c__law_fair_table c_free_cycles c_terms_of
theorem all_mk {l : PySem.W.OpenLaw} {w : World} {K : PySem.W.Frag} {h : Heap} {mg : Str → Option Value} {fa fL pA : Addr} (X : K.In h) (G : h.Ns mainGlobals mg) (hfa : mg "law" = some (.ref fa))
    {odL anL odP : Option Addr} {slL slP : Array (Option Value)} {ocL kVL dcL pmL cdL ctL : Value} {t0 t1 t2 t3 t4 : Tok} {nP : Nat}
    {f0 : Addr} {od0 an0 : Option Addr} {sl0 : Array (Option Value)} {oc0 kV0 dc0 pm0 cd0 ct0 : Value}
    {f1 : Addr} {od1 an1 : Option Addr} {sl1 : Array (Option Value)} {oc1 kV1 dc1 pm1 cd1 ct1 : Value}
    {f2 : Addr} {od2 an2 : Option Addr} {sl2 : Array (Option Value)} {oc2 kV2 dc2 pm2 cd2 ct2 : Value}
    {f3 : Addr} {od3 an3 : Option Addr} {sl3 : Array (Option Value)} {oc3 kV3 dc3 pm3 cd3 ct3 : Value}
    {f4 : Addr} {od4 an4 : Option Addr} {sl4 : Array (Option Value)} {oc4 kV4 dc4 pm4 cd4 ct4 : Value}
    {f5 : Addr} {od5 an5 : Option Addr} {sl5 : Array (Option Value)} {oc5 kV5 dc5 pm5 cd5 ct5 : Value}
    {f6 : Addr} {od6 an6 : Option Addr} {sl6 : Array (Option Value)} {oc6 kV6 dc6 pm6 cd6 ct6 : Value}
    {f7 : Addr} {od7 an7 : Option Addr} {sl7 : Array (Option Value)} {oc7 kV7 dc7 pm7 cd7 ct7 : Value}
    {f8 : Addr} {od8 an8 : Option Addr} {sl8 : Array (Option Value)} {oc8 kV8 dc8 pm8 cd8 ct8 : Value}
    {f9 : Addr} {od9 an9 : Option Addr} {sl9 : Array (Option Value)} {oc9 kV9 dc9 pm9 cd9 ct9 : Value}
    {f10 : Addr} {od10 an10 : Option Addr} {sl10 : Array (Option Value)} {oc10 kV10 dc10 pm10 cd10 ct10 : Value}
    {f11 : Addr} {od11 an11 : Option Addr} {sl11 : Array (Option Value)} {oc11 kV11 dc11 pm11 cd11 ct11 : Value}
    {f12 : Addr} {od12 an12 : Option Addr} {sl12 : Array (Option Value)} {oc12 kV12 dc12 pm12 cd12 ct12 : Value}
    {f13 : Addr} {od13 an13 : Option Addr} {sl13 : Array (Option Value)} {oc13 kV13 dc13 pm13 cd13 ct13 : Value}
    {f14 : Addr} {od14 an14 : Option Addr} {sl14 : Array (Option Value)} {oc14 kV14 dc14 pm14 cd14 ct14 : Value}
    {f15 : Addr} {od15 an15 : Option Addr} {sl15 : Array (Option Value)} {oc15 kV15 dc15 pm15 cd15 ct15 : Value}
    {f16 : Addr} {od16 an16 : Option Addr} {sl16 : Array (Option Value)} {oc16 kV16 dc16 pm16 cd16 ct16 : Value}
    {f17 : Addr} {od17 an17 : Option Addr} {sl17 : Array (Option Value)} {oc17 kV17 dc17 pm17 cd17 ct17 : Value}
    (a0 : PySem.W.nsIn K mainGlobals "is_int" = some (some (.ref f0))) (l0 : K.lookup f0 = some ⟨oc0, od0, .func (PySem.W.fnOf "is_int" "is_int" (defArgs sIsInt) (defBody sIsInt) (defScope sIsInt) .none kV0 dc0 pm0 an0 cd0 ct0), sl0⟩) (c0 : PySem.W.codeIn K cd0 "is_int" = true) (k0 : PySem.W.keepIn K (.ref f0) = true)
    (a1 : PySem.W.nsIn K mainGlobals "is_in" = some (some (.ref f1))) (l1 : K.lookup f1 = some ⟨oc1, od1, .func (PySem.W.fnOf "is_in" "is_in" (defArgs sIsIn) (defBody sIsIn) (defScope sIsIn) .none kV1 dc1 pm1 an1 cd1 ct1), sl1⟩) (c1 : PySem.W.codeIn K cd1 "is_in" = true) (k1 : PySem.W.keepIn K (.ref f1) = true)
    (a2 : PySem.W.nsIn K mainGlobals "need_prime" = some (some (.ref f2))) (l2 : K.lookup f2 = some ⟨oc2, od2, .func (PySem.W.fnOf "need_prime" "need_prime" (defArgs sPrime) (defBody sPrime) (defScope sPrime) .none kV2 dc2 pm2 an2 cd2 ct2), sl2⟩) (c2 : PySem.W.codeIn K cd2 "need_prime" = true) (k2 : PySem.W.keepIn K (.ref f2) = true)
    (a3 : PySem.W.nsIn K mainGlobals "are_numbers" = some (some (.ref f3))) (l3 : K.lookup f3 = some ⟨oc3, od3, .func (PySem.W.fnOf "are_numbers" "are_numbers" (defArgs sNums) (defBody sNums) (defScope sNums) .none kV3 dc3 pm3 an3 cd3 ct3), sl3⟩) (c3 : PySem.W.codeIn K cd3 "are_numbers" = true) (k3 : PySem.W.keepIn K (.ref f3) = true)
    (a4 : PySem.W.nsIn K mainGlobals "whole_power" = some (some (.ref f4))) (l4 : K.lookup f4 = some ⟨oc4, od4, .func (PySem.W.fnOf "whole_power" "whole_power" (defArgs sPower) (defBody sPower) (defScope sPower) .none kV4 dc4 pm4 an4 cd4 ct4), sl4⟩) (c4 : PySem.W.codeIn K cd4 "whole_power" = true) (k4 : PySem.W.keepIn K (.ref f4) = true)
    (a5 : PySem.W.nsIn K mainGlobals "need_size" = some (some (.ref f5))) (l5 : K.lookup f5 = some ⟨oc5, od5, .func (PySem.W.fnOf "need_size" "need_size" (defArgs sSize) (defBody sSize) (defScope sSize) .none kV5 dc5 pm5 an5 cd5 ct5), sl5⟩) (c5 : PySem.W.codeIn K cd5 "need_size" = true) (k5 : PySem.W.keepIn K (.ref f5) = true)
    (a6 : PySem.W.nsIn K mainGlobals "need_table" = some (some (.ref f6))) (l6 : K.lookup f6 = some ⟨oc6, od6, .func (PySem.W.fnOf "need_table" "need_table" (defArgs sTable) (defBody sTable) (defScope sTable) .none kV6 dc6 pm6 an6 cd6 ct6), sl6⟩) (c6 : PySem.W.codeIn K cd6 "need_table" = true) (k6 : PySem.W.keepIn K (.ref f6) = true)
    (a7 : PySem.W.nsIn K mainGlobals "place_of" = some (some (.ref f7))) (l7 : K.lookup f7 = some ⟨oc7, od7, .func (PySem.W.fnOf "place_of" "place_of" (defArgs sPlace) (defBody sPlace) (defScope sPlace) .none kV7 dc7 pm7 an7 cd7 ct7), sl7⟩) (c7 : PySem.W.codeIn K cd7 "place_of" = true) (k7 : PySem.W.keepIn K (.ref f7) = true)
    (a8 : PySem.W.nsIn K mainGlobals "states_of" = some (some (.ref f8))) (l8 : K.lookup f8 = some ⟨oc8, od8, .func (PySem.W.fnOf "states_of" "states_of" (defArgs sStates) (defBody sStates) (defScope sStates) .none kV8 dc8 pm8 an8 cd8 ct8), sl8⟩) (c8 : PySem.W.codeIn K cd8 "states_of" = true) (k8 : PySem.W.keepIn K (.ref f8) = true)
    (a9 : PySem.W.nsIn K mainGlobals "after" = some (some (.ref f9))) (l9 : K.lookup f9 = some ⟨oc9, od9, .func (PySem.W.fnOf "after" "after" (defArgs sAfter) (defBody sAfter) (defScope sAfter) .none kV9 dc9 pm9 an9 cd9 ct9), sl9⟩) (c9 : PySem.W.codeIn K cd9 "after" = true) (k9 : PySem.W.keepIn K (.ref f9) = true)
    (a10 : PySem.W.nsIn K mainGlobals "clash_of" = some (some (.ref f10))) (l10 : K.lookup f10 = some ⟨oc10, od10, .func (PySem.W.fnOf "clash_of" "clash_of" (defArgs sClash) (defBody sClash) (defScope sClash) .none kV10 dc10 pm10 an10 cd10 ct10), sl10⟩) (c10 : PySem.W.codeIn K cd10 "clash_of" = true) (k10 : PySem.W.keepIn K (.ref f10) = true)
    (a11 : PySem.W.nsIn K mainGlobals "walked" = some (some (.ref f11))) (l11 : K.lookup f11 = some ⟨oc11, od11, .func (PySem.W.fnOf "walked" "walked" (defArgs sWalked) (defBody sWalked) (defScope sWalked) .none kV11 dc11 pm11 an11 cd11 ct11), sl11⟩) (c11 : PySem.W.codeIn K cd11 "walked" = true) (k11 : PySem.W.keepIn K (.ref f11) = true)
    (a12 : PySem.W.nsIn K mainGlobals "need_one_to_one" = some (some (.ref f12))) (l12 : K.lookup f12 = some ⟨oc12, od12, .func (PySem.W.fnOf "need_one_to_one" "need_one_to_one" (defArgs sOne) (defBody sOne) (defScope sOne) .none kV12 dc12 pm12 an12 cd12 ct12), sl12⟩) (c12 : PySem.W.codeIn K cd12 "need_one_to_one" = true) (k12 : PySem.W.keepIn K (.ref f12) = true)
    (a13 : PySem.W.nsIn K mainGlobals "free_cycles" = some (some (.ref f13))) (l13 : K.lookup f13 = some ⟨oc13, od13, .func (PySem.W.fnOf "free_cycles" "free_cycles" (defArgs sFree) (defBody sFree) (defScope sFree) .none kV13 dc13 pm13 an13 cd13 ct13), sl13⟩) (c13 : PySem.W.codeIn K cd13 "free_cycles" = true) (k13 : PySem.W.keepIn K (.ref f13) = true)
    (a14 : PySem.W.nsIn K mainGlobals "terms_of" = some (some (.ref f14))) (l14 : K.lookup f14 = some ⟨oc14, od14, .func (PySem.W.fnOf "terms_of" "terms_of" (defArgs sTerms) (defBody sTerms) (defScope sTerms) .none kV14 dc14 pm14 an14 cd14 ct14), sl14⟩) (c14 : PySem.W.codeIn K cd14 "terms_of" = true) (k14 : PySem.W.keepIn K (.ref f14) = true)
    (a15 : PySem.W.nsIn K mainGlobals "_law_taken" = some (some (.ref f15))) (l15 : K.lookup f15 = some ⟨oc15, od15, .func (PySem.W.fnOf "_law_taken" "_law_taken" (defArgs sTaken) (defBody sTaken) (defScope sTaken) .none kV15 dc15 pm15 an15 cd15 ct15), sl15⟩) (c15 : PySem.W.codeIn K cd15 "_law_taken" = true) (k15 : PySem.W.keepIn K (.ref f15) = true)
    (a16 : PySem.W.nsIn K mainGlobals "_law_every" = some (some (.ref f16))) (l16 : K.lookup f16 = some ⟨oc16, od16, .func (PySem.W.fnOf "_law_every" "_law_every" (defArgs sEvery) (defBody sEvery) (defScope sEvery) .none kV16 dc16 pm16 an16 cd16 ct16), sl16⟩) (c16 : PySem.W.codeIn K cd16 "_law_every" = true) (k16 : PySem.W.keepIn K (.ref f16) = true)
    (a17 : PySem.W.nsIn K mainGlobals "_law_fair_table" = some (some (.ref f17))) (l17 : K.lookup f17 = some ⟨oc17, od17, .func (PySem.W.fnOf "_law_fair_table" "_law_fair_table" (defArgs sFair) (defBody sFair) (defScope sFair) .none kV17 dc17 pm17 an17 cd17 ct17), sl17⟩) (c17 : PySem.W.codeIn K cd17 "_law_fair_table" = true) (k17 : PySem.W.keepIn K (.ref f17) = true)
    (aL : PySem.W.nsIn K mainGlobals "law" = some (some (.ref fL))) (lL : K.lookup fL = some ⟨ocL, odL, .func (PySem.W.fnOf "law" "law" (defArgs sLaw) (defBody sLaw) (defScope sLaw) .none kVL dcL pmL anL cdL ctL), slL⟩) (cL : PySem.W.codeIn K cdL "law" = true) (kL : PySem.W.keepIn K (.ref fL) = true)
    (aP : PySem.W.nsIn K mainGlobals "PRIMES" = some (some (.ref pA))) (lP : K.lookup pA = some ⟨.type "tuple", odP, .seq #[.int 2 t1, .int 3 t2, .int 5 t3, .int 7 t4] nP, slP⟩) (aM : PySem.W.nsIn K mainGlobals "MOST_STATES" = some (some (.int 512 t0)))
    (z_isinstance : PySem.W.nsIn K mainGlobals "isinstance" = some none)
    (z_int : PySem.W.nsIn K mainGlobals "int" = some none)
    (z_bool : PySem.W.nsIn K mainGlobals "bool" = some none)
    (z_tuple : PySem.W.nsIn K mainGlobals "tuple" = some none)
    (z_len : PySem.W.nsIn K mainGlobals "len" = some none)
    (z_all : PySem.W.nsIn K mainGlobals "all" = some none)
    (z_range : PySem.W.nsIn K mainGlobals "range" = some none)
    (z_min : PySem.W.nsIn K mainGlobals "min" = some none)
    (z_sorted : PySem.W.nsIn K mainGlobals "sorted" = some none)
    (z_list : PySem.W.nsIn K mainGlobals "list" = some none)
    (z_sum : PySem.W.nsIn K mainGlobals "sum" = some none)
    (z_abs : PySem.W.nsIn K mainGlobals "abs" = some none)
    : ∃ fd : FuncData, (∀ (s : Shared) (v : Value), BindsTo s fd ⟨[v], []⟩ [("_law_script", v)]) ∧ ∀ base : Heap, K.In base → base.Ns mainGlobals mg → FnOk l.prog w K mg base CX0 7 fa fd ["_law_script"] (spLaw K) := by
  have e := hfa.symm.trans (PySem.W.mg_of X G aL)
  cases e
  have T : Txt K mg := ⟨PySem.W.mg_none_of X G z_isinstance, PySem.W.mg_none_of X G z_int, PySem.W.mg_none_of X G z_bool, PySem.W.mg_none_of X G z_tuple, PySem.W.mg_none_of X G z_len, PySem.W.mg_none_of X G z_all, PySem.W.mg_none_of X G z_range, PySem.W.mg_none_of X G z_min, PySem.W.mg_none_of X G z_sorted, PySem.W.mg_none_of X G z_list, PySem.W.mg_none_of X G z_sum, PySem.W.mg_none_of X G z_abs, ⟨pA, PySem.W.mg_of X G aP, fun H => .inr ⟨_, _, _, lP, rfl, rfl, by show 4 ≤ sizeLine; decide, .cons ⟨_, rfl⟩ (.cons ⟨_, rfl⟩ (.cons ⟨_, rfl⟩ (.cons ⟨_, rfl⟩ .nil)))⟩⟩, ⟨_, PySem.W.mg_of X G aM⟩⟩
  have F := fun_mk (st := sLaw) lL cL kL
  refine ⟨PySem.W.fnOf "law" "law" (defArgs sLaw) (defBody sLaw) (defScope sLaw) .none kVL dcL pmL anL cdL ctL, fun s v => .of_eq rfl, fun base _ _ => law_ok T F
    (stands_mk X G a0 l0 c0 k0 fun _ _ _ _ _ _ us hl => match us, hl with | [_], _ => rfl)
    (stands_mk X G a1 l1 c1 k1 fun _ _ _ _ _ _ us hl => match us, hl with | [_, _, _], _ => rfl)
    (stands_mk X G a2 l2 c2 k2 fun _ _ _ _ _ _ us hl => match us, hl with | [_], _ => rfl)
    (stands_mk X G a3 l3 c3 k3 fun _ _ _ _ _ _ us hl => match us, hl with | [_, _, _], _ => rfl)
    (stands_mk X G a4 l4 c4 k4 fun _ _ _ _ _ _ us hl => match us, hl with | [_, _], _ => rfl)
    (stands_mk X G a5 l5 c5 k5 fun _ _ _ _ _ _ us hl => match us, hl with | [_, _], _ => rfl)
    (stands_mk X G a6 l6 c6 k6 fun _ _ _ _ _ _ us hl => match us, hl with | [_, _, _], _ => rfl)
    (stands_mk X G a7 l7 c7 k7 fun _ _ _ _ _ _ us hl => match us, hl with | [_, _], _ => rfl)
    (stands_mk X G a8 l8 c8 k8 fun _ _ _ _ _ _ us hl => match us, hl with | [_, _], _ => rfl)
    (stands_mk X G a9 l9 c9 k9 fun _ _ _ _ _ _ us hl => match us, hl with | [_, _, _], _ => rfl)
    (stands_mk X G a10 l10 c10 k10 fun _ _ _ _ _ _ us hl => match us, hl with | [_, _, _], _ => rfl)
    (stands_mk X G a11 l11 c11 k11 fun _ _ _ _ _ _ us hl => match us, hl with | [_, _, _], _ => rfl)
    (stands_mk X G a12 l12 c12 k12 fun _ _ _ _ _ _ us hl => match us, hl with | [_, _, _], _ => rfl)
    (stands_mk X G a13 l13 c13 k13 fun _ _ _ _ _ _ us hl => match us, hl with | [_, _, _], _ => rfl)
    (stands_mk X G a14 l14 c14 k14 fun _ _ _ _ _ _ us hl => match us, hl with | [_, _], _ => rfl)
    (stands_mk X G a15 l15 c15 k15 fun _ _ _ _ _ _ us hl => match us, hl with | [_, _], _ => rfl)
    (stands_mk X G a16 l16 c16 k16 fun _ _ _ _ _ _ us hl => match us, hl with | [_, _], _ => rfl)
    (stands_mk X G a17 l17 c17 k17 fun _ _ _ _ _ _ us hl => match us, hl with | [_, _, _], _ => rfl)⟩
end K52
open PySem PySem.W PyProof.Rows
set_option maxRecDepth 100000 in
set_option maxHeartbeats 0 in
theorem PySem.Challenge.cw_taprows_k52_whole_parity_of_cycles_holds : PySem.Challenge.rw_taprows_k52_whole_parity_of_cycles.Holds := by
  w_on; o_law; k_head; (case hw => w_witness2)
  k_fill
  refine L2.walk_of (l := PySem.Challenge.rw_taprows_k52_whole_parity_of_cycles) (n := 63) (k := 7) (x := "_law_script") (CX := fun _ => L2.CX0) (sp := fun w => K52.spLaw _) rfl (by decide) rfl ⟨rfl, by decide, by decide⟩ (fun w h Y => PySem.W.kIn_of Y) ?F (fun _ _ a ns hl _ hS => ⟨a, ns, rfl, hS, fun _ => rfl⟩) (fun _ _ _ _ _ h => h)
  case F =>
    intro w mg fa h KX G hmg
    refine' K52.all_mk KX G hmg ?a0 ?l0 ?c0 ?k0 ?a1 ?l1 ?c1 ?k1 ?a2 ?l2 ?c2 ?k2 ?a3 ?l3 ?c3 ?k3 ?a4 ?l4 ?c4 ?k4 ?a5 ?l5 ?c5 ?k5 ?a6 ?l6 ?c6 ?k6 ?a7 ?l7 ?c7 ?k7 ?a8 ?l8 ?c8 ?k8 ?a9 ?l9 ?c9 ?k9 ?a10 ?l10 ?c10 ?k10 ?a11 ?l11 ?c11 ?k11 ?a12 ?l12 ?c12 ?k12 ?a13 ?l13 ?c13 ?k13 ?a14 ?l14 ?c14 ?k14 ?a15 ?l15 ?c15 ?k15 ?a16 ?l16 ?c16 ?k16 ?a17 ?l17 ?c17 ?k17 ?aL ?lL ?cL ?kL ?aP ?lP ?aM ?z_isinstance ?z_int ?z_bool ?z_tuple ?z_len ?z_all ?z_range ?z_min ?z_sorted ?z_list ?z_sum ?z_abs
    (case a0 => k_is)
    (case l0 => k_is)
    (case c0 => k_is)
    (case k0 => k_is)
    (case a1 => k_is)
    (case l1 => k_is)
    (case c1 => k_is)
    (case k1 => k_is)
    (case a2 => k_is)
    (case l2 => k_is)
    (case c2 => k_is)
    (case k2 => k_is)
    (case a3 => k_is)
    (case l3 => k_is)
    (case c3 => k_is)
    (case k3 => k_is)
    (case a4 => k_is)
    (case l4 => k_is)
    (case c4 => k_is)
    (case k4 => k_is)
    (case a5 => k_is)
    (case l5 => k_is)
    (case c5 => k_is)
    (case k5 => k_is)
    (case a6 => k_is)
    (case l6 => k_is)
    (case c6 => k_is)
    (case k6 => k_is)
    (case a7 => k_is)
    (case l7 => k_is)
    (case c7 => k_is)
    (case k7 => k_is)
    (case a8 => k_is)
    (case l8 => k_is)
    (case c8 => k_is)
    (case k8 => k_is)
    (case a9 => k_is)
    (case l9 => k_is)
    (case c9 => k_is)
    (case k9 => k_is)
    (case a10 => k_is)
    (case l10 => k_is)
    (case c10 => k_is)
    (case k10 => k_is)
    (case a11 => k_is)
    (case l11 => k_is)
    (case c11 => k_is)
    (case k11 => k_is)
    (case a12 => k_is)
    (case l12 => k_is)
    (case c12 => k_is)
    (case k12 => k_is)
    (case a13 => k_is)
    (case l13 => k_is)
    (case c13 => k_is)
    (case k13 => k_is)
    (case a14 => k_is)
    (case l14 => k_is)
    (case c14 => k_is)
    (case k14 => k_is)
    (case a15 => k_is)
    (case l15 => k_is)
    (case c15 => k_is)
    (case k15 => k_is)
    (case a16 => k_is)
    (case l16 => k_is)
    (case c16 => k_is)
    (case k16 => k_is)
    (case a17 => k_is)
    (case l17 => k_is)
    (case c17 => k_is)
    (case k17 => k_is)
    (case aL => k_is)
    (case lL => k_is)
    (case cL => k_is)
    (case kL => k_is)
    (case aP => k_is)
    (case lP => k_is)
    (case aM => k_is)
    (case z_isinstance => k_is)
    (case z_int => k_is)
    (case z_bool => k_is)
    (case z_tuple => k_is)
    (case z_len => k_is)
    (case z_all => k_is)
    (case z_range => k_is)
    (case z_min => k_is)
    (case z_sorted => k_is)
    (case z_list => k_is)
    (case z_sum => k_is)
    (case z_abs => k_is)
