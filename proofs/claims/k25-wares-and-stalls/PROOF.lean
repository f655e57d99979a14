import PyProof.Rows.All
import Wide.All
import OpenK.AllK
import Wide.FinOn
import KE.KStateDown
import Lean
import HandS.ForMost
import HandS.Exc
import HandS.More
import HandS.WordsExc
import HandS.Defaults
import HandS.Head0
import HandS.Head1
import HandS.Head2
import HandS.HeadEnd
import HandS.HeadHook1
import HandS.HeadHook2
import HandS.HeadHook3
import HandS.HeadHook4
import HandS.HeadNt
import PySem.Challenge.RW_rootstalls_k25_whole_fewest_wares_and_st
import HandS.Style
import HandS.Walk
import KE.GoesNew
import KE.GoesEnum
import KE.DataMinMax
import KE.SortData
import HandS.IsInst
import HandS.Wide
import HandS.WideBits
import HandS.Conv
import HandS.TupAny
import HandS.DictComp
import HandS.Deep
import HandS.NoneIn
import HandS.SetFor
import HandS.TryOnly
import HandS.TryMany
import HandS.ExcOwn
import HandS.OwnEq
import KE.IntBitsLaws
import HandS.WordsDict
import HandS.Evl
import KE.BitLaws
set_option linter.all false
/-! Plain mathematics: fractions as core Rat, their sizes, striking. -/
namespace R25
/-! ### fractions in lowest terms -/
theorem frac_num {t b : Int} (hb : 0 < b) : (Rat.divInt t b).num = t / (Int.gcd t b : Int) := by
  rw [Rat.num_divInt, Int.sign_eq_one_of_pos hb, Int.one_mul, Int.gcd_comm]
theorem frac_den {t b : Int} (hb : 0 < b) : ((Rat.divInt t b).den : Int) = b / (Int.gcd t b : Int) := by
  rw [Rat.den_divInt, if_neg (by omega), Int.gcd_comm]
  obtain ⟨n, rfl⟩ := Int.eq_ofNat_of_zero_le (Int.le_of_lt hb)
  simp
theorem frac_self (q : Rat) : Rat.divInt q.num q.den = q := Rat.num_divInt_den q
theorem den_pos (q : Rat) : (0 : Int) < q.den := Int.natCast_pos.mpr (Nat.pos_of_ne_zero q.den_nz)
theorem den_ne (q : Rat) : (q.den : Int) ≠ 0 := by have := den_pos q; omega
theorem frac_add (a b : Rat) : Rat.divInt (a.num * b.den + b.num * a.den) (a.den * b.den) = a + b := by
  rw [← Rat.divInt_add_divInt _ _ (den_ne a) (den_ne b), frac_self, frac_self]
theorem frac_sub (a b : Rat) : Rat.divInt (a.num * b.den - b.num * a.den) (a.den * b.den) = a - b := by
  rw [← Rat.divInt_sub_divInt _ _ (den_ne a) (den_ne b), frac_self, frac_self]
theorem frac_mul (a b : Rat) : Rat.divInt (a.num * b.num) (a.den * b.den) = a * b := by
  rw [← Rat.divInt_mul_divInt, frac_self, frac_self]
theorem frac_div (a b : Rat) : Rat.divInt (a.num * b.den) (a.den * b.num) = a / b := by
  rw [Rat.div_def, Rat.inv_def, ← Rat.divInt_mul_divInt, frac_self]
theorem num_pos {q : Rat} : 0 < q.num ↔ 0 < q := by
  constructor
  · intro h
    have h1 : 0 ≤ q := Rat.num_nonneg.mp (Int.le_of_lt h)
    rcases Rat.le_iff_lt_or_eq.mp h1 with h2 | h2
    · exact h2
    · rw [← h2] at h
      exact absurd h (by decide)
  · intro h
    have h1 : 0 ≤ q.num := Rat.num_nonneg.mpr (Rat.le_of_lt h)
    rcases Int.lt_or_eq_of_le h1 with h2 | h2
    · exact h2
    · have : q = 0 := Rat.num_eq_zero.mp h2.symm
      rw [this] at h
      exact absurd h (by decide)
theorem num_neg {q : Rat} : q.num < 0 ↔ q < 0 := by
  have h := @Rat.num_nonneg q
  constructor
  · intro h1
    exact Rat.not_le.mp fun h2 => by have := h.mpr h2; omega
  · intro h1
    have h2 : ¬ 0 ≤ q := Rat.not_le.mpr h1
    have h3 : ¬ 0 ≤ q.num := fun h4 => h2 (h.mp h4)
    omega
theorem num_zero {q : Rat} : q.num = 0 ↔ q = 0 := Rat.num_eq_zero
theorem rat_ext {a b : Rat} (h1 : a.num = b.num) (h2 : a.den = b.den) : a = b := Rat.ext h1 h2
theorem sub_zero' (q : Rat) : q - 0 = q := by grind
/-! ### sizes -/
def lim : Nat := 4000
def Ok (q : Rat) : Prop := q.num.natAbs < 2 ^ lim ∧ q.den < 2 ^ lim
/-- q is n / D, n at most N in size -/
def Bd (D N : Nat) (q : Rat) : Prop := ∃ n : Int, q = (n : Rat) / (D : Rat) ∧ n.natAbs ≤ N
theorem rat_ofInt (n : Int) (D : Nat) : (n : Rat) / (D : Rat) = Rat.divInt n D := by
  rw [← frac_div]
  simp
theorem Bd.size {D N : Nat} {q : Rat} (hD : 0 < D) (h : Bd D N q) : q.num.natAbs ≤ N ∧ q.den ≤ D := by
  obtain ⟨n, e, hn⟩ := h
  rw [rat_ofInt] at e
  have hD' : (0 : Int) < D := by omega
  have h1 := frac_num (t := n) hD'
  have h2 := frac_den (t := n) hD'
  rw [← e] at h1 h2
  constructor
  · rw [h1]
    have := Int.natAbs_ediv_le_natAbs n (Int.gcd n D : Int)
    omega
  · have h3 : ((D : Int) / (Int.gcd n D : Int)) ≤ D := Int.ediv_le_self _ (by omega)
    omega
theorem Bd.ok {D N : Nat} {q : Rat} (hD : 0 < D) (h : Bd D N q) (h1 : D < 2 ^ lim) (h2 : N < 2 ^ lim) : Ok q := by
  have := h.size hD
  exact ⟨Nat.lt_of_le_of_lt this.1 h2, Nat.lt_of_le_of_lt this.2 h1⟩
theorem Bd.mono {D N M : Nat} {q : Rat} (h : Bd D N q) (hm : N ≤ M) : Bd D M q := by
  obtain ⟨n, e, hn⟩ := h
  exact ⟨n, e, by omega⟩
theorem Bd.zero {D N : Nat} : Bd D N 0 := ⟨0, by simp [Rat.div_def, Rat.zero_mul], by simp⟩
theorem Bd.add {D N M : Nat} {p q : Rat} (hp : Bd D N p) (hq : Bd D M q) : Bd D (N + M) (p + q) := by
  obtain ⟨n, e, hn⟩ := hp
  obtain ⟨m, f, hm⟩ := hq
  refine ⟨n + m, ?_, by omega⟩
  rw [e, f, Rat.intCast_add]
  grind
theorem Bd.sub {D N M : Nat} {p q : Rat} (hp : Bd D N p) (hq : Bd D M q) : Bd D (N + M) (p - q) := by
  obtain ⟨n, e, hn⟩ := hp
  obtain ⟨m, f, hm⟩ := hq
  refine ⟨n - m, ?_, by omega⟩
  rw [e, f, Rat.intCast_sub]
  grind
theorem natCast_ne {D : Nat} (h : 0 < D) : (D : Rat) ≠ 0 := by
  intro e
  have := Rat.natCast_eq_zero_iff.mp e
  omega
theorem Bd.mul {D E N M : Nat} {p q : Rat} (hp : Bd D N p) (hq : Bd E M q) (hD : 0 < D) (hE : 0 < E) : Bd (D * E) (N * M) (p * q) := by
  obtain ⟨n, e, hn⟩ := hp
  obtain ⟨m, f, hm⟩ := hq
  refine ⟨n * m, ?_, ?_⟩
  · have h1 := natCast_ne hD
    have h2 := natCast_ne hE
    rw [e, f, Rat.intCast_mul, Rat.natCast_mul]
    grind
  · rw [Int.natAbs_mul]
    exact Nat.mul_le_mul hn hm
/-- a finer denominator -/
theorem Bd.scale {D N E : Nat} {p : Rat} (hp : Bd D N p) (hD : 0 < D) (hE : 0 < E) : Bd (D * E) (N * E) p := by
  obtain ⟨n, e, hn⟩ := hp
  refine ⟨n * E, ?_, ?_⟩
  · have h1 := natCast_ne hD
    have h2 := natCast_ne hE
    rw [e, Rat.intCast_mul, Rat.natCast_mul]
    have h3 : ((E : Int) : Rat) = (E : Rat) := Rat.intCast_natCast E
    rw [h3]
    grind
  · rw [Int.natAbs_mul, Int.natAbs_natCast]
    exact Nat.mul_le_mul hn (Nat.le_refl _)
end R25

set_option linter.all false
/-! Plain mathematics: striking out. -/
namespace R25
structure Tb where
  s : Nat → Rat
  t : Nat → Nat → Rat
def elim (h : Nat) (m : Tb) : Tb := ⟨fun j => m.s j - m.t h j * m.t h j / m.s h, fun i j => m.t i j + m.t h i * m.t h j / m.s h⟩
def bad (h : Nat) (rest : List Nat) (m : Tb) : Bool := decide (m.s h < 0) || (decide (m.s h = 0) && rest.any fun j => decide (0 < m.t h j))
def run : List Nat → Tb → Bool
  | [], _ => true
  | h :: r, m => if bad h r m = true then false else run r (elim h m)
theorem run_nil (m : Tb) : run [] m = true := rfl
theorem run_cons (h : Nat) (r : List Nat) (m : Tb) : run (h :: r) m = if bad h r m = true then false else run r (elim h m) := rfl
/-! ### no tie is below 0, the ties are the same both ways -/
structure Good (m : Tb) : Prop where
  nn : ∀ i j, 0 ≤ m.t i j
  sy : ∀ i j, m.t i j = m.t j i
theorem div_zero (q : Rat) : q / 0 = 0 := by rw [Rat.div_def, Rat.inv_zero, Rat.mul_zero]
theorem div_nonneg {a b : Rat} (ha : 0 ≤ a) (hb : 0 ≤ b) : 0 ≤ a / b := by
  rcases Rat.le_iff_lt_or_eq.mp hb with h | h
  · rw [Rat.div_def]
    exact Rat.mul_nonneg ha (Rat.le_of_lt (Rat.inv_pos.mpr h))
  · rw [← h, div_zero]
    exact Rat.le_refl
theorem div_pos {a b : Rat} (ha : 0 < a) (hb : 0 < b) : 0 < a / b := by
  rw [Rat.div_def]
  exact Rat.mul_pos ha (Rat.inv_pos.mpr hb)
theorem bad_false {h : Nat} {r : List Nat} {m : Tb} (b : bad h r m = false) : 0 ≤ m.s h ∧ (m.s h = 0 → ∀ j ∈ r, ¬ 0 < m.t h j) := by
  unfold bad at b
  rw [Bool.or_eq_false_iff, Bool.and_eq_false_iff] at b
  obtain ⟨b1, b2⟩ := b
  refine ⟨Rat.not_lt.mp (of_decide_eq_false b1), fun e j hj hp => ?_⟩
  rcases b2 with b2 | b2
  · exact of_decide_eq_false b2 e
  · have := List.any_eq_false.mp b2 j hj
    exact this (decide_eq_true hp)
theorem bad_true {h : Nat} {r : List Nat} {m : Tb} (b : bad h r m = true) : m.s h < 0 ∨ (m.s h = 0 ∧ ∃ j ∈ r, 0 < m.t h j) := by
  unfold bad at b
  rw [Bool.or_eq_true, Bool.and_eq_true] at b
  rcases b with b | ⟨b1, b2⟩
  · exact .inl (of_decide_eq_true b)
  · obtain ⟨j, hj, hp⟩ := List.any_eq_true.mp b2
    exact .inr ⟨of_decide_eq_true b1, j, hj, of_decide_eq_true hp⟩
theorem Good.elim {h : Nat} {m : Tb} (g : Good m) (hs : 0 ≤ m.s h) : Good (elim h m) := by
  constructor
  · intro i j
    exact Rat.add_nonneg (g.nn i j) (div_nonneg (Rat.mul_nonneg (g.nn _ _) (g.nn _ _)) hs)
  · intro i j
    show m.t i j + m.t h i * m.t h j / m.s h = m.t j i + m.t h j * m.t h i / m.s h
    rw [g.sy i j, Rat.mul_comm (m.t h i)]
/-! ### other numbers for the wares -/
def Tb.via (m : Tb) (f : Nat → Nat) : Tb := ⟨fun i => m.s (f i), fun i j => m.t (f i) (f j)⟩
theorem via_elim (m : Tb) (f : Nat → Nat) (h : Nat) : elim h (m.via f) = (elim (f h) m).via f := rfl
theorem bad_via (m : Tb) (f : Nat → Nat) (h : Nat) (r : List Nat) : bad h r (m.via f) = bad (f h) (r.map f) m := by
  unfold bad
  rw [List.any_map] <;> rfl
theorem run_via (f : Nat → Nat) : ∀ (l : List Nat) (m : Tb), run l (m.via f) = run (l.map f) m
  | [], _ => rfl
  | h :: r, m => by
    rw [List.map_cons, run_cons, run_cons, bad_via, via_elim, run_via f r]
/-- the wares of a tuple, numbered anew -/
theorem run_sub (w : List Nat) (m : Tb) : run (List.range w.length) (m.via fun i => w.getD i 0) = run w m := by
  rw [run_via]
  congr 1
  apply List.ext_getElem
  · simp
  · intro i h1 h2
    simp at h1 h2
    simp [h2]
/-! ### only what stands in the list counts -/
structure Agree (l : List Nat) (m m' : Tb) : Prop where
  s : ∀ i ∈ l, m.s i = m'.s i
  t : ∀ i ∈ l, ∀ j ∈ l, i ≠ j → m.t i j = m'.t i j
theorem Agree.elim {h : Nat} {r : List Nat} {m m' : Tb} (a : Agree (h :: r) m m') (nd : (h :: r).Nodup) : Agree r (elim h m) (elim h m') := by
  obtain ⟨n1, n2⟩ := List.nodup_cons.mp nd
  have hne : ∀ i ∈ r, h ≠ i := fun i hi e => n1 (e ▸ hi)
  constructor
  · intro i hi
    show m.s i - m.t h i * m.t h i / m.s h = m'.s i - m'.t h i * m'.t h i / m'.s h
    rw [a.s i (List.mem_cons_of_mem _ hi), a.s h List.mem_cons_self, a.t h List.mem_cons_self i (List.mem_cons_of_mem _ hi) (hne i hi)]
  · intro i hi j hj hij
    show m.t i j + m.t h i * m.t h j / m.s h = m'.t i j + m'.t h i * m'.t h j / m'.s h
    rw [a.s h List.mem_cons_self, a.t h List.mem_cons_self i (List.mem_cons_of_mem _ hi) (hne i hi), a.t h List.mem_cons_self j (List.mem_cons_of_mem _ hj) (hne j hj), a.t i (List.mem_cons_of_mem _ hi) j (List.mem_cons_of_mem _ hj) hij]
theorem any_congr' {α : Type} {p q : α → Bool} : ∀ {l : List α}, (∀ a ∈ l, p a = q a) → l.any p = l.any q
  | [], _ => rfl
  | a :: l, h => by rw [List.any_cons, List.any_cons, h a List.mem_cons_self, any_congr' fun b hb => h b (List.mem_cons_of_mem _ hb)]
theorem Agree.bad {h : Nat} {r : List Nat} {m m' : Tb} (a : Agree (h :: r) m m') (nd : (h :: r).Nodup) : bad h r m = bad h r m' := by
  obtain ⟨n1, n2⟩ := List.nodup_cons.mp nd
  unfold R25.bad
  rw [a.s h List.mem_cons_self]
  congr 1
  congr 1
  refine any_congr' fun j hj => ?_
  rw [a.t h List.mem_cons_self j (List.mem_cons_of_mem _ hj) fun e => n1 (e ▸ hj)]
theorem run_agree : ∀ {l : List Nat} {m m' : Tb}, l.Nodup → Agree l m m' → run l m = run l m'
  | [], _, _, _, _ => rfl
  | h :: r, m, m', nd, a => by
    rw [run_cons, run_cons, a.bad nd, run_agree (List.nodup_cons.mp nd).2 (a.elim nd)]
/-! ### wares without ties -/
structure Lone (p : Nat → Bool) (m : Tb) : Prop where
  s : ∀ i, p i = false → 0 ≤ m.s i
  t : ∀ i j, p i = false → m.t i j = 0
  t' : ∀ i j, p j = false → m.t i j = 0
theorem zero_div' (q : Rat) : 0 / q = 0 := by rw [Rat.div_def, Rat.zero_mul]
theorem Lone.elim {p : Nat → Bool} {m : Tb} (a : Lone p m) (h : Nat) : Lone p (elim h m) := by
  constructor
  · intro i hi
    show 0 ≤ m.s i - m.t h i * m.t h i / m.s h
    rw [a.t' h i hi, Rat.mul_zero, zero_div', sub_zero']
    exact a.s i hi
  · intro i j hi
    show m.t i j + m.t h i * m.t h j / m.s h = 0
    rw [a.t i j hi, a.t' h i hi, Rat.zero_mul, zero_div', Rat.zero_add]
  · intro i j hj
    show m.t i j + m.t h i * m.t h j / m.s h = 0
    rw [a.t' i j hj, a.t' h j hj, Rat.mul_zero, zero_div', Rat.zero_add]
theorem Lone.same {p : Nat → Bool} {m : Tb} (a : Lone p m) {h : Nat} (hh : p h = false) : R25.elim h m = m := by
  have e1 : (fun j => m.s j - m.t h j * m.t h j / m.s h) = m.s := by
    funext j
    rw [a.t h j hh, Rat.mul_zero, zero_div', sub_zero']
  have e2 : (fun i j => m.t i j + m.t h i * m.t h j / m.s h) = m.t := by
    funext i j
    rw [a.t h i hh, Rat.zero_mul, zero_div', Rat.add_zero]
  show (⟨_, _⟩ : Tb) = m
  rw [e1, e2]
theorem Lone.bad {p : Nat → Bool} {m : Tb} (a : Lone p m) {h : Nat} {r : List Nat} : bad h r m = bad h (r.filter p) m := by
  unfold R25.bad
  congr 1
  congr 1
  rw [List.any_filter]
  refine any_congr' fun j hj => ?_
  cases e : p j with
  | true => rw [Bool.true_and]
  | false =>
    rw [Bool.false_and]
    refine decide_eq_false ?_
    rw [a.t' h j e]
    exact Rat.lt_irrefl
theorem run_lone {p : Nat → Bool} : ∀ {l : List Nat} {m : Tb}, Lone p m → run l m = run (l.filter p) m
  | [], _, _ => rfl
  | h :: r, m, a => by
    rw [run_cons]
    cases e : p h with
    | true =>
      rw [List.filter_cons_of_pos e, run_cons, a.bad (r := r), run_lone (a.elim h)]
    | false =>
      rw [List.filter_cons_of_neg (by rw [e]; exact Bool.false_ne_true), a.same e, run_lone a, if_neg]
      intro b
      rcases bad_true b with b | ⟨_, j, _, b⟩
      · exact absurd b (Rat.not_lt.mpr (a.s h e))
      · rw [a.t h j e] at b
        exact Rat.lt_irrefl b
/-! ### sizes -/
/-- A k: the bits at the k-th strike -/
def bits (k : Nat) : Nat := 28 * 2 ^ k
def Fine (k : Nat) (m : Tb) : Prop := ∃ D : Nat, 0 < D ∧ D ≤ 2 ^ bits k ∧ (∀ i, Bd D (2 ^ (bits k - 1)) (m.s i)) ∧ ∀ i j, Bd D (2 ^ (bits k - 1)) (m.t i j)
theorem bits_succ (k : Nat) : bits (k + 1) = bits k + bits k := by unfold bits; rw [Nat.pow_succ]; omega
theorem bits_pos (k : Nat) : 28 ≤ bits k := by
  unfold bits
  have : 0 < 2 ^ k := Nat.two_pow_pos k
  omega
theorem Fine.mono {k : Nat} {m : Tb} (f : Fine k m) : Fine (k + 1) m := by
  obtain ⟨D, hD, hd, h1, h2⟩ := f
  have hb := bits_pos k
  rw [Fine, bits_succ]
  exact ⟨D, hD, Nat.le_trans hd (Nat.pow_le_pow_right (by decide) (by omega)), fun i => (h1 i).mono (Nat.pow_le_pow_right (by decide) (by omega)), fun i j => (h2 i j).mono (Nat.pow_le_pow_right (by decide) (by omega))⟩
/-- a product of two, over a third -/
theorem Bd.over {D N M L : Nat} {p q s : Rat} (hp : Bd D N p) (hq : Bd D M q) (hs : Bd D L s) (hD : 0 < D) (h0 : 0 < s) : ∃ n : Nat, 0 < n ∧ n ≤ L ∧ s = (n : Rat) / (D : Rat) ∧ Bd (D * n) (N * M) (p * q / s) := by
  obtain ⟨a, ea, ha⟩ := hp
  obtain ⟨b, eb, hb⟩ := hq
  obtain ⟨c, ec, hc⟩ := hs
  have hDr := natCast_ne hD
  have hDp : (0 : Rat) < D := Rat.natCast_pos.mpr hD
  have hc0 : 0 < c := by
    have e : (c : Rat) = s * D := by rw [ec]; grind
    have : (0 : Rat) < (c : Rat) := by rw [e]; exact Rat.mul_pos h0 hDp
    exact Rat.intCast_pos.mp this
  obtain ⟨n, rfl⟩ := Int.eq_ofNat_of_zero_le (Int.le_of_lt hc0)
  have hn : 0 < n := by omega
  have hnr := natCast_ne hn
  have e3 : ((n : Int) : Rat) = (n : Rat) := Rat.intCast_natCast n
  rw [e3] at ec
  refine ⟨n, hn, by simpa using hc, ec, a * b, ?_, ?_⟩
  · rw [ea, eb, ec, Rat.intCast_mul, Rat.natCast_mul]
    grind
  · rw [Int.natAbs_mul]
    exact Nat.mul_le_mul ha hb
theorem Fine.elim {k : Nat} {m : Tb} (f : Fine k m) {h : Nat} (hs : 0 ≤ m.s h) : Fine (k + 1) (elim h m) := by
  rcases Rat.le_iff_lt_or_eq.mp hs with h0 | h0
  · obtain ⟨D, hD, hd, h1, h2⟩ := f
    have hb := bits_pos k
    have hpow : 2 ^ (bits (k + 1) - 1) = 2 ^ (bits k - 1) * 2 ^ (bits k - 1) + 2 ^ (bits k - 1) * 2 ^ (bits k - 1) := by
      rw [bits_succ, ← Nat.pow_add]
      have e : bits k + bits k - 1 = bits k - 1 + (bits k - 1) + 1 := by omega
      rw [e, Nat.pow_succ]
      omega
    obtain ⟨n, hn, hnL, es, _⟩ := Bd.over (h1 h) (h1 h) (h1 h) hD h0
    have hnr := natCast_ne hn
    have hDr := natCast_ne hD
    refine ⟨D * n, Nat.mul_pos hD hn, ?_, fun i => ?_, fun i j => ?_⟩
    · rw [bits_succ, Nat.pow_add]
      exact Nat.mul_le_mul hd (Nat.le_trans hnL (Nat.pow_le_pow_right (by decide) (by omega)))
    · obtain ⟨n', hn', _, es', hb'⟩ := Bd.over (h2 h i) (h2 h i) (h1 h) hD h0
      have en : n' = n := by
        have : (n' : Rat) = (n : Rat) := by
          have e1 : (n' : Rat) = m.s h * D := by rw [es']; grind
          have e2 : (n : Rat) = m.s h * D := by rw [es]; grind
          rw [e1, e2]
        exact Rat.natCast_inj.mp this
      rw [en] at hb'
      rw [hpow]
      refine Bd.sub (Bd.mono ((h1 i).scale hD hn) ?_) hb'
      exact Nat.mul_le_mul (Nat.le_refl _) hnL
    · obtain ⟨n', hn', _, es', hb'⟩ := Bd.over (h2 h i) (h2 h j) (h1 h) hD h0
      have en : n' = n := by
        have : (n' : Rat) = (n : Rat) := by
          have e1 : (n' : Rat) = m.s h * D := by rw [es']; grind
          have e2 : (n : Rat) = m.s h * D := by rw [es]; grind
          rw [e1, e2]
        exact Rat.natCast_inj.mp this
      rw [en] at hb'
      rw [hpow]
      refine Bd.add (Bd.mono ((h2 i j).scale hD hn) ?_) hb'
      exact Nat.mul_le_mul (Nat.le_refl _) hnL
  · have e : R25.elim h m = m := by
      have e1 : (fun j => m.s j - m.t h j * m.t h j / m.s h) = m.s := by
        funext j
        rw [← h0, div_zero, sub_zero']
      have e2 : (fun i j => m.t i j + m.t h i * m.t h j / m.s h) = m.t := by
        funext i j
        rw [← h0, div_zero, Rat.add_zero]
      show (⟨_, _⟩ : Tb) = m
      rw [e1, e2]
    rw [e]
    exact f.mono
theorem bits_le {k : Nat} (hk : k ≤ 7) : bits k ≤ 3584 := by
  have : bits k ≤ bits 7 := Nat.mul_le_mul (Nat.le_refl _) (Nat.pow_le_pow_right (by decide) hk)
  exact Nat.le_trans this (by decide)
theorem pow4000 {n : Nat} (h : n ≤ 3999) : 2 ^ n < 2 ^ lim := Nat.pow_lt_pow_right (by decide) (show n < 4000 by omega)
theorem Fine.okS {k : Nat} {m : Tb} (f : Fine k m) (hk : k ≤ 7) (i : Nat) : Ok (m.s i) := by
  obtain ⟨D, hD, hd, h1, h2⟩ := f
  have := bits_le hk
  exact (h1 i).ok hD (Nat.lt_of_le_of_lt hd (pow4000 (by omega))) (pow4000 (by omega))
theorem Fine.okT {k : Nat} {m : Tb} (f : Fine k m) (hk : k ≤ 7) (i j : Nat) : Ok (m.t i j) := by
  obtain ⟨D, hD, hd, h1, h2⟩ := f
  have := bits_le hk
  exact (h2 i j).ok hD (Nat.lt_of_le_of_lt hd (pow4000 (by omega))) (pow4000 (by omega))
theorem bits_le6 {k : Nat} (hk : k ≤ 6) : bits k + bits k ≤ 3584 := by
  rw [← bits_succ]
  exact bits_le (by omega)
/-- a product of two ties -/
theorem Fine.okTT {k : Nat} {m : Tb} (f : Fine k m) (hk : k ≤ 6) (a b c d : Nat) : Ok (m.t a b * m.t c d) := by
  obtain ⟨D, hD, hd, h1, h2⟩ := f
  have := bits_le6 hk
  have hb := bits_pos k
  refine ((h2 a b).mul (h2 c d) hD hD).ok (Nat.mul_pos hD hD) ?_ ?_
  · refine Nat.lt_of_le_of_lt (Nat.mul_le_mul hd hd) ?_
    rw [← Nat.pow_add]
    exact pow4000 (by omega)
  · rw [← Nat.pow_add]
    exact pow4000 (by omega)
/-- .. over a slant -/
theorem Fine.okTTS {k : Nat} {m : Tb} (f : Fine k m) (hk : k ≤ 6) (a b c d h : Nat) (h0 : 0 < m.s h) : Ok (m.t a b * m.t c d / m.s h) := by
  obtain ⟨D, hD, hd, h1, h2⟩ := f
  have := bits_le6 hk
  have hb := bits_pos k
  obtain ⟨n, hn, hnL, _, hh⟩ := Bd.over (h2 a b) (h2 c d) (h1 h) hD h0
  refine hh.ok (Nat.mul_pos hD hn) ?_ ?_
  · refine Nat.lt_of_le_of_lt (Nat.mul_le_mul hd hnL) ?_
    rw [← Nat.pow_add]
    exact pow4000 (by omega)
  · rw [← Nat.pow_add]
    exact pow4000 (by omega)
/-- a tie over a slant -/
theorem Fine.okTS {k : Nat} {m : Tb} (f : Fine k m) (hk : k ≤ 6) (a b h : Nat) (h0 : 0 < m.s h) : Ok (m.t a b / m.s h) := by
  obtain ⟨D, hD, hd, h1, h2⟩ := f
  have := bits_le6 hk
  have hb := bits_pos k
  have one : Bd D D 1 := ⟨D, by
    have := natCast_ne hD
    have e3 : ((D : Int) : Rat) = (D : Rat) := Rat.intCast_natCast D
    rw [e3]
    grind, by simp⟩
  obtain ⟨n, hn, hnL, _, hh⟩ := Bd.over (h2 a b) one (h1 h) hD h0
  rw [Rat.mul_one] at hh
  refine hh.ok (Nat.mul_pos hD hn) ?_ ?_
  · refine Nat.lt_of_le_of_lt (Nat.mul_le_mul hd hnL) ?_
    rw [← Nat.pow_add]
    exact pow4000 (by omega)
  · refine Nat.lt_of_le_of_lt (Nat.mul_le_mul (Nat.le_refl _) hd) ?_
    rw [← Nat.pow_add]
    exact pow4000 (by omega)
end R25

set_option linter.all false
set_option maxRecDepth 100000
/-! Plain mathematics: sums over stalls, the table of a web, how a table goes on; small lists. -/
namespace R25
structure Stl where
  i : Nat
  j : Nat
  a : Rat
  b : Rat
  r : Rat
def D0 : Nat := 5040
structure OkS (n : Nat) (t : Stl) : Prop where
  i : t.i < n
  j : t.j < n
  ne : t.i ≠ t.j
  a : Bd D0 181440 t.a
  b : Bd D0 181440 t.b
  r : Bd D0 30240 t.r
  a0 : 0 < t.a
  b0 : 0 < t.b
  r0 : 0 < t.r
  eq : t.a * t.b = t.r * t.r
theorem small_lim {n : Nat} (h : n < 2 ^ 64) : n < 2 ^ lim := Nat.lt_of_lt_of_le h (Nat.pow_le_pow_right (by decide) (by show 64 ≤ 4000; decide))
theorem Bd.ok0 {N : Nat} {q : Rat} (h : Bd D0 N q) (hn : N < 2 ^ 64) : Ok q := h.ok (by decide) (small_lim (by decide)) (small_lim hn)
/-! ### sums -/
def sumL (f : Stl → Rat) : List Stl → Rat
  | [] => 0
  | t :: r => f t + sumL f r
theorem sumL_snoc (f : Stl → Rat) : ∀ (l : List Stl) (t : Stl), sumL f (l ++ [t]) = sumL f l + f t
  | [], t => by show f t + 0 = 0 + f t; rw [Rat.add_zero, Rat.zero_add]
  | u :: r, t => by
    show f u + sumL f (r ++ [t]) = f u + sumL f r + f t
    rw [sumL_snoc f r t, Rat.add_assoc]
theorem sumL_bd {D N : Nat} {f : Stl → Rat} : ∀ {l : List Stl}, (∀ t ∈ l, Bd D N (f t)) → Bd D (l.length * N) (sumL f l)
  | [], _ => Bd.zero
  | u :: r, h => by
    have h1 := Bd.add (h u (List.mem_cons_self)) (sumL_bd (l := r) fun t ht => h t (List.mem_cons_of_mem _ ht))
    refine h1.mono ?_
    rw [List.length_cons, Nat.succ_mul]
    omega
theorem sumL_nn {f : Stl → Rat} : ∀ {l : List Stl}, (∀ t ∈ l, 0 ≤ f t) → 0 ≤ sumL f l
  | [], _ => Rat.le_refl
  | u :: r, h => Rat.add_nonneg (h u (List.mem_cons_self)) (sumL_nn (l := r) fun t ht => h t (List.mem_cons_of_mem _ ht))
theorem sumL_congr {f g : Stl → Rat} : ∀ {l : List Stl}, (∀ t ∈ l, f t = g t) → sumL f l = sumL g l
  | [], _ => rfl
  | u :: r, h => by
    show f u + sumL f r = g u + sumL g r
    rw [h u (List.mem_cons_self), sumL_congr (l := r) fun t ht => h t (List.mem_cons_of_mem _ ht)]
/-- what a stall brings to the ware w -/
def bring (w : Nat) (t : Stl) : Rat := (if t.i = w then t.a else 0) + (if t.j = w then t.b else 0)
def tieOf (u v : Nat) (t : Stl) : Rat := (if t.i = u ∧ t.j = v then t.r else 0) + (if t.j = u ∧ t.i = v then t.r else 0)
def heldS (l : List Stl) (w : Nat) : Rat := sumL (bring w) l
def tieS (l : List Stl) (u v : Nat) : Rat := sumL (tieOf u v) l
def tbl (l : List Stl) (ps ws : Nat → Rat) : Tb := ⟨fun i => heldS l i + ps i - ws i, tieS l⟩
theorem Bd.ite {D N : Nat} {c : Prop} [Decidable c] {q : Rat} (h : Bd D N q) : Bd D N (if c then q else 0) := by
  split
  · exact h
  · exact Bd.zero
theorem ite_nn {c : Prop} [Decidable c] {q : Rat} (h : 0 ≤ q) : 0 ≤ (if c then q else 0) := by
  split
  · exact h
  · exact Rat.le_refl
theorem held_bd {n : Nat} {l : List Stl} (h : ∀ t ∈ l, OkS n t) (w : Nat) : Bd D0 (l.length * 362880) (heldS l w) :=
  sumL_bd fun t ht => ((h t ht).a.ite).add ((h t ht).b.ite)
theorem tie_bd {n : Nat} {l : List Stl} (h : ∀ t ∈ l, OkS n t) (u v : Nat) : Bd D0 (l.length * 60480) (tieS l u v) :=
  sumL_bd fun t ht => ((h t ht).r.ite).add ((h t ht).r.ite)
theorem tie_good {n : Nat} {l : List Stl} (h : ∀ t ∈ l, OkS n t) (ps ws : Nat → Rat) : Good (tbl l ps ws) :=
  ⟨fun i j => sumL_nn fun t ht => Rat.add_nonneg (ite_nn (Rat.le_of_lt (h t ht).r0)) (ite_nn (Rat.le_of_lt (h t ht).r0)), fun i j => by
    refine sumL_congr fun t _ => ?_
    show (_ : Rat) + _ = _ + _
    rw [Rat.add_comm]
    congr 1
    · simp only [and_comm]
    · simp only [and_comm]⟩
theorem bring_step (f : Nat → Rat) (t : Stl) (ne : t.i ≠ t.j) : (fun k => if k = t.j then f t.j + t.b else if k = t.i then f t.i + t.a else f k) = fun k => f k + bring k t := by
  funext k
  unfold bring
  by_cases h1 : k = t.j
  · subst h1
    rw [if_pos rfl, if_neg ne, if_pos rfl, Rat.zero_add]
  · rw [if_neg h1]
    by_cases h2 : k = t.i
    · subst h2
      rw [if_pos rfl, if_pos rfl, if_neg (fun e => h1 e.symm), Rat.add_zero]
    · rw [if_neg h2, if_neg (fun e => h2 e.symm), if_neg (fun e => h1 e.symm), Rat.add_zero, Rat.add_zero]
theorem held_snoc (l : List Stl) (t : Stl) : heldS (l ++ [t]) = fun k => heldS l k + bring k t := funext fun k => sumL_snoc _ l t
theorem tie_snoc (l : List Stl) (t : Stl) (u v : Nat) : tieS (l ++ [t]) u v = tieS l u v + tieOf u v t := sumL_snoc _ l t
theorem tie_nn {n : Nat} {l : List Stl} (h : ∀ t ∈ l, OkS n t) (u v : Nat) : 0 ≤ tieS l u v := sumL_nn fun t ht => Rat.add_nonneg (ite_nn (Rat.le_of_lt (h t ht).r0)) (ite_nn (Rat.le_of_lt (h t ht).r0))
theorem ok_held {n : Nat} {l : List Stl} (h : ∀ t ∈ l, OkS n t) (hl : l.length ≤ 16) (w : Nat) : Ok (heldS l w) :=
  (held_bd h w).ok0 (Nat.lt_of_le_of_lt (Nat.mul_le_mul_right _ hl) (by decide))
theorem ok_tie {n : Nat} {l : List Stl} (h : ∀ t ∈ l, OkS n t) (hl : l.length ≤ 16) (u v : Nat) : Ok (tieS l u v) :=
  (tie_bd h u v).ok0 (Nat.lt_of_le_of_lt (Nat.mul_le_mul_right _ hl) (by decide))
theorem ok_tie2 {n : Nat} {l : List Stl} (h : ∀ t ∈ l, OkS n t) (hl : l.length ≤ 16) (u v : Nat) {c : Prop} [Decidable c] {r : Rat} (hr : Bd D0 30240 r) : Ok (tieS l u v + (if c then r else 0)) :=
  ((tie_bd h u v).add hr.ite).ok0 (Nat.lt_of_le_of_lt (Nat.add_le_add_right (Nat.mul_le_mul_right _ hl) _) (by decide))
theorem raise_eq (T : Nat → Nat → Rat) (x : Rat) {u v : Nat} (h : u ≠ v) : (fun i j => (T i j + if i = u ∧ j = v then x else 0) + if i = v ∧ j = u then x else 0) = fun i j => T i j + if (i = u ∧ j = v) ∨ (i = v ∧ j = u) then x else 0 := by
  funext i j
  by_cases h1 : i = u ∧ j = v
  · have h2 : ¬ (i = v ∧ j = u) := fun e => h (h1.1.symm.trans e.1)
    rw [if_pos h1, if_neg h2, if_pos (.inl h1), Rat.add_zero]
  · rw [if_neg h1, Rat.add_zero]
    by_cases h2 : i = v ∧ j = u
    · rw [if_pos h2, if_pos (.inr h2)]
    · rw [if_neg h2, if_neg (fun e => e.elim h1 h2)]
/-- the amounts of a purse or a wish -/
def Amt (f : Nat → Rat) : Prop := ∀ k, Bd D0 33554432 (f k) ∧ 0 ≤ f k
theorem tbl_fine {n : Nat} {l : List Stl} {ps ws : Nat → Rat} (h : ∀ t ∈ l, OkS n t) (hl : l.length ≤ 16) (hp : Amt ps) (hw : Amt ws) : Fine 0 (tbl l ps ws) := by
  unfold Fine
  rw [show bits 0 = 28 from rfl]
  refine ⟨D0, by decide, by unfold D0; omega, fun i => ?_, fun i j => ?_⟩
  · show Bd D0 _ (heldS l i + ps i - ws i)
    have e := ((held_bd h i).add (hp i).1).sub (hw i).1
    refine e.mono ?_
    have : l.length * 362880 ≤ 16 * 362880 := Nat.mul_le_mul_right _ hl
    have e2 : 2 ^ (28 - 1) = 134217728 := by decide
    rw [e2]
    exact Nat.le_trans (Nat.add_le_add_right (Nat.add_le_add_right this _) _) (by decide)
  · show Bd D0 _ (tieS l i j)
    refine (tie_bd h i j).mono ?_
    have : l.length * 60480 ≤ 16 * 60480 := Nat.mul_le_mul_right _ hl
    have e2 : 2 ^ (28 - 1) = 134217728 := by decide
    rw [e2]
    exact Nat.le_trans this (by decide)
/-! ### the states of a table that is struck from 0 on -/
def st (m : Tb) : Nat → Tb
  | 0 => m
  | k + 1 => elim k (st m k)
theorem run_range (n : Nat) (m : Tb) : ∀ k, k ≤ n → (∀ i, i < k → bad i (List.range' (i + 1) (n - (i + 1))) (st m i) = false) → run (List.range' 0 n) m = run (List.range' k (n - k)) (st m k)
  | 0, _, _ => rfl
  | k + 1, hk, h => by
    rw [run_range n m k (by omega) fun i hi => h i (by omega)]
    have e : n - k = (n - (k + 1)) + 1 := by omega
    rw [e, List.range'_succ, run_cons, h k (by omega), if_neg (by decide)]
    rfl
theorem run_stop {n : Nat} {m : Tb} {k : Nat} (hk : k < n) (h : ∀ i, i < k → bad i (List.range' (i + 1) (n - (i + 1))) (st m i) = false) (hb : bad k (List.range' (k + 1) (n - (k + 1))) (st m k) = true) : run (List.range' 0 n) m = false := by
  rw [run_range n m k (by omega) h]
  have e : n - k = (n - (k + 1)) + 1 := by omega
  rw [e, List.range'_succ, run_cons, hb, if_pos rfl]
theorem run_end {n : Nat} {m : Tb} (h : ∀ i, i < n → bad i (List.range' (i + 1) (n - (i + 1))) (st m i) = false) : run (List.range' 0 n) m = true := by
  rw [run_range n m n (Nat.le_refl _) h, Nat.sub_self]
  rfl
theorem st_good {m : Tb} (g : Good m) : ∀ k, (∀ i, i < k → 0 ≤ (st m i).s i) → Good (st m k)
  | 0, _ => g
  | k + 1, h => (st_good g k fun i hi => h i (by omega)).elim (h k (by omega))
theorem st_fine {m : Tb} (f : Fine 0 m) : ∀ k, (∀ i, i < k → 0 ≤ (st m i).s i) → Fine k (st m k)
  | 0, _ => f
  | k + 1, h => (st_fine f k fun i hi => h i (by omega)).elim (h k (by omega))
/-! ### lists without doubles -/
theorem nodup_len : ∀ (n : Nat) (l : List Nat), l.Nodup → (∀ x ∈ l, x < n) → l.length ≤ n
  | 0, [], _, _ => Nat.le_refl _
  | 0, x :: _, _, h => absurd (h x (List.mem_cons_self)) (by omega)
  | n + 1, l, nd, h => by
    by_cases hn : n ∈ l
    · have h1 := nodup_len n (l.erase n) (nd.erase n) fun x hx => by
        have ⟨a, b⟩ := nd.mem_erase_iff.mp hx
        have := h x b
        omega
      rw [List.length_erase_of_mem hn] at h1
      omega
    · have := nodup_len n l nd fun x hx => by
        have := h x hx
        have : x ≠ n := fun e => hn (e ▸ hx)
        omega
      omega
theorem take_drop_at {α : Type} {l : List α} {q : Nat} {x : α} (h : l[q]? = some x) : l = l.take q ++ x :: l.drop (q + 1) := by
  have hq := (List.getElem?_eq_some_iff.mp h)
  obtain ⟨hlt, rfl⟩ := hq
  rw [List.getElem_cons_drop hlt, List.take_append_drop]
theorem take_snoc {α : Type} {l : List α} {q : Nat} {x : α} (h : l[q]? = some x) : l.take (q + 1) = l.take q ++ [x] := by
  obtain ⟨hlt, rfl⟩ := List.getElem?_eq_some_iff.mp h
  rw [List.take_succ_eq_append_getElem hlt]
end R25

set_option linter.all false
set_option maxRecDepth 100000
/-! Plain mathematics: going back, how large the scales are. -/
namespace R25
def Bg (h : Nat) : Nat := 1 + 28 * (2 ^ 7 - 2 ^ h) + 2 * (7 - h)
theorem Bg_step {h : Nat} (hh : h ≤ 6) : Bg h = Bg (h + 1) + bits h + 2 := by
  unfold Bg bits
  rcases h with _ | _ | _ | _ | _ | _ | _ | h
  all_goals first | rfl | omega
theorem Bg_mono {h : Nat} (hh : h ≤ 7) : Bg (h + 1) ≤ Bg h := by
  unfold Bg
  rcases h with _ | _ | _ | _ | _ | _ | _ | _ | h
  all_goals first | decide | omega
theorem Bg_le {h : Nat} (hh : h ≤ 8) : Bg h ≤ 3571 := by
  unfold Bg
  rcases h with _ | _ | _ | _ | _ | _ | _ | _ | _ | h
  all_goals first | decide | omega
theorem Bd.one {E : Nat} (hE : 0 < E) : Bd E E 1 := ⟨(E : Int), by
  have := natCast_ne hE
  show (1 : Rat) = ((E : Int) : Rat) / (E : Rat)
  rw [Rat.intCast_natCast]
  grind, Nat.le_refl _⟩
theorem Bd.overS {D E N n : Nat} {p s : Rat} (hp : Bd (D * E) N p) (hD : 0 < D) (hE : 0 < E) (hn : 0 < n) (hs : s = (n : Rat) / (D : Rat)) : Bd (E * n) N (p / s) := by
  obtain ⟨a, ea, ha⟩ := hp
  refine ⟨a, ?_, ha⟩
  have h1 := natCast_ne hD
  have h2 := natCast_ne hE
  have h3 := natCast_ne hn
  rw [ea, hs, Rat.natCast_mul, Rat.natCast_mul]
  generalize (D : Rat) = d at *
  generalize (E : Rat) = e at *
  generalize (n : Rat) = m at *
  generalize (a : Rat) = x at *
  grind
/-- the number below the bar of a positive one -/
theorem Bd.pos {D L : Nat} {s : Rat} (h : Bd D L s) (hD : 0 < D) (h0 : 0 < s) : ∃ n : Nat, 0 < n ∧ n ≤ L ∧ s = (n : Rat) / (D : Rat) := by
  obtain ⟨n, a, b, c, _⟩ := Bd.over (p := 0) (q := 0) (N := 0) (M := 0) Bd.zero Bd.zero h hD h0
  exact ⟨n, a, b, c⟩
def FoundB (h n : Nat) (f : Nat → Rat) : Prop := ∃ E, 0 < E ∧ E ≤ 2 ^ Bg h ∧ ∀ j, h ≤ j → j < n → Bd E (2 ^ Bg h) (f j)
theorem FoundB.ok {h n : Nat} {f : Nat → Rat} (b : FoundB h n f) (hh : h ≤ 8) {j : Nat} (h1 : h ≤ j) (h2 : j < n) : Ok (f j) := by
  obtain ⟨E, hE, hle, hb⟩ := b
  have := Bg_le hh
  exact (hb j h1 h2).ok hE (Nat.lt_of_le_of_lt hle (pow4000 (by omega))) (pow4000 (by omega))
theorem FoundB.one {h n : Nat} {f : Nat → Rat} (b : FoundB (h + 1) n f) (hh : h ≤ 7) : FoundB h n (fun j => if j = h then 1 else f j) := by
  obtain ⟨E, hE, hle, hb⟩ := b
  have hm : 2 ^ Bg (h + 1) ≤ 2 ^ Bg h := Nat.pow_le_pow_right (by decide) (Bg_mono hh)
  refine ⟨E, hE, Nat.le_trans hle hm, fun j h1 h2 => ?_⟩
  show Bd E _ (if j = h then 1 else f j)
  by_cases e : j = h
  · rw [if_pos e]
    exact (Bd.one hE).mono (Nat.le_trans hle hm)
  · rw [if_neg e]
    exact (hb j (by omega) h2).mono hm
theorem FoundB.step {h n : Nat} {M : Tb} {f : Nat → Rat} (b : FoundB (h + 1) n f) (fn : Fine h M) (h6 : h ≤ 6) (s0 : 0 < M.s h) : ∃ DE N : Nat, 0 < DE ∧ (∀ j, h + 1 ≤ j → j < n → Bd DE N (M.t h j * f j)) ∧ (∀ x q, q ≤ 8 → Bd DE (q * N) x → Ok x) ∧
    ∀ x q, q ≤ 8 → Bd DE (q * N) x → FoundB h n (fun j => if j = h then x / M.s h else f j) := by
  obtain ⟨E, hE, hle, hb⟩ := b
  obtain ⟨D, hD, hd, hs, ht⟩ := fn
  have hBl := Bg_le (h := h) (by omega)
  have hst := Bg_step h6
  have hbp := bits_pos h
  have eN : 2 ^ (bits h - 1) * 2 ^ Bg (h + 1) = 2 ^ (bits h - 1 + Bg (h + 1)) := (Nat.pow_add 2 _ _).symm
  have hDE : D * E ≤ 2 ^ (bits h + Bg (h + 1)) := by
    rw [Nat.pow_add]
    exact Nat.mul_le_mul hd hle
  have h7 : ∀ q, q ≤ 8 → q * (2 ^ (bits h - 1) * 2 ^ Bg (h + 1)) ≤ 2 ^ (bits h + 2 + Bg (h + 1)) := fun q hq => by
    have e8 : bits h + 2 + Bg (h + 1) = 3 + (bits h - 1 + Bg (h + 1)) := by omega
    rw [eN, e8, Nat.pow_add 2 3]
    exact Nat.mul_le_mul_right _ (by omega)
  obtain ⟨m, hm0, hmL, es⟩ := (hs h).pos hD s0
  refine ⟨D * E, 2 ^ (bits h - 1) * 2 ^ Bg (h + 1), Nat.mul_pos hD hE, fun j h1 h2 => (ht h j).mul (hb j h1 h2) hD hE, fun x q hq hx => ?_, fun x q hq hx => ?_⟩
  · exact hx.ok (Nat.mul_pos hD hE) (Nat.lt_of_le_of_lt hDE (pow4000 (by omega))) (Nat.lt_of_le_of_lt (h7 q hq) (pow4000 (by omega)))
  · have hEm : E * m ≤ 2 ^ Bg h := by
      have : E * m ≤ 2 ^ Bg (h + 1) * 2 ^ (bits h - 1) := Nat.mul_le_mul hle hmL
      rw [← Nat.pow_add] at this
      exact Nat.le_trans this (Nat.pow_le_pow_right (by decide) (by omega))
    refine ⟨E * m, Nat.mul_pos hE hm0, hEm, fun j h1 h2 => ?_⟩
    show Bd (E * m) _ (if j = h then x / M.s h else f j)
    by_cases e : j = h
    · rw [if_pos e]
      refine (hx.overS hD hE hm0 es).mono (Nat.le_trans (h7 q hq) (Nat.pow_le_pow_right (by decide) (by omega)))
    · rw [if_neg e]
      refine ((hb j (by omega) h2).scale hE hm0).mono ?_
      have : 2 ^ Bg (h + 1) * m ≤ 2 ^ Bg (h + 1) * 2 ^ (bits h - 1) := Nat.mul_le_mul_left _ hmL
      rw [← Nat.pow_add] at this
      exact Nat.le_trans this (Nat.pow_le_pow_right (by decide) (by omega))
end R25

set_option linter.all false
set_option maxRecDepth 100000
/-! Plain mathematics: the wares of a tuple alone. -/
namespace R25
def inn (r : List Nat) (l : List Stl) : List Stl := l.filter fun t => decide (t.i ∈ r ∧ t.j ∈ r)
def ext (r : List Nat) (k : Nat) (t : Stl) : Rat := if t.i ∈ r ∧ t.j ∈ r then 0 else (if t.i ∈ r ∧ k = t.i then t.a else 0) + (if t.j ∈ r ∧ k = t.j then t.b else 0)
def moreB (r : List Nat) (l : List Stl) (ps : Nat → Rat) : Nat → Rat := fun k => ps k + sumL (ext r k) l
def laterB (r : List Nat) (ws : Nat → Rat) : Nat → Rat := fun k => if k ∈ r then ws k else 0
theorem inn_mem {r : List Nat} {l : List Stl} {t : Stl} : t ∈ inn r l ↔ t ∈ l ∧ t.i ∈ r ∧ t.j ∈ r := by
  unfold inn
  rw [List.mem_filter, decide_eq_true_eq]
theorem sumL_zero {f : Stl → Rat} : ∀ {l : List Stl}, (∀ t ∈ l, f t = 0) → sumL f l = 0
  | [], _ => rfl
  | u :: r, h => by
    show f u + sumL f r = 0
    rw [h u (List.mem_cons_self), sumL_zero (l := r) fun t ht => h t (List.mem_cons_of_mem _ ht), Rat.add_zero]
theorem held_inn {r : List Nat} {k : Nat} (hk : k ∈ r) : ∀ l : List Stl, heldS (inn r l) k + sumL (ext r k) l = heldS l k
  | [] => Rat.add_zero _
  | t :: l => by
    have ih := held_inn hk l
    by_cases h : t.i ∈ r ∧ t.j ∈ r
    · have e1 : inn r (t :: l) = t :: inn r l := by unfold inn; rw [List.filter_cons_of_pos (by simp [h])]
      have e2 : ext r k t = 0 := by unfold ext; rw [if_pos h]
      rw [e1]
      show bring k t + heldS (inn r l) k + (ext r k t + sumL (ext r k) l) = bring k t + heldS l k
      rw [e2, ← ih]
      grind
    · have e1 : inn r (t :: l) = inn r l := by unfold inn; rw [List.filter_cons_of_neg (by simp [h])]
      have e2 : ext r k t = bring k t := by
        unfold ext bring
        rw [if_neg h]
        congr 1
        · by_cases hi : t.i = k
          · rw [if_pos hi, if_pos ⟨hi ▸ hk, hi.symm⟩]
          · rw [if_neg hi, if_neg (fun e => hi e.2.symm)]
        · by_cases hi : t.j = k
          · rw [if_pos hi, if_pos ⟨hi ▸ hk, hi.symm⟩]
          · rw [if_neg hi, if_neg (fun e => hi e.2.symm)]
      rw [e1]
      show heldS (inn r l) k + (ext r k t + sumL (ext r k) l) = bring k t + heldS l k
      rw [e2, ← ih]
      grind
theorem held_out {r : List Nat} {l : List Stl} {k : Nat} (hk : k ∉ r) : heldS (inn r l) k = 0 := sumL_zero fun t ht => by
  obtain ⟨_, a, b⟩ := inn_mem.mp ht
  unfold bring
  rw [if_neg (fun e : t.i = k => hk (e ▸ a)), if_neg (fun e : t.j = k => hk (e ▸ b)), Rat.add_zero]
theorem ext_out {r : List Nat} {l : List Stl} {k : Nat} (hk : k ∉ r) : sumL (ext r k) l = 0 := sumL_zero fun t _ => by
  unfold ext
  rw [if_neg (fun e : t.i ∈ r ∧ k = t.i => hk (e.2 ▸ e.1)), if_neg (fun e : t.j ∈ r ∧ k = t.j => hk (e.2 ▸ e.1)), Rat.add_zero]
  split <;> rfl
theorem tie_inn {r : List Nat} {u v : Nat} (hu : u ∈ r) (hv : v ∈ r) : ∀ l : List Stl, tieS (inn r l) u v = tieS l u v
  | [] => rfl
  | t :: l => by
    have ih := tie_inn hu hv l
    by_cases h : t.i ∈ r ∧ t.j ∈ r
    · have e1 : inn r (t :: l) = t :: inn r l := by unfold inn; rw [List.filter_cons_of_pos (by simp [h])]
      rw [e1]
      show tieOf u v t + tieS (inn r l) u v = tieOf u v t + tieS l u v
      rw [ih]
    · have e1 : inn r (t :: l) = inn r l := by unfold inn; rw [List.filter_cons_of_neg (by simp [h])]
      rw [e1, ih]
      show tieS l u v = tieOf u v t + tieS l u v
      have : tieOf u v t = 0 := by
        unfold tieOf
        rw [if_neg (fun e : t.i = u ∧ t.j = v => h ⟨e.1.symm ▸ hu, e.2.symm ▸ hv⟩), if_neg (fun e : t.j = u ∧ t.i = v => h ⟨e.2.symm ▸ hv, e.1.symm ▸ hu⟩), Rat.add_zero]
      rw [this, Rat.zero_add]
theorem tie_out {r : List Nat} {l : List Stl} {u v : Nat} (h : u ∉ r ∨ v ∉ r) : tieS (inn r l) u v = 0 := sumL_zero fun t ht => by
  obtain ⟨_, a, b⟩ := inn_mem.mp ht
  unfold tieOf
  rw [if_neg, if_neg, Rat.add_zero]
  · rintro ⟨rfl, rfl⟩
    exact h.elim (fun h => h b) fun h => h a
  · rintro ⟨rfl, rfl⟩
    exact h.elim (fun h => h a) fun h => h b
theorem barred {n : Nat} {l : List Stl} {ps ws : Nat → Rat} {r : List Nat} (nd : r.Nodup) (hr : (List.range n).filter (fun x => decide (x ∈ r)) = r) (hp : ∀ k, 0 ≤ ps k) (hb : run r (tbl l ps ws) = false) :
    run (List.range n) (tbl (inn r l) (moreB r l ps) (laterB r ws)) = false := by
  have lone : Lone (fun x => decide (x ∈ r)) (tbl (inn r l) (moreB r l ps) (laterB r ws)) := by
    refine ⟨fun i hi => ?_, fun i j hi => tie_out (.inl (of_decide_eq_false hi)), fun i j hj => tie_out (.inr (of_decide_eq_false hj))⟩
    have hi := of_decide_eq_false hi
    show 0 ≤ heldS (inn r l) i + (ps i + sumL (ext r i) l) - (if i ∈ r then ws i else 0)
    rw [held_out hi, ext_out hi, if_neg hi]
    have := hp i
    grind
  rw [run_lone lone, hr]
  rw [← hb]
  refine run_agree nd ⟨fun i hi => ?_, fun i hi j hj _ => tie_inn hi hj l⟩
  show heldS (inn r l) i + (ps i + sumL (ext r i) l) - (if i ∈ r then ws i else 0) = heldS l i + ps i - ws i
  rw [if_pos hi, ← held_inn hi l]
  grind
theorem ext_bd {n : Nat} {r : List Nat} {l : List Stl} (h : ∀ t ∈ l, OkS n t) (k : Nat) : Bd D0 (l.length * 362880) (sumL (ext r k) l) := sumL_bd fun t ht => by
  unfold ext
  split
  · exact Bd.zero
  · exact ((h t ht).a.ite).add ((h t ht).b.ite)
theorem ext_nn {n : Nat} {r : List Nat} {l : List Stl} (h : ∀ t ∈ l, OkS n t) (k : Nat) : 0 ≤ sumL (ext r k) l := sumL_nn fun t ht => by
  unfold ext
  split
  · exact Rat.le_refl
  · exact Rat.add_nonneg (ite_nn (Rat.le_of_lt (h t ht).a0)) (ite_nn (Rat.le_of_lt (h t ht).b0))
end R25

set_option Elab.async false
set_option linter.all false
set_option maxRecDepth 100000
namespace R25
open PySem L2
/-! ### the text by places -/
def top (i : Nat) : Stmt := PySem.Challenge.pw_rootstalls_k25_whole_fewest_wares_and_st.main.body.getD i (.Pass ⟨0, 0, 0, 0⟩)
abbrev s_is_integer : Stmt := top 2
abbrev s_common : Stmt := top 3
abbrev s_Exact_init : Stmt := inClass (top 4) 0
abbrev s_Exact_add : Stmt := inClass (top 4) 1
abbrev s_Exact_sub : Stmt := inClass (top 4) 2
abbrev s_Exact_mul : Stmt := inClass (top 4) 3
abbrev s_Exact_eq : Stmt := inClass (top 4) 4
abbrev s_Exact_over : Stmt := inClass (top 4) 5
abbrev s_Exact_sign : Stmt := inClass (top 4) 6
abbrev s_Exact_square : Stmt := inClass (top 4) 8
abbrev s_Exact_pair : Stmt := inClass (top 4) 9
abbrev s_exact : Stmt := top 5
abbrev s_is_fraction : Stmt := top 13
abbrev s_is_amount : Stmt := top 14
abbrev s_is_some : Stmt := top 15
abbrev s_is_ware_below : Stmt := top 19
abbrev s_is_stall : Stmt := top 20
abbrev s_Web_init : Stmt := inClass (top 21) 0
abbrev s_is_amounts : Stmt := top 22
abbrev s_check_purse : Stmt := top 23
abbrev s_check_wish : Stmt := top 24
abbrev s_empty : Stmt := top 25
abbrev s_held_exact : Stmt := top 26
abbrev s_roots_exact : Stmt := top 27
abbrev s_Table_init : Stmt := inClass (top 29) 0
abbrev s_Table_is_wrong : Stmt := inClass (top 29) 1
abbrev s_Table_raise_root : Stmt := inClass (top 29) 2
abbrev s_Table_strike : Stmt := inClass (top 29) 3
abbrev s_Table_strike_all : Stmt := inClass (top 29) 4
abbrev s_Table_go_back : Stmt := inClass (top 29) 5
abbrev s_table_of : Stmt := top 30
abbrev s_scales_of : Stmt := top 32
abbrev s_scales : Stmt := top 33
abbrev s_all_tuples : Stmt := top 35
abbrev s_is_struck : Stmt := top 36
abbrev s_table_among : Stmt := top 37
abbrev s_least_wares : Stmt := top 38
abbrev s_is_met_by : Stmt := top 39
abbrev s_fewest_stalls : Stmt := top 40
abbrev s_needed : Stmt := top 41
abbrev s_law_deck : Stmt := top 43
abbrev s_law_pick : Stmt := top 44
abbrev s_law_fold : Stmt := top 45
abbrev s_law_divisor : Stmt := top 46
abbrev s_law_made : Stmt := top 47
abbrev s_law_added : Stmt := top 48
abbrev s_law_taken : Stmt := top 49
abbrev s_law_product : Stmt := top 50
abbrev s_law_amount : Stmt := top 51
abbrev s_law_stall : Stmt := top 52
abbrev s_law_edge : Stmt := top 53
abbrev s_law_table : Stmt := top 54
abbrev s_law_can_be_struck : Stmt := top 55
abbrev s_law_some : Stmt := top 56
abbrev s_law_is_met : Stmt := top 57
abbrev s_law_wares_due : Stmt := top 58
abbrev s_law_stalls_due : Stmt := top 59
abbrev s_law_needed_due : Stmt := top 60
abbrev s_law_is_told : Stmt := top 61
abbrev s_law_is_barred : Stmt := top 62
abbrev s_law_is_well : Stmt := top 63
abbrev s_law_word : Stmt := top 64
abbrev s_law : Stmt := top 65
/-! ### what the head tells -/
def d_is_integer : He.DefD := ⟨("is_integer", none), "is_integer", "is_integer", defArgs s_is_integer, defBody s_is_integer, defScope s_is_integer, [], []⟩
def d_common : He.DefD := ⟨("common", none), "common", "common", defArgs s_common, defBody s_common, defScope s_common, [], []⟩
def d_Exact_init : He.DefD := ⟨("Exact", some "__init__"), "__init__", "Exact.__init__", defArgs s_Exact_init, defBody s_Exact_init, defScope s_Exact_init, [], []⟩
def d_Exact_add : He.DefD := ⟨("Exact", some "__add__"), "__add__", "Exact.__add__", defArgs s_Exact_add, defBody s_Exact_add, defScope s_Exact_add, [], []⟩
def d_Exact_sub : He.DefD := ⟨("Exact", some "__sub__"), "__sub__", "Exact.__sub__", defArgs s_Exact_sub, defBody s_Exact_sub, defScope s_Exact_sub, [], []⟩
def d_Exact_mul : He.DefD := ⟨("Exact", some "__mul__"), "__mul__", "Exact.__mul__", defArgs s_Exact_mul, defBody s_Exact_mul, defScope s_Exact_mul, [], []⟩
def d_Exact_eq : He.DefD := ⟨("Exact", some "__eq__"), "__eq__", "Exact.__eq__", defArgs s_Exact_eq, defBody s_Exact_eq, defScope s_Exact_eq, [], []⟩
def d_Exact_over : He.DefD := ⟨("Exact", some "over"), "over", "Exact.over", defArgs s_Exact_over, defBody s_Exact_over, defScope s_Exact_over, [], []⟩
def d_Exact_sign : He.DefD := ⟨("Exact", some "sign"), "sign", "Exact.sign", defArgs s_Exact_sign, defBody s_Exact_sign, defScope s_Exact_sign, [], []⟩
def d_Exact_square : He.DefD := ⟨("Exact", some "square"), "square", "Exact.square", defArgs s_Exact_square, defBody s_Exact_square, defScope s_Exact_square, [], []⟩
def d_Exact_pair : He.DefD := ⟨("Exact", some "pair"), "pair", "Exact.pair", defArgs s_Exact_pair, defBody s_Exact_pair, defScope s_Exact_pair, [], []⟩
def d_exact : He.DefD := ⟨("exact", none), "exact", "exact", defArgs s_exact, defBody s_exact, defScope s_exact, [], []⟩
def d_is_fraction : He.DefD := ⟨("is_fraction", none), "is_fraction", "is_fraction", defArgs s_is_fraction, defBody s_is_fraction, defScope s_is_fraction, [], []⟩
def d_is_amount : He.DefD := ⟨("is_amount", none), "is_amount", "is_amount", defArgs s_is_amount, defBody s_is_amount, defScope s_is_amount, [], []⟩
def d_is_some : He.DefD := ⟨("is_some", none), "is_some", "is_some", defArgs s_is_some, defBody s_is_some, defScope s_is_some, [], []⟩
def d_is_ware_below : He.DefD := ⟨("is_ware_below", none), "is_ware_below", "is_ware_below", defArgs s_is_ware_below, defBody s_is_ware_below, defScope s_is_ware_below, [], []⟩
def d_is_stall : He.DefD := ⟨("is_stall", none), "is_stall", "is_stall", defArgs s_is_stall, defBody s_is_stall, defScope s_is_stall, [], []⟩
def d_Web_init : He.DefD := ⟨("Web", some "__init__"), "__init__", "Web.__init__", defArgs s_Web_init, defBody s_Web_init, defScope s_Web_init, [], []⟩
def d_is_amounts : He.DefD := ⟨("is_amounts", none), "is_amounts", "is_amounts", defArgs s_is_amounts, defBody s_is_amounts, defScope s_is_amounts, [], []⟩
def d_check_purse : He.DefD := ⟨("check_purse", none), "check_purse", "check_purse", defArgs s_check_purse, defBody s_check_purse, defScope s_check_purse, [], []⟩
def d_check_wish : He.DefD := ⟨("check_wish", none), "check_wish", "check_wish", defArgs s_check_wish, defBody s_check_wish, defScope s_check_wish, [], []⟩
def d_empty : He.DefD := ⟨("empty", none), "empty", "empty", defArgs s_empty, defBody s_empty, defScope s_empty, [], []⟩
def d_held_exact : He.DefD := ⟨("held_exact", none), "held_exact", "held_exact", defArgs s_held_exact, defBody s_held_exact, defScope s_held_exact, [], []⟩
def d_roots_exact : He.DefD := ⟨("roots_exact", none), "roots_exact", "roots_exact", defArgs s_roots_exact, defBody s_roots_exact, defScope s_roots_exact, [], []⟩
def d_Table_init : He.DefD := ⟨("Table", some "__init__"), "__init__", "Table.__init__", defArgs s_Table_init, defBody s_Table_init, defScope s_Table_init, [], []⟩
def d_Table_is_wrong : He.DefD := ⟨("Table", some "is_wrong"), "is_wrong", "Table.is_wrong", defArgs s_Table_is_wrong, defBody s_Table_is_wrong, defScope s_Table_is_wrong, [], []⟩
def d_Table_raise_root : He.DefD := ⟨("Table", some "raise_root"), "raise_root", "Table.raise_root", defArgs s_Table_raise_root, defBody s_Table_raise_root, defScope s_Table_raise_root, [], []⟩
def d_Table_strike : He.DefD := ⟨("Table", some "strike"), "strike", "Table.strike", defArgs s_Table_strike, defBody s_Table_strike, defScope s_Table_strike, [], []⟩
def d_Table_strike_all : He.DefD := ⟨("Table", some "strike_all"), "strike_all", "Table.strike_all", defArgs s_Table_strike_all, defBody s_Table_strike_all, defScope s_Table_strike_all, [], []⟩
def d_Table_go_back : He.DefD := ⟨("Table", some "go_back"), "go_back", "Table.go_back", defArgs s_Table_go_back, defBody s_Table_go_back, defScope s_Table_go_back, [], []⟩
def d_table_of : He.DefD := ⟨("table_of", none), "table_of", "table_of", defArgs s_table_of, defBody s_table_of, defScope s_table_of, [], []⟩
def d_scales_of : He.DefD := ⟨("scales_of", none), "scales_of", "scales_of", defArgs s_scales_of, defBody s_scales_of, defScope s_scales_of, [], []⟩
def d_scales : He.DefD := ⟨("scales", none), "scales", "scales", defArgs s_scales, defBody s_scales, defScope s_scales, [], []⟩
def d_all_tuples : He.DefD := ⟨("all_tuples", none), "all_tuples", "all_tuples", defArgs s_all_tuples, defBody s_all_tuples, defScope s_all_tuples, [], []⟩
def d_is_struck : He.DefD := ⟨("is_struck", none), "is_struck", "is_struck", defArgs s_is_struck, defBody s_is_struck, defScope s_is_struck, [], []⟩
def d_table_among : He.DefD := ⟨("table_among", none), "table_among", "table_among", defArgs s_table_among, defBody s_table_among, defScope s_table_among, [], []⟩
def d_least_wares : He.DefD := ⟨("least_wares", none), "least_wares", "least_wares", defArgs s_least_wares, defBody s_least_wares, defScope s_least_wares, [], []⟩
def d_is_met_by : He.DefD := ⟨("is_met_by", none), "is_met_by", "is_met_by", defArgs s_is_met_by, defBody s_is_met_by, defScope s_is_met_by, [], []⟩
def d_fewest_stalls : He.DefD := ⟨("fewest_stalls", none), "fewest_stalls", "fewest_stalls", defArgs s_fewest_stalls, defBody s_fewest_stalls, defScope s_fewest_stalls, [], []⟩
def d_needed : He.DefD := ⟨("needed", none), "needed", "needed", defArgs s_needed, defBody s_needed, defScope s_needed, [], []⟩
def d_law_deck : He.DefD := ⟨("_law_deck", none), "_law_deck", "_law_deck", defArgs s_law_deck, defBody s_law_deck, defScope s_law_deck, [], []⟩
def d_law_pick : He.DefD := ⟨("_law_pick", none), "_law_pick", "_law_pick", defArgs s_law_pick, defBody s_law_pick, defScope s_law_pick, [], []⟩
def d_law_fold : He.DefD := ⟨("_law_fold", none), "_law_fold", "_law_fold", defArgs s_law_fold, defBody s_law_fold, defScope s_law_fold, [], []⟩
def d_law_divisor : He.DefD := ⟨("_law_divisor", none), "_law_divisor", "_law_divisor", defArgs s_law_divisor, defBody s_law_divisor, defScope s_law_divisor, [], []⟩
def d_law_made : He.DefD := ⟨("_law_made", none), "_law_made", "_law_made", defArgs s_law_made, defBody s_law_made, defScope s_law_made, [], []⟩
def d_law_added : He.DefD := ⟨("_law_added", none), "_law_added", "_law_added", defArgs s_law_added, defBody s_law_added, defScope s_law_added, [], []⟩
def d_law_taken : He.DefD := ⟨("_law_taken", none), "_law_taken", "_law_taken", defArgs s_law_taken, defBody s_law_taken, defScope s_law_taken, [], []⟩
def d_law_product : He.DefD := ⟨("_law_product", none), "_law_product", "_law_product", defArgs s_law_product, defBody s_law_product, defScope s_law_product, [], []⟩
def d_law_amount : He.DefD := ⟨("_law_amount", none), "_law_amount", "_law_amount", defArgs s_law_amount, defBody s_law_amount, defScope s_law_amount, [], []⟩
def d_law_stall : He.DefD := ⟨("_law_stall", none), "_law_stall", "_law_stall", defArgs s_law_stall, defBody s_law_stall, defScope s_law_stall, [], []⟩
def d_law_edge : He.DefD := ⟨("_law_edge", none), "_law_edge", "_law_edge", defArgs s_law_edge, defBody s_law_edge, defScope s_law_edge, [], []⟩
def d_law_table : He.DefD := ⟨("_law_table", none), "_law_table", "_law_table", defArgs s_law_table, defBody s_law_table, defScope s_law_table, [], []⟩
def d_law_can_be_struck : He.DefD := ⟨("_law_can_be_struck", none), "_law_can_be_struck", "_law_can_be_struck", defArgs s_law_can_be_struck, defBody s_law_can_be_struck, defScope s_law_can_be_struck, [], []⟩
def d_law_some : He.DefD := ⟨("_law_some", none), "_law_some", "_law_some", defArgs s_law_some, defBody s_law_some, defScope s_law_some, [], []⟩
def d_law_is_met : He.DefD := ⟨("_law_is_met", none), "_law_is_met", "_law_is_met", defArgs s_law_is_met, defBody s_law_is_met, defScope s_law_is_met, [], []⟩
def d_law_wares_due : He.DefD := ⟨("_law_wares_due", none), "_law_wares_due", "_law_wares_due", defArgs s_law_wares_due, defBody s_law_wares_due, defScope s_law_wares_due, [], []⟩
def d_law_stalls_due : He.DefD := ⟨("_law_stalls_due", none), "_law_stalls_due", "_law_stalls_due", defArgs s_law_stalls_due, defBody s_law_stalls_due, defScope s_law_stalls_due, [], []⟩
def d_law_needed_due : He.DefD := ⟨("_law_needed_due", none), "_law_needed_due", "_law_needed_due", defArgs s_law_needed_due, defBody s_law_needed_due, defScope s_law_needed_due, [], []⟩
def d_law_is_told : He.DefD := ⟨("_law_is_told", none), "_law_is_told", "_law_is_told", defArgs s_law_is_told, defBody s_law_is_told, defScope s_law_is_told, [], []⟩
def d_law_is_barred : He.DefD := ⟨("_law_is_barred", none), "_law_is_barred", "_law_is_barred", defArgs s_law_is_barred, defBody s_law_is_barred, defScope s_law_is_barred, [], []⟩
def d_law_is_well : He.DefD := ⟨("_law_is_well", none), "_law_is_well", "_law_is_well", defArgs s_law_is_well, defBody s_law_is_well, defScope s_law_is_well, [], []⟩
def d_law_word : He.DefD := ⟨("_law_word", none), "_law_word", "_law_word", defArgs s_law_word, defBody s_law_word, defScope s_law_word, [], []⟩
def d_law : He.DefD := ⟨("law", none), "law", "law", defArgs s_law, defBody s_law, defScope s_law, [], []⟩
def fn0 : List He.DefD := [d_is_integer, d_common, d_Exact_init, d_Exact_add, d_Exact_sub, d_Exact_mul, d_Exact_eq, d_Exact_over, d_Exact_sign, d_Exact_square, d_Exact_pair, d_exact, d_is_fraction, d_is_amount, d_is_some, d_is_ware_below, d_is_stall, d_Web_init, d_is_amounts, d_check_purse, d_check_wish, d_empty, d_held_exact, d_roots_exact, d_Table_init, d_Table_is_wrong, d_Table_raise_root, d_Table_strike, d_Table_strike_all, d_Table_go_back]
def fn1 : List He.DefD := [d_table_of, d_scales_of, d_scales, d_all_tuples, d_is_struck, d_table_among, d_least_wares, d_is_met_by, d_fewest_stalls, d_needed, d_law_deck, d_law_pick, d_law_fold, d_law_divisor, d_law_made, d_law_added, d_law_taken, d_law_product, d_law_amount, d_law_stall, d_law_edge, d_law_table, d_law_can_be_struck, d_law_some, d_law_is_met, d_law_wares_due, d_law_stalls_due, d_law_needed_due, d_law_is_told, d_law_is_barred]
def fn2 : List He.DefD := [d_law_is_well, d_law_word, d_law]
def fn : List He.DefD := fn0 ++ fn1 ++ fn2
def fa0 : List He.Fa := [.glo "is_integer", .glo "common", .glo "exact", .glo "is_fraction", .glo "is_amount", .glo "is_some", .glo "is_ware_below", .glo "is_stall", .glo "is_amounts", .glo "check_purse", .glo "check_wish", .glo "empty", .glo "held_exact", .glo "roots_exact", .glo "table_of", .glo "scales_of", .glo "scales", .glo "all_tuples", .glo "is_struck", .glo "table_among", .glo "least_wares", .glo "is_met_by", .glo "fewest_stalls", .glo "needed", .glo "_law_deck", .glo "_law_pick", .glo "_law_fold", .glo "_law_divisor", .glo "_law_made", .glo "_law_added"]
def fa1 : List He.Fa := [.glo "_law_taken", .glo "_law_product", .glo "_law_amount", .glo "_law_stall", .glo "_law_edge", .glo "_law_table", .glo "_law_can_be_struck", .glo "_law_some", .glo "_law_is_met", .glo "_law_wares_due", .glo "_law_stalls_due", .glo "_law_needed_due", .glo "_law_is_told", .glo "_law_is_barred", .glo "_law_is_well", .glo "_law_word", .glo "law", .glo "Exact", .cls "Exact", .mkr "Exact", .glo "Web", .cls "Web", .mkr "Web", .glo "Table", .cls "Table", .mkr "Table", .noat "Exact" "top", .noat "Exact" "bottom", .noat "Web" "wares", .noat "Web" "stalls"]
def fa2 : List He.Fa := [.noat "Table" "slants", .noat "Table" "beside", .noat "Table" "gone", .meth "Exact" "__add__", .meth "Exact" "__sub__", .meth "Exact" "__mul__", .meth "Exact" "__eq__", .meth "Exact" "over", .meth "Exact" "sign", .meth "Exact" "square", .meth "Exact" "pair", .meth "Table" "is_wrong", .meth "Table" "raise_root", .meth "Table" "strike", .meth "Table" "strike_all", .meth "Table" "go_back", .glo "StallError", .glo "BadWares", .glo "BadStall", .glo "BadPurse", .glo "BadWish", .int "MOST_WARES" 8, .int "MOST_STALLS" 16, .free "isinstance", .free "int", .free "bool", .free "abs", .free "tuple", .free "len", .free "all"]
def fa3 : List He.Fa := [.free "list", .free "zip", .free "range", .free "dict", .free "sorted", .free "enumerate", .free "any", .free "max", .exm "BadPurse" "BadPurse" true, .exm "BadWish" "BadPurse" false, .exm "BadWish" "BadWish" true, .keep "BadPurse", .keep "BadWish", .exc "BadPurse", .exc "BadWish"]
def fa : List He.Fa := fa0 ++ fa1 ++ fa2 ++ fa3
def nm0 : List PySem.Str := ["_wall", "is_integer", "common", "Exact", "exact", "StallError", "BadWares", "BadStall", "BadPurse", "BadWish", "is_fraction", "is_amount", "is_some", "MOST_WARES", "MOST_STALLS", "is_ware_below", "is_stall", "Web", "is_amounts", "check_purse", "check_wish", "empty", "held_exact", "roots_exact", "Table", "table_of", "scales_of", "scales", "all_tuples", "is_struck"]
def nm1 : List PySem.Str := ["table_among", "least_wares", "is_met_by", "fewest_stalls", "needed", "_law_deck", "_law_pick", "_law_fold", "_law_divisor", "_law_made", "_law_added", "_law_taken", "_law_product", "_law_amount", "_law_stall", "_law_edge", "_law_table", "_law_can_be_struck", "_law_some", "_law_is_met", "_law_wares_due", "_law_stalls_due", "_law_needed_due", "_law_is_told", "_law_is_barred", "_law_is_well", "_law_word"]
def nms : List PySem.Str := nm0 ++ nm1
/-- what else is told of the written part: the exception classes, the operators' slots -/
def ex (K : PySem.W.Frag) : Bool := PySem.W.selfFirst K (He.ga K "Exact") &&
  (decide (PySem.W.findIn K (.ref (He.ga K "Exact")) "__class__" = some (some (.builtin "object.__class__"))) && (decide (PySem.W.specialIn K (.builtin "object.__class__") "__get__" = some (some (.builtin "getset_descriptor.__get__"))) &&
  (decide (PySem.W.takesIn K (.builtin "object.__class__") = some true) && decide (PySem.W.mroIn K (He.ga K "Exact") (.type "object") = some true))))
end R25

set_option Elab.async false
set_option linter.all false
set_option maxRecDepth 100000
set_option maxHeartbeats 4000000
/-! Own rules over the layer: operators of own classes, zip of three, enumerate of a tuple, a tuple turned round, the greatest of a tuple, sorted of data. -/
namespace R25
open PySem PySem.Spec PyProof.Rows L2
section
variable {X : Cx}
/-! ### an operator that the class of both defines -/
def rOwn (C : Addr) (sp : Sp) (E : XK) : R2 := fun x y H Q => ∃ a b dx dy fs gs, x = .ref a ∧ y = .ref b ∧ H a = some (.ins C dx fs) ∧ H b = some (.ins C dy gs) ∧ sp [.ref a, .ref b] H Q E
theorem op_own {CX : CXT} {n : Nat} {C f : Addr} {fd : FuncData} {ps : List Str} {sp : Sp} {E : XK} {op : Operator} {m : Str} (hc : PySem.W.selfFirst X.K C = true) (F : FnOk X.prog X.w X.K X.mg X.base CX n f fd ps sp) (hr : Room n X.A)
    (M : Meth X.K C m f) (hm : m = PySem.dunder op.info.2) (hb : Binds X.K fd ps []) (hx : Passes CX X E) : OpR X (binaryOp op) (rOwn C sp E) := by
  intro pins s σ H x y v u Q I rx ry h
  obtain ⟨a, b, dx, dy, fs, gs, rfl, rfl, ha, hb', hsp⟩ := h
  cases rx
  cases ry
  obtain ⟨mA, J, _⟩ := ins_get I.hok ha
  obtain ⟨mB, J', _⟩ := ins_get I.hok hb'
  obtain ⟨od, J, _⟩ := J.look
  obtain ⟨od', J', _⟩ := J'.look
  obtain ⟨m', hF⟩ := I.fr
  refine PySem.W.binop_K hF I.ok.mod.kin J J'.type hc (by rw [← hm]; exact M.at_) M.fn ?_
  refine wpAny_mono (run_fn (us := [.ref a, .ref b]) (vs := [.ref a, .ref b]) F hr hb .nil hx I (.cons rfl (.cons rfl .nil)) hsp) (fun z s' hz => ?_) fun _ _ e => e
  obtain ⟨v, H', I', rz, q⟩ := id hz
  cases v with
  | non => cases (show z = Value.none from rz); exact hz
  | bl b => cases (show z = Value.bool b from rz); exact hz
  | int i => obtain ⟨t, e⟩ := (show ∃ t, z = Value.int i t from rz); cases e; exact hz
  | str x => obtain ⟨t, e⟩ := (show ∃ t, z = Value.str x t from rz); cases e; exact hz
  | byt b => obtain ⟨t, e⟩ := (show ∃ t, z = Value.bytes b t from rz); cases e; exact hz
  | flt b => obtain ⟨t, e⟩ := (show ∃ t, z = Value.float b t from rz); cases e; exact hz
  | ref a => cases (show z = Value.ref a from rz); exact hz
  | ty n => cases (show z = Value.type n from rz); exact hz
end
end R25

set_option Elab.async false
set_option linter.all false
set_option maxRecDepth 100000
set_option maxHeartbeats 4000000
namespace R25
open PySem PySem.Spec PyProof.Rows L2
/-! ### enumerate(t), t a tuple -/
theorem meets_enum1 {v : Value} {o : Obj} {H : Heap → Prop} (B : Begins v o H) :
    Meets (Builtin.«enumerate.__new__» ⟨[.type "enumerate", v], []⟩) (fun _ R s => H s.heap ∧
      R (.ok (.ret (.ref (s.heap.push o).objs.size))) { s with heap := (s.heap.push o).push { cls := .type "enumerate", data := .fields #[.none, .bool false, .ref s.heap.objs.size, rawInt 0, .none, .none] } }) :=
  .of_wp fun prog w A R s h => by
    obtain ⟨hp, g, d, tk, os⟩ := s; obtain ⟨h1, h⟩ := h
    have hsub := sub_enumerate
    have q1 : ∀ {A' : Around} {E : Value → Shared → Prop} {Q : Value → Shared → Prop}, Q (.ref hp.objs.size) ⟨hp.push o, g, d, tk, os⟩ → wpAny (model prog w) A' (pyIter v) Q E ⟨hp, g, d, tk, os⟩ :=
      fun q => B.iter prog w _ _ ⟨hp, g, d, tk, os⟩ _ h1 q
    wp_walk using q1
    refine wpAny_stack_any fun st => wpAny_pure ?_
    split
    · rename_i c _ _ _ _ _
      cases (c == Value.type "enumerate")
      · wp_walk using q1
        exact ⟨_, rfl, h⟩
      · wp_walk using q1
        exact ⟨_, rfl, h⟩
    · wp_walk using q1
      exact ⟨_, rfl, h⟩
section
variable {prog : Program} {w : World} {A : Around} {E : Value → Shared → Prop} {s : Shared}
theorem enum_begins1 {v : Value} {o : Obj} {H : Heap → Prop} {Q : Value → Shared → Prop} (B : Begins v o H) (h1 : H s.heap)
    (ft : checkTypeCall "enumerate" ⟨[v], []⟩ = pure ()) (fn : checkBuiltinCall "enumerate.__new__" ⟨[.type "enumerate", v], []⟩ = pure ()) (fo : ∀ obj, argsOk "object.__init__" ⟨[obj, v], []⟩)
    (h : ∀ h', IsEnum h' (s.heap.objs.size + 1) s.heap.objs.size 0 .none → h'.get? s.heap.objs.size = some o → h'.objs.size = s.heap.objs.size + 2 →
      (∀ b o, s.heap.get? b = some o → h'.get? b = some o) → Q (.ref (s.heap.objs.size + 1)) { s with heap := h' }) :
    wpAny (model prog w) A (call (.type "enumerate") [v]) Q E s := by
  refine callType_new F.called_enumerate (by decide) ft fn fo F.entry_enumerate_new (meets_enum1 B) ⟨h1, ?_⟩
  have hz : (s.heap.push o).objs.size = s.heap.objs.size + 1 := Heap.size_push ..
  show _ ∧ _
  rw [hz]
  have he : IsEnum ((s.heap.push o).push { cls := .type "enumerate", data := .fields #[.none, .bool false, .ref s.heap.objs.size, rawInt 0, .none, .none] }) (s.heap.objs.size + 1) s.heap.objs.size 0 .none := by
    have := Heap.get?_push_size (s.heap.push o) (o := { cls := .type "enumerate", data := .fields #[.none, .bool false, .ref s.heap.objs.size, rawInt 0, .none, .none] }) rfl
    rw [hz] at this; exact this
  refine ⟨⟨_, he, rfl⟩, h _ he (Heap.get?_push_of_some _ (Heap.get?_push_size _ B.free)) (by rw [Heap.size_push, hz]) fun b o x => Heap.get?_push_of_some _ (Heap.get?_push_of_some _ x)⟩
end
/-- the tuple at a, its items in new pairs with their places -/
def Ieu (K : PySem.W.Frag) (a : Addr) : It :=
  ⟨fun i H => ∃ (xs : List V) (x : V), SqT K H a xs ∧ xs[i]? = some x,
    fun i H v H' => ∃ T x, v = .ref T ∧ H T = none ∧ H' = upd H T (.tup [.int (i : Nat), x]) ∧ ∀ xs, SqT K H a xs → xs[i]? = some x,
    fun i H => ∃ xs : List V, SqT K H a xs ∧ xs.length = i⟩
theorem turn_enumT {P : Program} {w : World} {K : PySem.W.Frag} {elts : List Expr} {kk : Nat} {tpos : Pos} (a e it : Addr) :
    Turn P w K (.Tuple elts kk tpos) (Ieu K a) [e, it] e (fun i h => (∃ old, IsEnum h e it (i : Int) old) ∧ h.IsTupleIter it a i ∧ e ≠ it ∧ a ≠ it ∧ e ≠ a) where
  mem := by simp
  obj := fun i h st b hb => by
    obtain ⟨⟨old, he⟩, ⟨o, e1, c1, d1⟩, _⟩ := st
    have e' : b = e ∨ b = it := by simpa using hb
    rcases e' with q | q
    · rw [q]; exact ⟨_, he, fun v z => nomatch z⟩
    · rw [q]; exact ⟨o, e1, fun v z => by rw [d1] at z; cases z⟩
  keep := fun i h h' st k => by
    obtain ⟨⟨old, he⟩, h1, r⟩ := st
    exact ⟨⟨old, k e (by simp) _ he⟩, h1.at fun o q => k it (by simp) o q, r⟩
  item := by
    intro X hP hw hK hc i pins s σ H E I hf st hg
    subst hP hw hK
    obtain ⟨⟨old, he⟩, hit, hei, hai, hea⟩ := st
    obtain ⟨xs, x, hq, hx⟩ := hg
    obtain ⟨its, rv, p, hz⟩ := I.tuple hq
    obtain ⟨u, hu, ru⟩ := rv.get hx
    have hel : e < s.heap.objs.size := Heap.lt_size he
    have hil : it < s.heap.objs.size := by obtain ⟨_, q, _⟩ := hit; exact Heap.lt_size q
    have hin : i < its.toArray.size := by
      have := (List.getElem?_eq_some_iff.mp hu).1
      simpa using this
    have hh : X.A.in1.handled = none := I.ok.hd hc
    have W := GoesN.enumFrom (elts := elts) (x1 := kk) (pos := tpos) (A := X.A) 0 (Draws.tuple (prog := X.prog) (w := X.w) hh it a hai its.toArray) e hei (by simp [hei, hea]) (by simp)
    refine W.goes i s (fun v s2 => ∃ x H', Inv X pins σ H' s2 ∧ RelV x v ∧ (Ieu X.K a).yld i H x H' ∧ ((∃ old, IsEnum s2.heap e it ((i + 1 : Nat) : Int) old) ∧ s2.heap.IsTupleIter it a (i + 1) ∧ e ≠ it ∧ a ≠ it ∧ e ≠ a) ∧ ∀ b ∈ [e, it], H' b = none) E hin ⟨⟨old, by rw [Int.zero_add]; exact he⟩, hit, p⟩ fun v h' tk hY st' hk htk => ?_
    obtain ⟨T, t, x', rfl, hT, hx', hTt⟩ := hY
    obtain ⟨⟨old', he'⟩, hit', _⟩ := st'
    have ex : x' = u := by
      have e1 : its.toArray[i]? = some u := by simpa using hu
      rw [e1] at hx'
      exact (Option.some.inj hx').symm
    subst ex
    have new : ObjOk X.prog X.w (upd H T (.tup [.int (i : Nat), x])) h' T (.tup [.int (i : Nat), x]) :=
      ⟨by show 2 ≤ sizeLine; decide, [.int (0 + (i : Int)) t, x'], .cons ⟨t, by rw [Int.zero_add]⟩ (.cons ru .nil), hTt⟩
    have I1 : Inv X pins σ (upd H T (.tup [.int (i : Nat), x])) { s with heap := h', toks := tk } :=
      I.turnedNew (ch := [e, it]) hk hf hT new
    have hTn : H T = none := I.hok.fresh hT
    refine ⟨.ref T, _, I1, rfl, ⟨T, x, rfl, hTn, rfl, fun ys hy => by rw [I.tuple_inj hy hq]; exact hx⟩, ⟨⟨old', by rw [Int.zero_add] at he'; exact he'⟩, hit', hei, hai, hea⟩, fun b hb => ?_⟩
    have hb' : b < s.heap.objs.size := by
      have e' : b = e ∨ b = it := by simpa using hb
      rcases e' with z | z
      · rw [z]; exact hel
      · rw [z]; exact hil
    rw [upd_ne (Nat.ne_of_lt (Nat.lt_of_lt_of_le hb' hT))]
    exact (hf b hb).1
  done := by
    intro X hP hw hK hc i pins s σ H E I hf st hg
    subst hP hw hK
    obtain ⟨⟨old, he⟩, hit, hei, hai, hea⟩ := st
    obtain ⟨xs, hq, hx⟩ := hg
    obtain ⟨its, rv, p, hz⟩ := I.tuple hq
    have hl := rv.length
    have hh : X.A.in1.handled = none := I.ok.hd hc
    have hsz : its.toArray.size = i := by simp; omega
    subst hsz
    have W := GoesN.enumFrom (elts := elts) (x1 := kk) (pos := tpos) (A := X.A) 0 (Draws.tuple (prog := X.prog) (w := X.w) hh it a hai its.toArray) e hei (by simp [hei, hea]) (by simp)
    exact W.stops s (fun s1 => Inv X pins σ H s1) E ⟨⟨old, by rw [Int.zero_add]; exact he⟩, hit, p⟩ fun h' tk hk htk => I.turnedL (ch := [e, it]) hk hf
  self := fun A i s Q E st h => let ⟨⟨_, he⟩, _⟩ := st; wpAny_pyIter_enum he h
def iEnumT (K : PySem.W.Frag) (ta : TA) : TI := fun σ H R => ta σ H fun vs H1 => ∃ a xs, vs = [.ref a] ∧ SqT K H1 a xs ∧ R (Ieu K a) H1
theorem pi_enumT {X : Cx} {e : Expr} {ta : TA} {p pos tpos : Pos} {elts : List Expr} {kk : Nat} (hg : Gl X "enumerate") (hm : X.mg "enumerate" = none) (ha : PA X [e] ta) (hs : starEach [e] X.env = [(false, eval e X.env)] := by rfl) :
    PI X (.Tuple elts kk tpos) (.Call (.Name "enumerate" p) [e] [] pos) (iEnumT X.K ta) := by
  refine ⟨fun pins s σ H R I h => ?_⟩
  refine Call_ (ld_blt I hg hm boot_enumerate (PyProof.Rows.callWith_type1 (thn (ha.run pos pins s σ H _ I h) fun us s1 ⟨vs, H1, I1, r1, q1⟩ => ?_) hs rfl))
  obtain ⟨a, xs, ex, hq, q⟩ := q1
  subst ex
  cases r1 with
  | cons r rr =>
    cases rr
    cases r
    obtain ⟨its, rv, p', hz⟩ := I1.tuple hq
    have hal : a < s1.heap.objs.size := p'.lt
    refine enum_begins1 (begins_tuple a its.toArray) p' (F.typeCall_enumerate_1 _) (F.newCall_enumerate_1 _) (fun obj => F.args_object_init_2 obj _) fun h' he hit hsz hk => wpAny_pyIter_enum he ?_
    have I2 : Inv X pins σ H1 { s1 with heap := h' } := I1.kept (t' := s1.toks) hk
    refine ⟨s1.heap.objs.size + 1, [s1.heap.objs.size + 1, s1.heap.objs.size], _, _, H1, rfl, I2, turn_enumT a (s1.heap.objs.size + 1) s1.heap.objs.size, ⟨⟨.none, he⟩, ⟨_, hit, rfl, rfl⟩, Nat.succ_ne_self _, Nat.ne_of_lt hal, Nat.ne_of_gt (Nat.lt_succ_of_lt hal)⟩, fun b hb => ?_, q⟩
    have e' : b = s1.heap.objs.size + 1 ∨ b = s1.heap.objs.size := by simpa using hb
    have hle : s1.heap.objs.size ≤ b := by
      rcases e' with z | z
      · rw [z]; exact Nat.le_add_right _ _
      · rw [z]; exact Nat.le_refl _
    exact I1.fpOk hle (I1.hok.fresh hle)
theorem walk_enumT {K : PySem.W.Frag} {a : Addr} {xs : List V} : Walk (Ieu K a) xs.length (fun H => SqT K H a xs) (YPair (fun i => some (.int (i : Nat))) (fun i => xs[i]?)) := by
  refine ⟨fun i _ hi q => ⟨xs, xs[i], q, by simp [hi]⟩, fun _ q => ⟨xs, q, rfl⟩, fun i H v H' _ q y => ?_⟩
  obtain ⟨T, x, h1, h2, h3, h4⟩ := y
  exact ⟨T, .int (i : Nat), x, h1, h2, h3, rfl, h4 xs q⟩
/-! ### zip of three lists -/
/-- a new triple of the i-th of each -/
def YTrip (xs ys zs : Nat → Option V) : Nat → Hp → V → Hp → Prop := fun i H v H' => ∃ T x y z, v = .ref T ∧ H T = none ∧ H' = upd H T (.tup [x, y, z]) ∧ xs i = some x ∧ ys i = some y ∧ zs i = some z
def Iz3 (K : PySem.W.Frag) (a b c : Addr) : It :=
  ⟨fun i H => ∃ (xs ys zs : List V) (x y z : V), SqL K H a xs ∧ SqL K H b ys ∧ SqL K H c zs ∧ xs[i]? = some x ∧ ys[i]? = some y ∧ zs[i]? = some z,
    fun i H v H' => ∃ T x y z, v = .ref T ∧ H T = none ∧ H' = upd H T (.tup [x, y, z]) ∧ (∀ xs, SqL K H a xs → xs[i]? = some x) ∧ (∀ ys, SqL K H b ys → ys[i]? = some y) ∧ ∀ zs, SqL K H c zs → zs[i]? = some z,
    fun i H => ∃ xs ys zs : List V, SqL K H a xs ∧ SqL K H b ys ∧ SqL K H c zs ∧ xs.length = i ∧ ys.length = i ∧ zs.length = i⟩
structure Zp3 (z TI TO i1 i2 i3 a b c : Addr) : Prop where
  d : [z, TI, TO, i1, i2, i3].Nodup
  la : a ∉ [z, TI, TO, i1, i2, i3]
  lb : b ∉ [z, TI, TO, i1, i2, i3]
  lc : c ∉ [z, TI, TO, i1, i2, i3]
theorem Zp3.sep {z TI TO i1 i2 i3 a b c : Addr} (d : Zp3 z TI TO i1 i2 i3 a b c) : ZipSep3 z TI TO i1 i2 i3 [i1, a] [i2, b] [i3, c] := by
  obtain ⟨h0, h1, h2, h3⟩ := d
  simp only [List.nodup_cons, List.mem_cons, List.not_mem_nil, or_false, not_or, List.nodup_nil, and_true, not_false_eq_true] at h0 h1 h2 h3
  constructor <;> (try simp only [List.mem_cons, List.not_mem_nil, or_false, not_or, true_or]) <;> grind
theorem turn_zip3 {P : Program} {w : World} {K : PySem.W.Frag} {elts : List Expr} {kk : Nat} {tpos : Pos} {a b c z TI TO i1 i2 i3 : Addr} (D : Zp3 z TI TO i1 i2 i3 a b c) :
    Turn P w K (.Tuple elts kk tpos) (Iz3 K a b c) [z, TI, TO, i1, i2, i3] z (fun i h => IsZip h z TI TO .none ∧ IsTupOf3 h TI (.ref i1) (.ref i2) (.ref i3) ∧ (∃ x y u, IsTupOf3 h TO x y u) ∧ h.IsListIter i1 a i ∧ h.IsListIter i2 b i ∧ h.IsListIter i3 c i) where
  mem := by simp
  obj := fun i h st b hb => by
    obtain ⟨hz, hTI, ⟨x, y, u, hTO⟩, ⟨o1, e1, _, d1⟩, ⟨o2, e2, _, d2⟩, ⟨o3, e3, _, d3⟩⟩ := st
    simp only [List.mem_cons, List.not_mem_nil, or_false] at hb
    rcases hb with q | q | q | q | q | q
    · rw [q]; exact ⟨_, hz, fun v q => nomatch q⟩
    · rw [q]; exact ⟨_, hTI, fun v q => nomatch q⟩
    · rw [q]; exact ⟨_, hTO, fun v q => nomatch q⟩
    · rw [q]; exact ⟨o1, e1, fun v q => by rw [d1] at q; cases q⟩
    · rw [q]; exact ⟨o2, e2, fun v q => by rw [d2] at q; cases q⟩
    · rw [q]; exact ⟨o3, e3, fun v q => by rw [d3] at q; cases q⟩
  keep := fun i h h' st k => by
    obtain ⟨hz, hTI, ⟨x, y, u, hTO⟩, h1, h2, h3⟩ := st
    exact ⟨k z (by simp) _ hz, k TI (by simp) _ hTI, ⟨x, y, u, k TO (by simp) _ hTO⟩, h1.at fun o q => k i1 (by simp) o q, h2.at fun o q => k i2 (by simp) o q, h3.at fun o q => k i3 (by simp) o q⟩
  item := by
    intro X hP hw hK hc i pins s σ H E I hf st hg
    subst hP hw hK
    obtain ⟨hz, hTI, hTO, h1, h2, h3⟩ := st
    obtain ⟨xs, ys, zs, x, y, u, hqx, hqy, hqz, hx, hy, hu⟩ := hg
    obtain ⟨its, rv, p, _⟩ := I.list hqx
    obtain ⟨its2, rv2, p2, _⟩ := I.list hqy
    obtain ⟨its3, rv3, p3, _⟩ := I.list hqz
    obtain ⟨v1, hv1, r1⟩ := rv.get hx
    obtain ⟨v2, hv2, r2⟩ := rv2.get hy
    obtain ⟨v3, hv3, r3⟩ := rv3.get hu
    have n1 : i < its.toArray.size := by have := (List.getElem?_eq_some_iff.mp hv1).1; simpa using this
    have n2 : i < its2.toArray.size := by have := (List.getElem?_eq_some_iff.mp hv2).1; simpa using this
    have n3 : i < its3.toArray.size := by have := (List.getElem?_eq_some_iff.mp hv3).1; simpa using this
    have hh : X.A.in1.handled = none := I.ok.hd hc
    have ea : a ≠ i1 := fun q => D.la (by simp [q])
    have eb : b ≠ i2 := fun q => D.lb (by simp [q])
    have ec : c ≠ i3 := fun q => D.lc (by simp [q])
    have W := GoesN.zip3 (elts := elts) (x1 := kk) (pos := tpos) (A := X.A) D.sep (Draws.list (prog := X.prog) (w := X.w) hh i1 a ea its.toArray) (Draws.list (prog := X.prog) (w := X.w) hh i2 b eb its2.toArray) (Draws.list (prog := X.prog) (w := X.w) hh i3 c ec its3.toArray)
    have low : ∀ q ∈ [z, TI, TO, i1, i2, i3], q < s.heap.objs.size := fun q hq => by
      obtain ⟨⟨o1, e1, _⟩, ⟨o2, e2, _⟩, ⟨o3, e3, _⟩⟩ := And.intro h1 (And.intro h2 h3)
      obtain ⟨x0, y0, u0, hTO⟩ := hTO
      simp only [List.mem_cons, List.not_mem_nil, or_false] at hq
      rcases hq with q | q | q | q | q | q
      · rw [q]; exact Heap.lt_size hz
      · rw [q]; exact Heap.lt_size hTI
      · rw [q]; exact Heap.lt_size hTO
      · rw [q]; exact Heap.lt_size e1
      · rw [q]; exact Heap.lt_size e2
      · rw [q]; exact Heap.lt_size e3
    refine W.goes i s (fun v s2 => ∃ x H', Inv X pins σ H' s2 ∧ RelV x v ∧ (Iz3 X.K a b c).yld i H x H' ∧ (IsZip s2.heap z TI TO .none ∧ IsTupOf3 s2.heap TI (.ref i1) (.ref i2) (.ref i3) ∧ (∃ x y u, IsTupOf3 s2.heap TO x y u) ∧ s2.heap.IsListIter i1 a (i + 1) ∧ s2.heap.IsListIter i2 b (i + 1) ∧ s2.heap.IsListIter i3 c (i + 1)) ∧ ∀ q ∈ [z, TI, TO, i1, i2, i3], H' q = none) E (by omega) ⟨hz, hTI, hTO, ⟨h1, p.isList⟩, ⟨h2, p2.isList⟩, ⟨h3, p3.isList⟩⟩ fun v h' tk hY st' hk htk => ?_
    obtain ⟨T, x', y', u', rfl, hT, hx', hy', hu', hTt⟩ := hY
    obtain ⟨hz', hTI', hTO', ⟨h1', _⟩, ⟨h2', _⟩, ⟨h3', _⟩⟩ := st'
    have ex : x' = v1 := by
      have e1 : its.toArray[i]? = some v1 := by simpa using hv1
      rw [e1] at hx'
      exact (Option.some.inj hx').symm
    have ey : y' = v2 := by
      have e1 : its2.toArray[i]? = some v2 := by simpa using hv2
      rw [e1] at hy'
      exact (Option.some.inj hy').symm
    have eu : u' = v3 := by
      have e1 : its3.toArray[i]? = some v3 := by simpa using hv3
      rw [e1] at hu'
      exact (Option.some.inj hu').symm
    subst ex ey eu
    have new : ObjOk X.prog X.w (upd H T (.tup [x, y, u])) h' T (.tup [x, y, u]) :=
      ⟨by show 3 ≤ sizeLine; decide, [x', y', u'], .cons r1 (.cons r2 (.cons r3 .nil)), hTt⟩
    have I1 : Inv X pins σ (upd H T (.tup [x, y, u])) { s with heap := h', toks := tk } :=
      I.turnedNew (ch := [z, TI, TO, i1, i2, i3]) (fun q o hq => hk q o (fun hm => hq (by simp only [List.mem_cons, List.not_mem_nil, or_false] at hm ⊢; grind))) hf hT new
    have hTn : H T = none := I.hok.fresh hT
    refine ⟨.ref T, _, I1, rfl, ⟨T, x, y, u, rfl, hTn, rfl, fun l hl => by rw [I.list_inj hl hqx]; exact hx, fun l hl => by rw [I.list_inj hl hqy]; exact hy, fun l hl => by rw [I.list_inj hl hqz]; exact hu⟩, ⟨hz', hTI', hTO', h1', h2', h3'⟩, fun q hq => ?_⟩
    rw [upd_ne (Nat.ne_of_lt (Nat.lt_of_lt_of_le (low q hq) hT))]
    exact (hf q hq).1
  done := by
    intro X hP hw hK hc i pins s σ H E I hf st hg
    subst hP hw hK
    obtain ⟨hz, hTI, hTO, h1, h2, h3⟩ := st
    obtain ⟨xs, ys, zs, hqx, hqy, hqz, l1, l2, l3⟩ := hg
    obtain ⟨its, rv, p, _⟩ := I.list hqx
    obtain ⟨its2, rv2, p2, _⟩ := I.list hqy
    obtain ⟨its3, rv3, p3, _⟩ := I.list hqz
    have e1 := rv.length
    have e2 := rv2.length
    have e3 := rv3.length
    have hh : X.A.in1.handled = none := I.ok.hd hc
    have ea : a ≠ i1 := fun q => D.la (by simp [q])
    have eb : b ≠ i2 := fun q => D.lb (by simp [q])
    have ec : c ≠ i3 := fun q => D.lc (by simp [q])
    have W := GoesN.zip3 (elts := elts) (x1 := kk) (pos := tpos) (A := X.A) D.sep (Draws.list (prog := X.prog) (w := X.w) hh i1 a ea its.toArray) (Draws.list (prog := X.prog) (w := X.w) hh i2 b eb its2.toArray) (Draws.list (prog := X.prog) (w := X.w) hh i3 c ec its3.toArray)
    have en : min (min its.toArray.size its2.toArray.size) its3.toArray.size = i := by simp only [List.size_toArray]; omega
    rw [en] at W
    exact W.stops s (fun s1 => Inv X pins σ H s1) E ⟨hz, hTI, hTO, ⟨h1, p.isList⟩, ⟨h2, p2.isList⟩, ⟨h3, p3.isList⟩⟩ fun h' tk hk htk => I.turnedL (ch := [z, TI, TO, i1, i2, i3]) (fun q o hq => hk q o (fun hm => hq (by simp only [List.mem_cons, List.not_mem_nil, or_false] at hm ⊢; grind))) hf
  self := fun A i s Q E st h => wpAny_pyIter_zip st.1 h
def iZip3 (K : PySem.W.Frag) (ta : TA) : TI := fun σ H R => ta σ H fun vs H1 => ∃ a b c xs ys zs, vs = [.ref a, .ref b, .ref c] ∧ SqL K H1 a xs ∧ SqL K H1 b ys ∧ SqL K H1 c zs ∧ R (Iz3 K a b c) H1
theorem fresh6N {n a b c : Nat} (ha : a < n) (hb : b < n) (hc : c < n) : [n + 5, n + 3, n + 4, n, n + 1, n + 2].Nodup ∧ a ∉ [n + 5, n + 3, n + 4, n, n + 1, n + 2] ∧ b ∉ [n + 5, n + 3, n + 4, n, n + 1, n + 2] ∧ c ∉ [n + 5, n + 3, n + 4, n, n + 1, n + 2] := by
  refine ⟨?_, ?_, ?_, ?_⟩ <;> simp only [List.nodup_cons, List.mem_cons, List.not_mem_nil, or_false, not_or, List.nodup_nil, and_true, not_false_eq_true] <;> omega
theorem fresh6 {n a b c : Nat} (ha : a < n) (hb : b < n) (hc : c < n) : Zp3 (n + 5) (n + 3) (n + 4) n (n + 1) (n + 2) a b c :=
  ⟨(fresh6N ha hb hc).1, (fresh6N ha hb hc).2.1, (fresh6N ha hb hc).2.2.1, (fresh6N ha hb hc).2.2.2⟩
theorem pi_zip3 {X : Cx} {e e2 e3 : Expr} {ta : TA} {p pos tpos : Pos} {elts : List Expr} {kk : Nat} (hg : Gl X "zip") (hm : X.mg "zip" = none) (ha : PA X [e, e2, e3] ta)
    (hs : starEach [e, e2, e3] X.env = (false, eval e X.env) :: starEach [e2, e3] X.env := by rfl) (hpl : (backTo pos (starEach [e2, e3] X.env)).any (·.1) = false := by rfl) :
    PI X (.Tuple elts kk tpos) (.Call (.Name "zip" p) [e, e2, e3] [] pos) (iZip3 X.K ta) := by
  refine ⟨fun pins s σ H R I h => ?_⟩
  refine Call_ (ld_blt I hg hm PyProof.Rows.boot_zip (PyProof.Rows.callWith_type1 (thn (ha.run pos pins s σ H _ I h) fun us s1 ⟨vs, H1, I1, r1, q1⟩ => ?_) hs hpl))
  obtain ⟨a, b, c, xs, ys, zs, ex, hqx, hqy, hqz, q⟩ := q1
  subst ex
  obtain ⟨u1, u2, u3, rfl, r1', r2', r3'⟩ : ∃ u1 u2 u3, us = [u1, u2, u3] ∧ RelV (.ref a) u1 ∧ RelV (.ref b) u2 ∧ RelV (.ref c) u3 := by
    cases r1 with
    | cons p q =>
      cases q with
      | cons p' q' =>
        cases q' with
        | cons p'' q'' =>
          cases q''
          exact ⟨_, _, _, rfl, p, p', p''⟩
  cases r1'
  cases r2'
  cases r3'
  obtain ⟨its, rv, p1, _⟩ := I1.list hqx
  obtain ⟨its2, rv2, p2, _⟩ := I1.list hqy
  obtain ⟨its3, rv3, p3, _⟩ := I1.list hqz
  refine zip_begins3 (begins_list a its.toArray) (begins_list b its2.toArray) (begins_list c its3.toArray) p1.isList p2.isList p3.isList fun h' hz hTI hTO h1 h2 h3 hsz hk => wpAny_pyIter_zip hz ?_
  have I2 : Inv X pins σ H1 { s1 with heap := h' } := I1.kept (t' := s1.toks) hk
  refine ⟨s1.heap.objs.size + 5, [s1.heap.objs.size + 5, s1.heap.objs.size + 3, s1.heap.objs.size + 4, s1.heap.objs.size, s1.heap.objs.size + 1, s1.heap.objs.size + 2], _, _, H1, rfl, I2, turn_zip3 (fresh6 p1.lt p2.lt p3.lt),
    ⟨hz, hTI, ⟨_, _, _, hTO⟩, ⟨_, h1, rfl, rfl⟩, ⟨_, h2, rfl, rfl⟩, ⟨_, h3, rfl, rfl⟩⟩, fun b' hb => ?_, q⟩
  have hle : s1.heap.objs.size ≤ b' := by
    simp only [List.mem_cons, List.not_mem_nil, or_false] at hb
    rcases hb with z | z | z | z | z | z
    · rw [z]; exact Nat.le_add_right _ _
    · rw [z]; exact Nat.le_add_right _ _
    · rw [z]; exact Nat.le_add_right _ _
    · rw [z]; exact Nat.le_refl _
    · rw [z]; exact Nat.le_add_right _ _
    · rw [z]; exact Nat.le_add_right _ _
  exact I1.fpOk hle (I1.hok.fresh hle)
theorem walk_zip3 {K : PySem.W.Frag} {a b c : Addr} {xs ys zs : List V} {n : Nat} (h1 : xs.length = n) (h2 : ys.length = n) (h3 : zs.length = n) :
    Walk (Iz3 K a b c) n (fun H => SqL K H a xs ∧ SqL K H b ys ∧ SqL K H c zs) (YTrip (fun i => xs[i]?) (fun i => ys[i]?) (fun i => zs[i]?)) := by
  refine ⟨fun i _ hi q => ?_, fun _ q => ⟨xs, ys, zs, q.1, q.2.1, q.2.2, h1, h2, h3⟩, fun i H v H' _ q y => ?_⟩
  · have l1 : i < xs.length := by omega
    have l2 : i < ys.length := by omega
    have l3 : i < zs.length := by omega
    exact ⟨xs, ys, zs, xs[i], ys[i], zs[i], q.1, q.2.1, q.2.2, by simp [l1], by simp [l2], by simp [l3]⟩
  · obtain ⟨T, x, y, z, g1, g2, g3, g4, g5, g6⟩ := y
    exact ⟨T, x, y, z, g1, g2, g3, g4 xs q.1, g5 ys q.2.1, g6 zs q.2.2⟩
end R25

set_option Elab.async false
set_option linter.all false
set_option maxRecDepth 100000
set_option maxHeartbeats 4000000
namespace R25
open PySem PySem.Spec PyProof.Rows L2
/-! ### t[::-1], t a pair -/
section
variable {prog : Program} {w : World} {A : Around} {E : Value → Shared → Prop} {s : Shared}
theorem sliceApplied_rev2 {sl : Addr} {vs : Value} {Q : Int × Int × Nat → Shared → Prop} (hs : s.heap.IsSliceOf sl .none .none vs) (ps : IsPart vs (some (-1)))
    (h : Q (1, -1, 2) s) : wpAny (model prog w) A (Builtin.Slice.sliceApplied (.ref sl) (pure (2 : Int))) Q E s := by
  obtain ⟨os, hos, hcs, hds⟩ := id hs
  unfold Builtin.Slice.sliceApplied Builtin.Slice.sliceFields
  refine wpAny_bind (wpAny_bind (wpAny_field hos hds (x := .none) rfl (wpAny_bind (wpAny_field hos hds (x := .none) rfl (wpAny_bind (wpAny_field hos hds (x := vs) rfl (wpAny_pure ?_)))))))
  refine wpAny_bind (HT.slicePart_ ps ?_)
  show wpAny _ _ (if ((-1 : Int) == 0) = true then _ else _) _ _ s
  rw [if_neg (by decide)]
  refine wpAny_bind (HT.slicePart_ .none (wpAny_bind (HT.slicePart_ .none (wpAny_bind (wpAny_pure ?_)))))
  exact wpAny_pure h
theorem getItem_pair_rev {t sl : Addr} {x y : Value} {vs : Value} {Q : Value → Shared → Prop} (ht : IsTup s.heap t #[x, y]) (hs : s.heap.IsSliceOf sl .none .none vs) (ps : IsPart vs (some (-1)))
    (h : Q (.ref s.heap.objs.size) { s with heap := s.heap.push { cls := .type "tuple", data := .seq #[y, x] } }) : wpAny (model prog w) A (getItem (.ref t) (.ref sl)) Q E s := by
  have htake : sizeOk (.seq #[y, x]) := by
    show 2 ≤ sizeLine
    decide
  obtain ⟨os, hos, hcs, hds⟩ := id hs
  have hTs : s.TypeIs (.ref sl) "slice" := ⟨os, hos, hcs⟩
  unfold getItem
  try with_reducible refine wpAny_holding ?_
  first | refine wpAny_bind (wpAny_pure ?_) | skip
  refine wpAny_bind (wpAny_sequenceKey ht.typeIs (by decide) ?_)
  refine wpAny_bind (wpAny_callSpecial?_slot (name := Str.ofString "__getitem__") ht.typeIs PyProof.Rows.slot_tuple_getitem
    (wpAny_call_entry PyProof.Rows.slot_tuple_getitem ht.typeIs entry_tuple_getitem ?_ (args_tuple_getitem _ _)))
  show wpAny _ _ (Builtin.Tuple.tupleItemsOf (.ref t) >>= _) _ _ s
  refine wpAny_bind (tupleItemsOf_ ht ?_)
  refine wpAny_bind (wpAny_typeOf hTs ?_)
  rw [if_pos (by decide)]
  refine wpAny_bind (sliceApplied_rev2 hs ps ?_)
  have hno : ¬ (((1 : Int) == 0 && (-1 : Int) == 1 && (2 : Nat) == (#[x, y] : Array Value).size) = true) := by
    intro z
    rw [Bool.and_eq_true, Bool.and_eq_true] at z
    exact absurd z.1.1 (by decide)
  have hpk : (List.filterMap (fun (k : Nat) => (#[x, y] : Array Value)[((1 : Int) + (k : Int) * (-1)).toNat]?) (List.range 2)).toArray = #[y, x] := by rfl
  show wpAny _ _ (if ((1 : Int) == 0 && (-1 : Int) == 1 && (2 : Nat) == (#[x, y] : Array Value).size) = true then _ else _) _ _ s
  rw [if_neg hno, hpk]
  first
    | exact wpAny_bind (m := Builtin.Tuple.tupleExact _) (wpAny_newObj_type (wpAny_pure ⟨_, rfl, wpAny_pure h⟩) htake)
    | exact wpAny_bind (m := Builtin.Tuple.tupleExact _) (wpAny_newObj_type (wpAny_bind (wpAny_pure (wpAny_pure ⟨_, rfl, wpAny_pure h⟩))) htake)
    | exact wpAny_bind (wpAny_bind (m := Builtin.Tuple.tupleExact _) (wpAny_newObj_type (wpAny_pure (wpAny_pure ⟨_, rfl, wpAny_pure h⟩)) htake))
    | exact wpAny_bind (wpAny_bind (m := Builtin.Tuple.tupleExact _) (wpAny_newObj_type (wpAny_pure ⟨_, rfl, wpAny_pure h⟩) htake))
end
def tRevP (K : PySem.W.Frag) (te : TE) : TE := fun σ H Q => te σ H fun v H1 => ∃ a x y, v = .ref a ∧ SqT K H1 a [x, y] ∧ ∀ p, H1 p = none → Q (.ref p) (upd H1 p (.tup [y, x]))
theorem pe_revP {X : Cx} {e : Expr} {te : TE} {k : Nat} {p1 p2 p3 pos : Pos} (he : PE X e te) : PE X (.Subscript e (.Slice none none (some (.UnaryOp .USub (.Constant (.int 1) k p1) p2)) p3) pos) (tRevP X.K te) := by
  refine ⟨fun pins s σ H Q I h => ?_⟩
  refine Subscript_ (thn (he.run pins s σ H _ I h) fun v s1 ⟨x, H1, I1, r1, q1⟩ => ?_)
  obtain ⟨a, x, y, ex, hx, q⟩ := q1
  subst ex
  cases r1
  have hst : PO X (some (.UnaryOp .USub (.Constant (.int 1) k p1) p2)) (tPart (tUn (rU fun i => .int (-i)) (tC (.int 1)))) := po_some (pe_un un_neg pe_int)
  refine wpAny_Slice (thn (po_none.run pins s1 σ H1 (fun o H2 => o = none ∧ H2 = H1) I1 ⟨rfl, rfl⟩) fun vl s2 ⟨l, H2, I2, pl, el, e2⟩ => ?_)
  subst el e2
  refine thn (po_none.run pins s2 σ H2 (fun o H3 => o = none ∧ H3 = H2) I2 ⟨rfl, rfl⟩) fun vu s3 ⟨u, H3, I3, pu, eu, e3⟩ => ?_
  subst eu e3
  refine thn (hst.run pins s3 σ H3 (fun o H4 => o = some (-1) ∧ H4 = H3) I3 ⟨1, rfl, -1, rfl, rfl, rfl⟩) fun vs s4 ⟨o, H4, I4, ps, eo, e4⟩ => ?_
  subst eo e4
  cases pl
  cases pu
  have I5 : Inv X pins σ H4 { s4 with heap := s4.heap.push { cls := .type "slice", data := .fields #[.none, .none, vs] } } := I4.kept (t' := s4.toks) fun b ob q => Heap.get?_push_of_some _ q
  obtain ⟨its, r, ht, hz⟩ := I5.tuple hx
  obtain ⟨u1, u2, rfl, ru1, ru2⟩ := vals2 r
  show wpAny (model X.prog X.w) X.A (subscriptTail e (.Slice none none (some (.UnaryOp .USub (.Constant (.int 1) k p1) p2)) p3) (.ref a) (.ref s4.heap.objs.size)) (EP X pins σ Q) X.xe { s4 with heap := s4.heap.push { cls := .type "slice", data := .fields #[.none, .none, vs] } }
  refine tail_any (ops := [.ref a, .ref s4.heap.objs.size]) ht.typeIs (PyProof.Rows.slot_tuple_getitem.lookup) ?_ (by with_unfolding_all rfl)
  refine getItem_pair_rev (x := u1) (y := u2) ht (Heap.IsSliceOf.new _ .none .none vs) ps ?_
  refine ⟨.ref _, _, I5.laid (t' := s4.toks) (o := .tup [y, x]) (fun b ob q => Heap.get?_push_of_some _ q) (Nat.le_refl _) ?_, rfl, q _ (I5.hok.fresh (Nat.le_refl _))⟩
  exact ⟨by show 2 ≤ sizeLine; decide, [u2, u1], .cons ru2 (.cons ru1 .nil), ⟨_, Heap.get?_push_size _ rfl, rfl, _, rfl⟩⟩
/-! ### max of a tuple of ints -/
theorem reads_ints {h : Heap} : ∀ {ns : List Int} {us : List Value}, Vals (ns.map V.int) us → PySem.ReadsAll h us (ns.map PyData.int) []
  | [], _, .nil => .nil
  | n :: ns, _, .cons r t => by
    obtain ⟨tk, rfl⟩ := (show ∃ t, _ = Value.int n t from r)
    exact .cons (as := []) (bs := []) (.int n tk) (reads_ints t)
theorem alike_all_ints (ns : List Int) : PySem.W.AlikeAll (ns.map PyData.int) := by
  refine ⟨fun d hd d' hd' => ?_, fun d hd => ?_⟩
  · obtain ⟨n, _, rfl⟩ := List.mem_map.mp hd
    obtain ⟨n', _, rfl⟩ := List.mem_map.mp hd'
    simp [PySem.W.alike]
  · obtain ⟨n, _, rfl⟩ := List.mem_map.mp hd
    intro z
    cases z
def rMaxT (K : PySem.W.Frag) : List V → Hp → VK → Prop := fun vs H Q => ∃ (a : Addr) (n : Int) (ns : List Int), vs = [V.ref a] ∧ SqT K H a ((n :: ns).map V.int) ∧ Q (.int (ns.foldl max n)) H
theorem cr_maxT {X : Cx} {k : Nat} (hr : Room k X.A) : CallR X (.builtin "max") (rMaxT X.K) := by
  intro pins s σ H xs us Q I r h
  obtain ⟨a, n, ns, rfl, hq, q⟩ := h
  obtain ⟨u, rfl, ru⟩ := vals1 r
  cases ru
  obtain ⟨its, rv, p, hz⟩ := I.tuple hq
  have hrd := reads_ints (h := s.heap) (ns := n :: ns) rv
  have hd : PyData.depthAll ((n :: ns).map PyData.int) = 0 := PySem.W.depth_ints (n :: ns)
  refine PySem.W.max_tuple_data (x := .int n) (xs := ns.map PyData.int) (as := []) hr.hd p (by simpa using hrd) (alike_all_ints (n :: ns)) ?_ fun i v h' tk bs _ rd hk => ?_
  · have e : PyData.depthAll (PyData.int n :: ns.map PyData.int) = 0 := hd
    rw [e]
    have := hr.units
    omega
  · rw [PySem.W.maxD_ints] at rd
    cases rd with
    | int _ t => exact ⟨.int (ns.foldl max n), H, I.kept hk, ⟨t, rfl⟩, q⟩
/-! ### sorted of rows with their lengths -/
/-- a row of numbers with its length, as data -/
def rowD (r : List Nat) : PyData := .tuple [.int (r.length : Int), .tuple (r.map fun (n : Nat) => .int (n : Int))]
def rowLe : List Nat → List Nat → Bool := PySem.W.dataLe false rowD
/-- a value is the pair of a row's length and the row -/
def IsRowP (K : PySem.W.Frag) (H : Hp) (v : V) (r : List Nat) : Prop := ∃ p q, v = .ref p ∧ SqT K H p [.int (r.length : Int), .ref q] ∧ SqT K H q (r.map fun (n : Nat) => V.int (n : Int))
theorem alike_rowD (r r' : List Nat) : PySem.W.alike (rowD r) (rowD r') = true := by
  have e : (fun n : Nat => PyData.int (n : Int)) = PyData.int ∘ (fun n : Nat => (n : Int)) := rfl
  unfold rowD
  rw [PySem.W.alike, PySem.W.alikeAll, PySem.W.alikeAll]
  rw [e, ← List.map_map, ← List.map_map]
  simp only [PySem.W.alike, PySem.W.alikeAll, PySem.W.alike_ints, Bool.and_self]
theorem depth_rowD (r : List Nat) : (rowD r).depth ≤ 2 := by
  have e : (fun n : Nat => PyData.int (n : Int)) = PyData.int ∘ (fun n : Nat => (n : Int)) := rfl
  unfold rowD
  rw [e, ← List.map_map]
  simp only [PyData.depth, PyData.depthAll]
  rw [PySem.W.depth_ints]
  decide
theorem reads_row {K : PySem.W.Frag} {X : Cx} {pins : List (Addr × Obj)} {σ : L2.St} {H : Hp} {s : Shared} (I : Inv X pins σ H s) {v : V} {u : Value} {r : List Nat} (ru : RelV v u) (h : IsRowP X.K H v r) : PySem.Reads s.heap u (rowD r) [] := by
  obtain ⟨p, q, rfl, hp, hq⟩ := h
  cases ru
  obtain ⟨its, rv, tp, _⟩ := I.tuple hp
  obtain ⟨its2, rv2, tp2, _⟩ := I.tuple hq
  obtain ⟨u1, u2, rfl, ⟨t1, rfl⟩, r2⟩ := vals2 rv
  cases r2
  obtain ⟨o, ho, hc, n, hd⟩ := tp
  obtain ⟨o2, ho2, hc2, n2, hd2⟩ := tp2
  have e : (r.map fun (n : Nat) => V.int (n : Int)) = (r.map fun (n : Nat) => (n : Int)).map V.int := by rw [List.map_map] <;> rfl
  have e2 : (r.map fun (n : Nat) => PyData.int (n : Int)) = (r.map fun (n : Nat) => (n : Int)).map PyData.int := by rw [List.map_map] <;> rfl
  rw [e] at rv2
  have z := reads_ints (h := s.heap) rv2
  rw [← e2] at z
  have z2 : PySem.Reads s.heap (.ref q) (.tuple (r.map fun (n : Nat) => PyData.int (n : Int))) [] := .tuple ho2 hc2 hd2 (by simpa using z)
  exact .tuple ho hc hd (.cons (as := []) (bs := []) (.int _ _) (.cons (as := []) (bs := []) z2 .nil))
def rSortR (K : PySem.W.Frag) : List V → Hp → VK → Prop := fun vs H Q => ∃ (a : Addr) (xs : List V) (rs : List (List Nat)), vs = [V.ref a] ∧ SqL K H a xs ∧ Paired (IsRowP K H) xs rs ∧
  ∀ (p : Addr) (ys : List V), H p = none → Paired (IsRowP K H) ys (rs.mergeSort rowLe) → Q (.ref p) (upd H p (.lst ys))
theorem eachV {K : PySem.W.Frag} {H : Hp} : ∀ {xs : List V} {us : List Value} {rs : List (List Nat)}, Vals xs us → Paired (IsRowP K H) xs rs → PySem.W.EachIs (fun u r => ∃ x, RelV x u ∧ IsRowP K H x r) us rs
  | _, _, _, .nil, .nil => .nil
  | _, _, _, .cons r t, .cons q w => .cons ⟨_, r, q⟩ (eachV t w)
theorem eachR {K : PySem.W.Frag} {H : Hp} : ∀ {us : List Value} {rs : List (List Nat)}, PySem.W.EachIs (fun u r => ∃ x, RelV x u ∧ IsRowP K H x r) us rs → ∃ xs, Vals xs us ∧ Paired (IsRowP K H) xs rs
  | _, _, .nil => ⟨[], .nil, .nil⟩
  | _, _, .cons ⟨x, r, q⟩ t => by
    obtain ⟨xs, h1, h2⟩ := eachR t
    exact ⟨x :: xs, .cons r h1, .cons q h2⟩
theorem cr_sortR {X : Cx} {k : Nat} (hr : Room k X.A) : CallR X (.builtin "sorted") (rSortR X.K) := by
  intro pins s σ H xs us Q I r h
  obtain ⟨a, xs, rs, rfl, hq, hp, q⟩ := h
  obtain ⟨u, rfl, ru⟩ := vals1 r
  cases ru
  obtain ⟨its, rv, p, hz⟩ := I.list hq
  have e := eachV rv hp
  have hlen := e.length
  have hlr := rv.length
  refine PySem.W.sorted_data (enc := rowD) (bs := rs) p.isList e (e.mono fun u r ⟨x, r1, q1⟩ => ⟨[], reads_row (K := X.K) I r1 q1⟩) (PySem.W.AllAlike.of alike_rowD) (PySem.W.Sortable.tuples fun b => ⟨_, _, rfl⟩) (by omega) (fun b _ => ?_) fun out ho eo => ?_
  · have := hr.units
    have := depth_rowD b
    omega
  · obtain ⟨ys, h1, h2⟩ := eachR eo
    have hfr : H (s.heap.objs.size + 1) = none := I.hok.fresh (Nat.le_succ _)
    have hly := h1.length
    refine ⟨.ref _, _, I.laid (t' := s.toks) (a := s.heap.objs.size + 1) (o := .lst ys) (h' := PyProof.Rows.sortedAll s.heap its (List.toArray out)) (fun b ob e => PyProof.Rows.sortedAll_old e) (Nat.le_succ _) ?_, rfl, q _ ys hfr h2⟩
    obtain ⟨c, hc⟩ := PyProof.Rows.sortedAll_at (h := s.heap) (vs := its) (out := List.toArray out)
    exact ⟨by omega, out, c, h1, hc⟩
end R25

set_option Elab.async false
set_option linter.all false
set_option maxRecDepth 100000
namespace R25
open PySem L2
/-- what the head tells: of the written part K, at a heap, with the module's names mg -/
structure Txt (K : PySem.W.Frag) (mg : Str → Option Value) : Prop where
  at_ : ∃ h : Heap, K.In h ∧ h.Ns mainGlobals mg
  says : He.SaysD fa fn K
  more : ex K = true
section
variable {K : PySem.W.Frag} {mg : Str → Option Value}
theorem Txt.mgo (T : Txt K mg) {x : Str} (c : (He.Fa.glo x).ok K = true) : mg x = some (.ref (He.ga K x)) := let ⟨_, X, G⟩ := T.at_; He.glo_ok X G c
theorem Txt.mno (T : Txt K mg) {x : Str} (c : (He.Fa.free x).ok K = true) : mg x = none := let ⟨_, X, G⟩ := T.at_; He.free_ok X G c
theorem Txt.mint (T : Txt K mg) {x : Str} {i : Int} (c : (He.Fa.int x i).ok K = true) : ∃ t, mg x = some (.int i t) := let ⟨_, X, G⟩ := T.at_; He.int_ok X G c
theorem Txt.g_is_integer (T : Txt K mg) : mg "is_integer" = some (.ref (He.ga K "is_integer")) := T.mgo (T.says.fact 0 (f := .glo "is_integer") rfl)
theorem Txt.g_common (T : Txt K mg) : mg "common" = some (.ref (He.ga K "common")) := T.mgo (T.says.fact 1 (f := .glo "common") rfl)
theorem Txt.g_exact (T : Txt K mg) : mg "exact" = some (.ref (He.ga K "exact")) := T.mgo (T.says.fact 2 (f := .glo "exact") rfl)
theorem Txt.g_is_fraction (T : Txt K mg) : mg "is_fraction" = some (.ref (He.ga K "is_fraction")) := T.mgo (T.says.fact 3 (f := .glo "is_fraction") rfl)
theorem Txt.g_is_amount (T : Txt K mg) : mg "is_amount" = some (.ref (He.ga K "is_amount")) := T.mgo (T.says.fact 4 (f := .glo "is_amount") rfl)
theorem Txt.g_is_some (T : Txt K mg) : mg "is_some" = some (.ref (He.ga K "is_some")) := T.mgo (T.says.fact 5 (f := .glo "is_some") rfl)
theorem Txt.g_is_ware_below (T : Txt K mg) : mg "is_ware_below" = some (.ref (He.ga K "is_ware_below")) := T.mgo (T.says.fact 6 (f := .glo "is_ware_below") rfl)
theorem Txt.g_is_stall (T : Txt K mg) : mg "is_stall" = some (.ref (He.ga K "is_stall")) := T.mgo (T.says.fact 7 (f := .glo "is_stall") rfl)
theorem Txt.g_is_amounts (T : Txt K mg) : mg "is_amounts" = some (.ref (He.ga K "is_amounts")) := T.mgo (T.says.fact 8 (f := .glo "is_amounts") rfl)
theorem Txt.g_check_purse (T : Txt K mg) : mg "check_purse" = some (.ref (He.ga K "check_purse")) := T.mgo (T.says.fact 9 (f := .glo "check_purse") rfl)
theorem Txt.g_check_wish (T : Txt K mg) : mg "check_wish" = some (.ref (He.ga K "check_wish")) := T.mgo (T.says.fact 10 (f := .glo "check_wish") rfl)
theorem Txt.g_empty (T : Txt K mg) : mg "empty" = some (.ref (He.ga K "empty")) := T.mgo (T.says.fact 11 (f := .glo "empty") rfl)
theorem Txt.g_held_exact (T : Txt K mg) : mg "held_exact" = some (.ref (He.ga K "held_exact")) := T.mgo (T.says.fact 12 (f := .glo "held_exact") rfl)
theorem Txt.g_roots_exact (T : Txt K mg) : mg "roots_exact" = some (.ref (He.ga K "roots_exact")) := T.mgo (T.says.fact 13 (f := .glo "roots_exact") rfl)
theorem Txt.g_table_of (T : Txt K mg) : mg "table_of" = some (.ref (He.ga K "table_of")) := T.mgo (T.says.fact 14 (f := .glo "table_of") rfl)
theorem Txt.g_scales_of (T : Txt K mg) : mg "scales_of" = some (.ref (He.ga K "scales_of")) := T.mgo (T.says.fact 15 (f := .glo "scales_of") rfl)
theorem Txt.g_scales (T : Txt K mg) : mg "scales" = some (.ref (He.ga K "scales")) := T.mgo (T.says.fact 16 (f := .glo "scales") rfl)
theorem Txt.g_all_tuples (T : Txt K mg) : mg "all_tuples" = some (.ref (He.ga K "all_tuples")) := T.mgo (T.says.fact 17 (f := .glo "all_tuples") rfl)
theorem Txt.g_is_struck (T : Txt K mg) : mg "is_struck" = some (.ref (He.ga K "is_struck")) := T.mgo (T.says.fact 18 (f := .glo "is_struck") rfl)
theorem Txt.g_table_among (T : Txt K mg) : mg "table_among" = some (.ref (He.ga K "table_among")) := T.mgo (T.says.fact 19 (f := .glo "table_among") rfl)
theorem Txt.g_least_wares (T : Txt K mg) : mg "least_wares" = some (.ref (He.ga K "least_wares")) := T.mgo (T.says.fact 20 (f := .glo "least_wares") rfl)
theorem Txt.g_is_met_by (T : Txt K mg) : mg "is_met_by" = some (.ref (He.ga K "is_met_by")) := T.mgo (T.says.fact 21 (f := .glo "is_met_by") rfl)
theorem Txt.g_fewest_stalls (T : Txt K mg) : mg "fewest_stalls" = some (.ref (He.ga K "fewest_stalls")) := T.mgo (T.says.fact 22 (f := .glo "fewest_stalls") rfl)
theorem Txt.g_needed (T : Txt K mg) : mg "needed" = some (.ref (He.ga K "needed")) := T.mgo (T.says.fact 23 (f := .glo "needed") rfl)
theorem Txt.g_law_deck (T : Txt K mg) : mg "_law_deck" = some (.ref (He.ga K "_law_deck")) := T.mgo (T.says.fact 24 (f := .glo "_law_deck") rfl)
theorem Txt.g_law_pick (T : Txt K mg) : mg "_law_pick" = some (.ref (He.ga K "_law_pick")) := T.mgo (T.says.fact 25 (f := .glo "_law_pick") rfl)
theorem Txt.g_law_fold (T : Txt K mg) : mg "_law_fold" = some (.ref (He.ga K "_law_fold")) := T.mgo (T.says.fact 26 (f := .glo "_law_fold") rfl)
theorem Txt.g_law_divisor (T : Txt K mg) : mg "_law_divisor" = some (.ref (He.ga K "_law_divisor")) := T.mgo (T.says.fact 27 (f := .glo "_law_divisor") rfl)
theorem Txt.g_law_made (T : Txt K mg) : mg "_law_made" = some (.ref (He.ga K "_law_made")) := T.mgo (T.says.fact 28 (f := .glo "_law_made") rfl)
theorem Txt.g_law_added (T : Txt K mg) : mg "_law_added" = some (.ref (He.ga K "_law_added")) := T.mgo (T.says.fact 29 (f := .glo "_law_added") rfl)
theorem Txt.g_law_taken (T : Txt K mg) : mg "_law_taken" = some (.ref (He.ga K "_law_taken")) := T.mgo (T.says.fact 30 (f := .glo "_law_taken") rfl)
theorem Txt.g_law_product (T : Txt K mg) : mg "_law_product" = some (.ref (He.ga K "_law_product")) := T.mgo (T.says.fact 31 (f := .glo "_law_product") rfl)
theorem Txt.g_law_amount (T : Txt K mg) : mg "_law_amount" = some (.ref (He.ga K "_law_amount")) := T.mgo (T.says.fact 32 (f := .glo "_law_amount") rfl)
theorem Txt.g_law_stall (T : Txt K mg) : mg "_law_stall" = some (.ref (He.ga K "_law_stall")) := T.mgo (T.says.fact 33 (f := .glo "_law_stall") rfl)
theorem Txt.g_law_edge (T : Txt K mg) : mg "_law_edge" = some (.ref (He.ga K "_law_edge")) := T.mgo (T.says.fact 34 (f := .glo "_law_edge") rfl)
theorem Txt.g_law_table (T : Txt K mg) : mg "_law_table" = some (.ref (He.ga K "_law_table")) := T.mgo (T.says.fact 35 (f := .glo "_law_table") rfl)
theorem Txt.g_law_can_be_struck (T : Txt K mg) : mg "_law_can_be_struck" = some (.ref (He.ga K "_law_can_be_struck")) := T.mgo (T.says.fact 36 (f := .glo "_law_can_be_struck") rfl)
theorem Txt.g_law_some (T : Txt K mg) : mg "_law_some" = some (.ref (He.ga K "_law_some")) := T.mgo (T.says.fact 37 (f := .glo "_law_some") rfl)
theorem Txt.g_law_is_met (T : Txt K mg) : mg "_law_is_met" = some (.ref (He.ga K "_law_is_met")) := T.mgo (T.says.fact 38 (f := .glo "_law_is_met") rfl)
theorem Txt.g_law_wares_due (T : Txt K mg) : mg "_law_wares_due" = some (.ref (He.ga K "_law_wares_due")) := T.mgo (T.says.fact 39 (f := .glo "_law_wares_due") rfl)
theorem Txt.g_law_stalls_due (T : Txt K mg) : mg "_law_stalls_due" = some (.ref (He.ga K "_law_stalls_due")) := T.mgo (T.says.fact 40 (f := .glo "_law_stalls_due") rfl)
theorem Txt.g_law_needed_due (T : Txt K mg) : mg "_law_needed_due" = some (.ref (He.ga K "_law_needed_due")) := T.mgo (T.says.fact 41 (f := .glo "_law_needed_due") rfl)
theorem Txt.g_law_is_told (T : Txt K mg) : mg "_law_is_told" = some (.ref (He.ga K "_law_is_told")) := T.mgo (T.says.fact 42 (f := .glo "_law_is_told") rfl)
theorem Txt.g_law_is_barred (T : Txt K mg) : mg "_law_is_barred" = some (.ref (He.ga K "_law_is_barred")) := T.mgo (T.says.fact 43 (f := .glo "_law_is_barred") rfl)
theorem Txt.g_law_is_well (T : Txt K mg) : mg "_law_is_well" = some (.ref (He.ga K "_law_is_well")) := T.mgo (T.says.fact 44 (f := .glo "_law_is_well") rfl)
theorem Txt.g_law_word (T : Txt K mg) : mg "_law_word" = some (.ref (He.ga K "_law_word")) := T.mgo (T.says.fact 45 (f := .glo "_law_word") rfl)
theorem Txt.g_law (T : Txt K mg) : mg "law" = some (.ref (He.ga K "law")) := T.mgo (T.says.fact 46 (f := .glo "law") rfl)
theorem Txt.g_Exact (T : Txt K mg) : mg "Exact" = some (.ref (He.ga K "Exact")) := T.mgo (T.says.fact 47 (f := .glo "Exact") rfl)
theorem Txt.c_Exact (T : Txt K mg) : Cls K (He.ga K "Exact") := He.cls_ok (T.says.fact 48 (f := .cls "Exact") rfl)
theorem Txt.k_Exact (T : Txt K mg) : Mk K (He.ga K "Exact") (He.ma K (He.ga K "Exact") "__init__") := He.mkr_ok (T.says.fact 49 (f := .mkr "Exact") rfl)
theorem Txt.g_Web (T : Txt K mg) : mg "Web" = some (.ref (He.ga K "Web")) := T.mgo (T.says.fact 50 (f := .glo "Web") rfl)
theorem Txt.c_Web (T : Txt K mg) : Cls K (He.ga K "Web") := He.cls_ok (T.says.fact 51 (f := .cls "Web") rfl)
theorem Txt.k_Web (T : Txt K mg) : Mk K (He.ga K "Web") (He.ma K (He.ga K "Web") "__init__") := He.mkr_ok (T.says.fact 52 (f := .mkr "Web") rfl)
theorem Txt.g_Table (T : Txt K mg) : mg "Table" = some (.ref (He.ga K "Table")) := T.mgo (T.says.fact 53 (f := .glo "Table") rfl)
theorem Txt.c_Table (T : Txt K mg) : Cls K (He.ga K "Table") := He.cls_ok (T.says.fact 54 (f := .cls "Table") rfl)
theorem Txt.k_Table (T : Txt K mg) : Mk K (He.ga K "Table") (He.ma K (He.ga K "Table") "__init__") := He.mkr_ok (T.says.fact 55 (f := .mkr "Table") rfl)
theorem Txt.n_top (T : Txt K mg) : NoAttr K (He.ga K "Exact") "top" := He.noat_ok (T.says.fact 56 (f := .noat "Exact" "top") rfl)
theorem Txt.n_bottom (T : Txt K mg) : NoAttr K (He.ga K "Exact") "bottom" := He.noat_ok (T.says.fact 57 (f := .noat "Exact" "bottom") rfl)
theorem Txt.n_wares (T : Txt K mg) : NoAttr K (He.ga K "Web") "wares" := He.noat_ok (T.says.fact 58 (f := .noat "Web" "wares") rfl)
theorem Txt.n_stalls (T : Txt K mg) : NoAttr K (He.ga K "Web") "stalls" := He.noat_ok (T.says.fact 59 (f := .noat "Web" "stalls") rfl)
theorem Txt.n_slants (T : Txt K mg) : NoAttr K (He.ga K "Table") "slants" := He.noat_ok (T.says.fact 60 (f := .noat "Table" "slants") rfl)
theorem Txt.n_beside (T : Txt K mg) : NoAttr K (He.ga K "Table") "beside" := He.noat_ok (T.says.fact 61 (f := .noat "Table" "beside") rfl)
theorem Txt.n_gone (T : Txt K mg) : NoAttr K (He.ga K "Table") "gone" := He.noat_ok (T.says.fact 62 (f := .noat "Table" "gone") rfl)
theorem Txt.m_Exact_add (T : Txt K mg) : Meth K (He.ga K "Exact") "__add__" (He.ma K (He.ga K "Exact") "__add__") := He.meth_ok (T.says.fact 63 (f := .meth "Exact" "__add__") rfl)
theorem Txt.m_Exact_sub (T : Txt K mg) : Meth K (He.ga K "Exact") "__sub__" (He.ma K (He.ga K "Exact") "__sub__") := He.meth_ok (T.says.fact 64 (f := .meth "Exact" "__sub__") rfl)
theorem Txt.m_Exact_mul (T : Txt K mg) : Meth K (He.ga K "Exact") "__mul__" (He.ma K (He.ga K "Exact") "__mul__") := He.meth_ok (T.says.fact 65 (f := .meth "Exact" "__mul__") rfl)
theorem Txt.m_Exact_eq (T : Txt K mg) : Meth K (He.ga K "Exact") "__eq__" (He.ma K (He.ga K "Exact") "__eq__") := He.meth_ok (T.says.fact 66 (f := .meth "Exact" "__eq__") rfl)
theorem Txt.m_Exact_over (T : Txt K mg) : Meth K (He.ga K "Exact") "over" (He.ma K (He.ga K "Exact") "over") := He.meth_ok (T.says.fact 67 (f := .meth "Exact" "over") rfl)
theorem Txt.m_Exact_sign (T : Txt K mg) : Meth K (He.ga K "Exact") "sign" (He.ma K (He.ga K "Exact") "sign") := He.meth_ok (T.says.fact 68 (f := .meth "Exact" "sign") rfl)
theorem Txt.m_Exact_square (T : Txt K mg) : Meth K (He.ga K "Exact") "square" (He.ma K (He.ga K "Exact") "square") := He.meth_ok (T.says.fact 69 (f := .meth "Exact" "square") rfl)
theorem Txt.m_Exact_pair (T : Txt K mg) : Meth K (He.ga K "Exact") "pair" (He.ma K (He.ga K "Exact") "pair") := He.meth_ok (T.says.fact 70 (f := .meth "Exact" "pair") rfl)
theorem Txt.m_Table_is_wrong (T : Txt K mg) : Meth K (He.ga K "Table") "is_wrong" (He.ma K (He.ga K "Table") "is_wrong") := He.meth_ok (T.says.fact 71 (f := .meth "Table" "is_wrong") rfl)
theorem Txt.m_Table_raise_root (T : Txt K mg) : Meth K (He.ga K "Table") "raise_root" (He.ma K (He.ga K "Table") "raise_root") := He.meth_ok (T.says.fact 72 (f := .meth "Table" "raise_root") rfl)
theorem Txt.m_Table_strike (T : Txt K mg) : Meth K (He.ga K "Table") "strike" (He.ma K (He.ga K "Table") "strike") := He.meth_ok (T.says.fact 73 (f := .meth "Table" "strike") rfl)
theorem Txt.m_Table_strike_all (T : Txt K mg) : Meth K (He.ga K "Table") "strike_all" (He.ma K (He.ga K "Table") "strike_all") := He.meth_ok (T.says.fact 74 (f := .meth "Table" "strike_all") rfl)
theorem Txt.m_Table_go_back (T : Txt K mg) : Meth K (He.ga K "Table") "go_back" (He.ma K (He.ga K "Table") "go_back") := He.meth_ok (T.says.fact 75 (f := .meth "Table" "go_back") rfl)
theorem Txt.g_StallError (T : Txt K mg) : mg "StallError" = some (.ref (He.ga K "StallError")) := T.mgo (T.says.fact 76 (f := .glo "StallError") rfl)
theorem Txt.g_BadWares (T : Txt K mg) : mg "BadWares" = some (.ref (He.ga K "BadWares")) := T.mgo (T.says.fact 77 (f := .glo "BadWares") rfl)
theorem Txt.g_BadStall (T : Txt K mg) : mg "BadStall" = some (.ref (He.ga K "BadStall")) := T.mgo (T.says.fact 78 (f := .glo "BadStall") rfl)
theorem Txt.g_BadPurse (T : Txt K mg) : mg "BadPurse" = some (.ref (He.ga K "BadPurse")) := T.mgo (T.says.fact 79 (f := .glo "BadPurse") rfl)
theorem Txt.g_BadWish (T : Txt K mg) : mg "BadWish" = some (.ref (He.ga K "BadWish")) := T.mgo (T.says.fact 80 (f := .glo "BadWish") rfl)
theorem Txt.i_MOST_WARES (T : Txt K mg) : ∃ t, mg "MOST_WARES" = some (.int 8 t) := T.mint (T.says.fact 81 (f := .int "MOST_WARES" 8) rfl)
theorem Txt.i_MOST_STALLS (T : Txt K mg) : ∃ t, mg "MOST_STALLS" = some (.int 16 t) := T.mint (T.says.fact 82 (f := .int "MOST_STALLS" 16) rfl)
theorem Txt.b_isinstance (T : Txt K mg) : mg "isinstance" = none := T.mno (T.says.fact 83 (f := .free "isinstance") rfl)
theorem Txt.b_int (T : Txt K mg) : mg "int" = none := T.mno (T.says.fact 84 (f := .free "int") rfl)
theorem Txt.b_bool (T : Txt K mg) : mg "bool" = none := T.mno (T.says.fact 85 (f := .free "bool") rfl)
theorem Txt.b_abs (T : Txt K mg) : mg "abs" = none := T.mno (T.says.fact 86 (f := .free "abs") rfl)
theorem Txt.b_tuple (T : Txt K mg) : mg "tuple" = none := T.mno (T.says.fact 87 (f := .free "tuple") rfl)
theorem Txt.b_len (T : Txt K mg) : mg "len" = none := T.mno (T.says.fact 88 (f := .free "len") rfl)
theorem Txt.b_all (T : Txt K mg) : mg "all" = none := T.mno (T.says.fact 89 (f := .free "all") rfl)
theorem Txt.b_list (T : Txt K mg) : mg "list" = none := T.mno (T.says.fact 90 (f := .free "list") rfl)
theorem Txt.b_zip (T : Txt K mg) : mg "zip" = none := T.mno (T.says.fact 91 (f := .free "zip") rfl)
theorem Txt.b_range (T : Txt K mg) : mg "range" = none := T.mno (T.says.fact 92 (f := .free "range") rfl)
theorem Txt.b_dict (T : Txt K mg) : mg "dict" = none := T.mno (T.says.fact 93 (f := .free "dict") rfl)
theorem Txt.b_sorted (T : Txt K mg) : mg "sorted" = none := T.mno (T.says.fact 94 (f := .free "sorted") rfl)
theorem Txt.b_enumerate (T : Txt K mg) : mg "enumerate" = none := T.mno (T.says.fact 95 (f := .free "enumerate") rfl)
theorem Txt.b_any (T : Txt K mg) : mg "any" = none := T.mno (T.says.fact 96 (f := .free "any") rfl)
theorem Txt.b_max (T : Txt K mg) : mg "max" = none := T.mno (T.says.fact 97 (f := .free "max") rfl)
theorem Txt.x_BadPurse_BadPurse (T : Txt K mg) : PySem.W.exmOne K (.ref (He.ga K "BadPurse")) (.ref (He.ga K "BadPurse")) = some true := He.exm_ok (T.says.fact 98 (f := .exm "BadPurse" "BadPurse" true) rfl)
theorem Txt.x_BadWish_BadPurse (T : Txt K mg) : PySem.W.exmOne K (.ref (He.ga K "BadWish")) (.ref (He.ga K "BadPurse")) = some false := He.exm_ok (T.says.fact 99 (f := .exm "BadWish" "BadPurse" false) rfl)
theorem Txt.x_BadWish_BadWish (T : Txt K mg) : PySem.W.exmOne K (.ref (He.ga K "BadWish")) (.ref (He.ga K "BadWish")) = some true := He.exm_ok (T.says.fact 100 (f := .exm "BadWish" "BadWish" true) rfl)
theorem Txt.e_BadPurse (T : Txt K mg) : PySem.W.excIn K (He.ga K "BadPurse") He.veBase "ValueError.__new__" = true ∧ PySem.W.keepIn K (.ref (He.ga K "BadPurse")) = true ∧ PySem.W.subIn K (.ref (He.ga K "BadPurse")) (.type "BaseException") = some true ∧ PySem.W.typeIn K (.ref (He.ga K "BadPurse")) = some (.type "type") := He.exc_ok (T.says.fact 103 (f := .exc "BadPurse") rfl)
theorem Txt.e_BadWish (T : Txt K mg) : PySem.W.excIn K (He.ga K "BadWish") He.veBase "ValueError.__new__" = true ∧ PySem.W.keepIn K (.ref (He.ga K "BadWish")) = true ∧ PySem.W.subIn K (.ref (He.ga K "BadWish")) (.type "BaseException") = some true ∧ PySem.W.typeIn K (.ref (He.ga K "BadWish")) = some (.type "type") := He.exc_ok (T.says.fact 104 (f := .exc "BadWish") rfl)
theorem Txt.f_is_integer (T : Txt K mg) : ∃ fd, Fun K "is_integer" "is_integer" s_is_integer (He.ga K "is_integer") fd := let ⟨fd, F⟩ := T.says.def_ 0 (d := d_is_integer) rfl; ⟨fd, He5.fun_of F⟩
theorem Txt.f_common (T : Txt K mg) : ∃ fd, Fun K "common" "common" s_common (He.ga K "common") fd := let ⟨fd, F⟩ := T.says.def_ 1 (d := d_common) rfl; ⟨fd, He5.fun_of F⟩
theorem Txt.f_Exact_init (T : Txt K mg) : ∃ fd, Fun K "__init__" "Exact.__init__" s_Exact_init (He.ma K (He.ga K "Exact") "__init__") fd := let ⟨fd, F⟩ := T.says.def_ 2 (d := d_Exact_init) rfl; ⟨fd, He5.fun_of F⟩
theorem Txt.f_Exact_add (T : Txt K mg) : ∃ fd, Fun K "__add__" "Exact.__add__" s_Exact_add (He.ma K (He.ga K "Exact") "__add__") fd := let ⟨fd, F⟩ := T.says.def_ 3 (d := d_Exact_add) rfl; ⟨fd, He5.fun_of F⟩
theorem Txt.f_Exact_sub (T : Txt K mg) : ∃ fd, Fun K "__sub__" "Exact.__sub__" s_Exact_sub (He.ma K (He.ga K "Exact") "__sub__") fd := let ⟨fd, F⟩ := T.says.def_ 4 (d := d_Exact_sub) rfl; ⟨fd, He5.fun_of F⟩
theorem Txt.f_Exact_mul (T : Txt K mg) : ∃ fd, Fun K "__mul__" "Exact.__mul__" s_Exact_mul (He.ma K (He.ga K "Exact") "__mul__") fd := let ⟨fd, F⟩ := T.says.def_ 5 (d := d_Exact_mul) rfl; ⟨fd, He5.fun_of F⟩
theorem Txt.f_Exact_eq (T : Txt K mg) : ∃ fd, Fun K "__eq__" "Exact.__eq__" s_Exact_eq (He.ma K (He.ga K "Exact") "__eq__") fd := let ⟨fd, F⟩ := T.says.def_ 6 (d := d_Exact_eq) rfl; ⟨fd, He5.fun_of F⟩
theorem Txt.f_Exact_over (T : Txt K mg) : ∃ fd, Fun K "over" "Exact.over" s_Exact_over (He.ma K (He.ga K "Exact") "over") fd := let ⟨fd, F⟩ := T.says.def_ 7 (d := d_Exact_over) rfl; ⟨fd, He5.fun_of F⟩
theorem Txt.f_Exact_sign (T : Txt K mg) : ∃ fd, Fun K "sign" "Exact.sign" s_Exact_sign (He.ma K (He.ga K "Exact") "sign") fd := let ⟨fd, F⟩ := T.says.def_ 8 (d := d_Exact_sign) rfl; ⟨fd, He5.fun_of F⟩
theorem Txt.f_Exact_square (T : Txt K mg) : ∃ fd, Fun K "square" "Exact.square" s_Exact_square (He.ma K (He.ga K "Exact") "square") fd := let ⟨fd, F⟩ := T.says.def_ 9 (d := d_Exact_square) rfl; ⟨fd, He5.fun_of F⟩
theorem Txt.f_Exact_pair (T : Txt K mg) : ∃ fd, Fun K "pair" "Exact.pair" s_Exact_pair (He.ma K (He.ga K "Exact") "pair") fd := let ⟨fd, F⟩ := T.says.def_ 10 (d := d_Exact_pair) rfl; ⟨fd, He5.fun_of F⟩
theorem Txt.f_exact (T : Txt K mg) : ∃ fd, Fun K "exact" "exact" s_exact (He.ga K "exact") fd := let ⟨fd, F⟩ := T.says.def_ 11 (d := d_exact) rfl; ⟨fd, He5.fun_of F⟩
theorem Txt.f_is_fraction (T : Txt K mg) : ∃ fd, Fun K "is_fraction" "is_fraction" s_is_fraction (He.ga K "is_fraction") fd := let ⟨fd, F⟩ := T.says.def_ 12 (d := d_is_fraction) rfl; ⟨fd, He5.fun_of F⟩
theorem Txt.f_is_amount (T : Txt K mg) : ∃ fd, Fun K "is_amount" "is_amount" s_is_amount (He.ga K "is_amount") fd := let ⟨fd, F⟩ := T.says.def_ 13 (d := d_is_amount) rfl; ⟨fd, He5.fun_of F⟩
theorem Txt.f_is_some (T : Txt K mg) : ∃ fd, Fun K "is_some" "is_some" s_is_some (He.ga K "is_some") fd := let ⟨fd, F⟩ := T.says.def_ 14 (d := d_is_some) rfl; ⟨fd, He5.fun_of F⟩
theorem Txt.f_is_ware_below (T : Txt K mg) : ∃ fd, Fun K "is_ware_below" "is_ware_below" s_is_ware_below (He.ga K "is_ware_below") fd := let ⟨fd, F⟩ := T.says.def_ 15 (d := d_is_ware_below) rfl; ⟨fd, He5.fun_of F⟩
theorem Txt.f_is_stall (T : Txt K mg) : ∃ fd, Fun K "is_stall" "is_stall" s_is_stall (He.ga K "is_stall") fd := let ⟨fd, F⟩ := T.says.def_ 16 (d := d_is_stall) rfl; ⟨fd, He5.fun_of F⟩
theorem Txt.f_Web_init (T : Txt K mg) : ∃ fd, Fun K "__init__" "Web.__init__" s_Web_init (He.ma K (He.ga K "Web") "__init__") fd := let ⟨fd, F⟩ := T.says.def_ 17 (d := d_Web_init) rfl; ⟨fd, He5.fun_of F⟩
theorem Txt.f_is_amounts (T : Txt K mg) : ∃ fd, Fun K "is_amounts" "is_amounts" s_is_amounts (He.ga K "is_amounts") fd := let ⟨fd, F⟩ := T.says.def_ 18 (d := d_is_amounts) rfl; ⟨fd, He5.fun_of F⟩
theorem Txt.f_check_purse (T : Txt K mg) : ∃ fd, Fun K "check_purse" "check_purse" s_check_purse (He.ga K "check_purse") fd := let ⟨fd, F⟩ := T.says.def_ 19 (d := d_check_purse) rfl; ⟨fd, He5.fun_of F⟩
theorem Txt.f_check_wish (T : Txt K mg) : ∃ fd, Fun K "check_wish" "check_wish" s_check_wish (He.ga K "check_wish") fd := let ⟨fd, F⟩ := T.says.def_ 20 (d := d_check_wish) rfl; ⟨fd, He5.fun_of F⟩
theorem Txt.f_empty (T : Txt K mg) : ∃ fd, Fun K "empty" "empty" s_empty (He.ga K "empty") fd := let ⟨fd, F⟩ := T.says.def_ 21 (d := d_empty) rfl; ⟨fd, He5.fun_of F⟩
theorem Txt.f_held_exact (T : Txt K mg) : ∃ fd, Fun K "held_exact" "held_exact" s_held_exact (He.ga K "held_exact") fd := let ⟨fd, F⟩ := T.says.def_ 22 (d := d_held_exact) rfl; ⟨fd, He5.fun_of F⟩
theorem Txt.f_roots_exact (T : Txt K mg) : ∃ fd, Fun K "roots_exact" "roots_exact" s_roots_exact (He.ga K "roots_exact") fd := let ⟨fd, F⟩ := T.says.def_ 23 (d := d_roots_exact) rfl; ⟨fd, He5.fun_of F⟩
theorem Txt.f_Table_init (T : Txt K mg) : ∃ fd, Fun K "__init__" "Table.__init__" s_Table_init (He.ma K (He.ga K "Table") "__init__") fd := let ⟨fd, F⟩ := T.says.def_ 24 (d := d_Table_init) rfl; ⟨fd, He5.fun_of F⟩
theorem Txt.f_Table_is_wrong (T : Txt K mg) : ∃ fd, Fun K "is_wrong" "Table.is_wrong" s_Table_is_wrong (He.ma K (He.ga K "Table") "is_wrong") fd := let ⟨fd, F⟩ := T.says.def_ 25 (d := d_Table_is_wrong) rfl; ⟨fd, He5.fun_of F⟩
theorem Txt.f_Table_raise_root (T : Txt K mg) : ∃ fd, Fun K "raise_root" "Table.raise_root" s_Table_raise_root (He.ma K (He.ga K "Table") "raise_root") fd := let ⟨fd, F⟩ := T.says.def_ 26 (d := d_Table_raise_root) rfl; ⟨fd, He5.fun_of F⟩
theorem Txt.f_Table_strike (T : Txt K mg) : ∃ fd, Fun K "strike" "Table.strike" s_Table_strike (He.ma K (He.ga K "Table") "strike") fd := let ⟨fd, F⟩ := T.says.def_ 27 (d := d_Table_strike) rfl; ⟨fd, He5.fun_of F⟩
theorem Txt.f_Table_strike_all (T : Txt K mg) : ∃ fd, Fun K "strike_all" "Table.strike_all" s_Table_strike_all (He.ma K (He.ga K "Table") "strike_all") fd := let ⟨fd, F⟩ := T.says.def_ 28 (d := d_Table_strike_all) rfl; ⟨fd, He5.fun_of F⟩
theorem Txt.f_Table_go_back (T : Txt K mg) : ∃ fd, Fun K "go_back" "Table.go_back" s_Table_go_back (He.ma K (He.ga K "Table") "go_back") fd := let ⟨fd, F⟩ := T.says.def_ 29 (d := d_Table_go_back) rfl; ⟨fd, He5.fun_of F⟩
theorem Txt.f_table_of (T : Txt K mg) : ∃ fd, Fun K "table_of" "table_of" s_table_of (He.ga K "table_of") fd := let ⟨fd, F⟩ := T.says.def_ 30 (d := d_table_of) rfl; ⟨fd, He5.fun_of F⟩
theorem Txt.f_scales_of (T : Txt K mg) : ∃ fd, Fun K "scales_of" "scales_of" s_scales_of (He.ga K "scales_of") fd := let ⟨fd, F⟩ := T.says.def_ 31 (d := d_scales_of) rfl; ⟨fd, He5.fun_of F⟩
theorem Txt.f_scales (T : Txt K mg) : ∃ fd, Fun K "scales" "scales" s_scales (He.ga K "scales") fd := let ⟨fd, F⟩ := T.says.def_ 32 (d := d_scales) rfl; ⟨fd, He5.fun_of F⟩
theorem Txt.f_all_tuples (T : Txt K mg) : ∃ fd, Fun K "all_tuples" "all_tuples" s_all_tuples (He.ga K "all_tuples") fd := let ⟨fd, F⟩ := T.says.def_ 33 (d := d_all_tuples) rfl; ⟨fd, He5.fun_of F⟩
theorem Txt.f_is_struck (T : Txt K mg) : ∃ fd, Fun K "is_struck" "is_struck" s_is_struck (He.ga K "is_struck") fd := let ⟨fd, F⟩ := T.says.def_ 34 (d := d_is_struck) rfl; ⟨fd, He5.fun_of F⟩
theorem Txt.f_table_among (T : Txt K mg) : ∃ fd, Fun K "table_among" "table_among" s_table_among (He.ga K "table_among") fd := let ⟨fd, F⟩ := T.says.def_ 35 (d := d_table_among) rfl; ⟨fd, He5.fun_of F⟩
theorem Txt.f_least_wares (T : Txt K mg) : ∃ fd, Fun K "least_wares" "least_wares" s_least_wares (He.ga K "least_wares") fd := let ⟨fd, F⟩ := T.says.def_ 36 (d := d_least_wares) rfl; ⟨fd, He5.fun_of F⟩
theorem Txt.f_is_met_by (T : Txt K mg) : ∃ fd, Fun K "is_met_by" "is_met_by" s_is_met_by (He.ga K "is_met_by") fd := let ⟨fd, F⟩ := T.says.def_ 37 (d := d_is_met_by) rfl; ⟨fd, He5.fun_of F⟩
theorem Txt.f_fewest_stalls (T : Txt K mg) : ∃ fd, Fun K "fewest_stalls" "fewest_stalls" s_fewest_stalls (He.ga K "fewest_stalls") fd := let ⟨fd, F⟩ := T.says.def_ 38 (d := d_fewest_stalls) rfl; ⟨fd, He5.fun_of F⟩
theorem Txt.f_needed (T : Txt K mg) : ∃ fd, Fun K "needed" "needed" s_needed (He.ga K "needed") fd := let ⟨fd, F⟩ := T.says.def_ 39 (d := d_needed) rfl; ⟨fd, He5.fun_of F⟩
theorem Txt.f_law_deck (T : Txt K mg) : ∃ fd, Fun K "_law_deck" "_law_deck" s_law_deck (He.ga K "_law_deck") fd := let ⟨fd, F⟩ := T.says.def_ 40 (d := d_law_deck) rfl; ⟨fd, He5.fun_of F⟩
theorem Txt.f_law_pick (T : Txt K mg) : ∃ fd, Fun K "_law_pick" "_law_pick" s_law_pick (He.ga K "_law_pick") fd := let ⟨fd, F⟩ := T.says.def_ 41 (d := d_law_pick) rfl; ⟨fd, He5.fun_of F⟩
theorem Txt.f_law_fold (T : Txt K mg) : ∃ fd, Fun K "_law_fold" "_law_fold" s_law_fold (He.ga K "_law_fold") fd := let ⟨fd, F⟩ := T.says.def_ 42 (d := d_law_fold) rfl; ⟨fd, He5.fun_of F⟩
theorem Txt.f_law_divisor (T : Txt K mg) : ∃ fd, Fun K "_law_divisor" "_law_divisor" s_law_divisor (He.ga K "_law_divisor") fd := let ⟨fd, F⟩ := T.says.def_ 43 (d := d_law_divisor) rfl; ⟨fd, He5.fun_of F⟩
theorem Txt.f_law_made (T : Txt K mg) : ∃ fd, Fun K "_law_made" "_law_made" s_law_made (He.ga K "_law_made") fd := let ⟨fd, F⟩ := T.says.def_ 44 (d := d_law_made) rfl; ⟨fd, He5.fun_of F⟩
theorem Txt.f_law_added (T : Txt K mg) : ∃ fd, Fun K "_law_added" "_law_added" s_law_added (He.ga K "_law_added") fd := let ⟨fd, F⟩ := T.says.def_ 45 (d := d_law_added) rfl; ⟨fd, He5.fun_of F⟩
theorem Txt.f_law_taken (T : Txt K mg) : ∃ fd, Fun K "_law_taken" "_law_taken" s_law_taken (He.ga K "_law_taken") fd := let ⟨fd, F⟩ := T.says.def_ 46 (d := d_law_taken) rfl; ⟨fd, He5.fun_of F⟩
theorem Txt.f_law_product (T : Txt K mg) : ∃ fd, Fun K "_law_product" "_law_product" s_law_product (He.ga K "_law_product") fd := let ⟨fd, F⟩ := T.says.def_ 47 (d := d_law_product) rfl; ⟨fd, He5.fun_of F⟩
theorem Txt.f_law_amount (T : Txt K mg) : ∃ fd, Fun K "_law_amount" "_law_amount" s_law_amount (He.ga K "_law_amount") fd := let ⟨fd, F⟩ := T.says.def_ 48 (d := d_law_amount) rfl; ⟨fd, He5.fun_of F⟩
theorem Txt.f_law_stall (T : Txt K mg) : ∃ fd, Fun K "_law_stall" "_law_stall" s_law_stall (He.ga K "_law_stall") fd := let ⟨fd, F⟩ := T.says.def_ 49 (d := d_law_stall) rfl; ⟨fd, He5.fun_of F⟩
theorem Txt.f_law_edge (T : Txt K mg) : ∃ fd, Fun K "_law_edge" "_law_edge" s_law_edge (He.ga K "_law_edge") fd := let ⟨fd, F⟩ := T.says.def_ 50 (d := d_law_edge) rfl; ⟨fd, He5.fun_of F⟩
theorem Txt.f_law_table (T : Txt K mg) : ∃ fd, Fun K "_law_table" "_law_table" s_law_table (He.ga K "_law_table") fd := let ⟨fd, F⟩ := T.says.def_ 51 (d := d_law_table) rfl; ⟨fd, He5.fun_of F⟩
theorem Txt.f_law_can_be_struck (T : Txt K mg) : ∃ fd, Fun K "_law_can_be_struck" "_law_can_be_struck" s_law_can_be_struck (He.ga K "_law_can_be_struck") fd := let ⟨fd, F⟩ := T.says.def_ 52 (d := d_law_can_be_struck) rfl; ⟨fd, He5.fun_of F⟩
theorem Txt.f_law_some (T : Txt K mg) : ∃ fd, Fun K "_law_some" "_law_some" s_law_some (He.ga K "_law_some") fd := let ⟨fd, F⟩ := T.says.def_ 53 (d := d_law_some) rfl; ⟨fd, He5.fun_of F⟩
theorem Txt.f_law_is_met (T : Txt K mg) : ∃ fd, Fun K "_law_is_met" "_law_is_met" s_law_is_met (He.ga K "_law_is_met") fd := let ⟨fd, F⟩ := T.says.def_ 54 (d := d_law_is_met) rfl; ⟨fd, He5.fun_of F⟩
theorem Txt.f_law_wares_due (T : Txt K mg) : ∃ fd, Fun K "_law_wares_due" "_law_wares_due" s_law_wares_due (He.ga K "_law_wares_due") fd := let ⟨fd, F⟩ := T.says.def_ 55 (d := d_law_wares_due) rfl; ⟨fd, He5.fun_of F⟩
theorem Txt.f_law_stalls_due (T : Txt K mg) : ∃ fd, Fun K "_law_stalls_due" "_law_stalls_due" s_law_stalls_due (He.ga K "_law_stalls_due") fd := let ⟨fd, F⟩ := T.says.def_ 56 (d := d_law_stalls_due) rfl; ⟨fd, He5.fun_of F⟩
theorem Txt.f_law_needed_due (T : Txt K mg) : ∃ fd, Fun K "_law_needed_due" "_law_needed_due" s_law_needed_due (He.ga K "_law_needed_due") fd := let ⟨fd, F⟩ := T.says.def_ 57 (d := d_law_needed_due) rfl; ⟨fd, He5.fun_of F⟩
theorem Txt.f_law_is_told (T : Txt K mg) : ∃ fd, Fun K "_law_is_told" "_law_is_told" s_law_is_told (He.ga K "_law_is_told") fd := let ⟨fd, F⟩ := T.says.def_ 58 (d := d_law_is_told) rfl; ⟨fd, He5.fun_of F⟩
theorem Txt.f_law_is_barred (T : Txt K mg) : ∃ fd, Fun K "_law_is_barred" "_law_is_barred" s_law_is_barred (He.ga K "_law_is_barred") fd := let ⟨fd, F⟩ := T.says.def_ 59 (d := d_law_is_barred) rfl; ⟨fd, He5.fun_of F⟩
theorem Txt.f_law_is_well (T : Txt K mg) : ∃ fd, Fun K "_law_is_well" "_law_is_well" s_law_is_well (He.ga K "_law_is_well") fd := let ⟨fd, F⟩ := T.says.def_ 60 (d := d_law_is_well) rfl; ⟨fd, He5.fun_of F⟩
theorem Txt.f_law_word (T : Txt K mg) : ∃ fd, Fun K "_law_word" "_law_word" s_law_word (He.ga K "_law_word") fd := let ⟨fd, F⟩ := T.says.def_ 61 (d := d_law_word) rfl; ⟨fd, He5.fun_of F⟩
theorem Txt.f_law (T : Txt K mg) : ∃ fd, Fun K "law" "law" s_law (He.ga K "law") fd := let ⟨fd, F⟩ := T.says.def_ 62 (d := d_law) rfl; ⟨fd, He5.fun_of F⟩
end
end R25

set_option Elab.async false
set_option linter.all false
set_option maxRecDepth 100000
set_option maxHeartbeats 4000000
namespace R25
open PySem PySem.Spec PyProof.Rows L2
/-! ### promises by the number of arguments -/
abbrev F1 := V → Hp → VK → XK → Prop
abbrev F2 := V → V → Hp → VK → XK → Prop
abbrev F3 := V → V → V → Hp → VK → XK → Prop
abbrev F4 := V → V → V → V → Hp → VK → XK → Prop
abbrev F5 := V → V → V → V → V → Hp → VK → XK → Prop
def sp1 (f : F1) : Sp := fun vs H Q E => ∃ a, vs = [a] ∧ f a H Q E
def sp2 (f : F2) : Sp := fun vs H Q E => ∃ a b, vs = [a, b] ∧ f a b H Q E
def sp3 (f : F3) : Sp := fun vs H Q E => ∃ a b c, vs = [a, b, c] ∧ f a b c H Q E
def sp4 (f : F4) : Sp := fun vs H Q E => ∃ a b c d, vs = [a, b, c, d] ∧ f a b c d H Q E
def sp5 (f : F5) : Sp := fun vs H Q E => ∃ a b c d e, vs = [a, b, c, d, e] ∧ f a b c d e H Q E
section
variable (P : Program) (w : World) (K : PySem.W.Frag) (mg : Str → Option Value) (base : Heap) (CX : CXT)
/-- a def of the module keeps its promise -/
structure Dfn (k : Nat) (x : Str) (ps : List Str) (sp : Sp) : Prop where
  g : mg x = some (.ref (He.ga K x))
  kp : PySem.W.keepIn K (.ref (He.ga K x)) = true
  fn : ∃ fd, FnOk P w K mg base CX k (He.ga K x) fd ps sp ∧ Binds K fd ps []
/-- a method -/
structure Mtd (k : Nat) (C m : Str) (ps : List Str) (sp : Sp) : Prop where
  c : Cls K (He.ga K C)
  mt : Meth K (He.ga K C) m (He.ma K (He.ga K C) m)
  fn : ∃ fd, FnOk P w K mg base CX k (He.ma K (He.ga K C) m) fd ps sp ∧ Binds K fd ps []
/-- a class that is called -/
structure Mkd (k : Nat) (C : Str) (ps : List Str) (sp : Sp) : Prop where
  g : mg C = some (.ref (He.ga K C))
  mkr : Mk K (He.ga K C) (He.ma K (He.ga K C) "__init__")
  fn : ∃ fd, FnOk P w K mg base CX k (He.ma K (He.ga K C) "__init__") fd ps sp ∧ Binds K fd ps []
end
section
variable {X : Cx} {CX : CXT} {k j : Nat} {x C m : Str} {ps : List Str} {sp : Sp} {E : XK} {p pos apos : Pos} {e o : Expr} {es : List Expr} {ta : TE} {t : TA}
theorem pe_callD (D : Dfn X.prog X.w X.K X.mg X.base CX k x ps sp) (hr : Room j X.A) (ha : PA X (e :: es) t) (hj : k ≤ j := by decide) (hx : Passes CX X E := by exact pass0) (hg : Gl X x := by rfl) (hdb : (x == ("__debug__" : Str)) = false := by decide) (he : starEach (e :: es) X.env = (false, eval e X.env) :: starEach es X.env := by rfl) (hpl : (backTo pos (starEach es X.env)).any (·.1) = false := by rfl) :
    PE X (.Call (.Name x p) (e :: es) [] pos) (tCall sp [] E t) := by
  obtain ⟨fd, F, hb⟩ := D.fn
  exact pe_call F (hr.mono hj) hg D.g D.kp hb .nil hx ha hdb he hpl
theorem pe_makeD {K : PySem.W.Frag} (M : Mkd X.prog X.w K X.mg X.base CX k C ps sp) (hr : Room j X.A) (ha : PA X (e :: es) t) (hK : X.K = K := by rfl) (hj : k + 1 ≤ j := by decide) (hx : Passes CX X E := by exact pass0) (hg : Gl X C := by rfl) (hdb : (C == ("__debug__" : Str)) = false := by decide) (he : starEach (e :: es) X.env = (false, eval e X.env) :: starEach es X.env := by rfl) (hpl : (backTo pos (starEach es X.env)).any (·.1) = false := by rfl) :
    PE X (.Call (.Name C p) (e :: es) [] pos) (tMake (He.ga K C) sp [] E t) := by
  subst hK
  obtain ⟨fd, F, hb⟩ := M.fn
  exact pe_make M.mkr F (hr.mono hj) hg M.g hb .nil hx ha hdb he hpl
theorem pe_methD {K : PySem.W.Frag} {pl : Sem Bool} (M : Mtd X.prog X.w K X.mg X.base CX k C m ps sp) (hr : Room j X.A) (ho : PE X o ta) (ha : PA X (e :: es) t) (hK : X.K = K := by rfl) (hj : k ≤ j := by decide) (hx : Passes CX X E := by exact pass0)
    (hst : starEach (e :: es) X.env = (false, eval e X.env) :: starEach es X.env := by rfl) (hpl : (backTo pos (starEach es X.env)).any (·.1) = false := by rfl)
    (ht : eval (.Call (.Attribute o m apos) (e :: es) [] pos) X.env = (do
      let ov ← eval o X.env
      standAt apos.atName
      let (f, first) ← holding [ov] (getMethod ov m pl)
      callWith pos f first (backTo pos (starEach (e :: es) X.env)) (backToKw pos (keywordEach [] X.env))) := by rfl) :
    PE X (.Call (.Attribute o m apos) (e :: es) [] pos) (tMeth (He.ga K C) m sp [] E ta t) := by
  subst hK
  obtain ⟨fd, F, hb⟩ := M.fn
  exact pe_meth ho M.c M.mt F (hr.mono hj) hb .nil hx ha hst hpl ht
theorem pe_methD0 {K : PySem.W.Frag} {pl : Sem Bool} (M : Mtd X.prog X.w K X.mg X.base CX k C m ps sp) (hr : Room j X.A) (ho : PE X o ta) (hK : X.K = K := by rfl) (hj : k ≤ j := by decide) (hx : Passes CX X E := by exact pass0)
    (ht : eval (.Call (.Attribute o m apos) [] [] pos) X.env = (do
      let ov ← eval o X.env
      standAt apos.atName
      let (f, first) ← holding [ov] (getMethod ov m pl)
      callWith pos f first (backTo pos (starEach [] X.env)) (backToKw pos (keywordEach [] X.env))) := by rfl) :
    PE X (.Call (.Attribute o m apos) [] [] pos) (tMeth (He.ga K C) m sp [] E ta tNil) := by
  subst hK
  obtain ⟨fd, F, hb⟩ := M.fn
  exact pe_meth0 ho M.c M.mt F (hr.mono hj) hb .nil hx ht
theorem op_ownD {K : PySem.W.Frag} {op : Operator} (hc : PySem.W.selfFirst K (He.ga K C) = true) (M : Mtd X.prog X.w K X.mg X.base CX k C m ps sp) (hr : Room j X.A) (hK : X.K = K := by rfl) (hj : k ≤ j := by decide) (hm : m = PySem.dunder op.info.2 := by rfl) (hx : Passes CX X E := by exact pass0) : OpR X (binaryOp op) (rOwn (He.ga K C) sp E) := by
  subst hK
  obtain ⟨fd, F, hb⟩ := M.fn
  exact op_own hc F (hr.mono hj) M.mt hm hb hx
theorem pe_gint {i : Int} (h : ∃ t, X.mg x = some (.int i t)) (hg : Gl X x := by rfl) (hd : (x == ("__debug__" : Str)) = false := by decide) : PE X (.Name x pos) (tC (.int i)) := by
  obtain ⟨t, h⟩ := h
  exact pe_glob hg h ⟨t, rfl⟩ hd
end
/-! ### a def's proof -/
section
variable {P : Program} {w : World} {K : PySem.W.Frag} {mg : Str → Option Value} {base : Heap} {x qual : Str} {st : Stmt} {f : Addr} {fd : FuncData} {N ps : List Str} {k : Nat}
/-- the body, read -/
def BodyOk (P : Program) (w : World) (K : PySem.W.Frag) (mg : Str → Option Value) (base : Heap) (CX : CXT) (k : Nat) (qual : Str) (st : Stmt) (f : Addr) (N : List Str) (vs : List V) (H : Hp) (Q : VK) (E : XK) : Prop :=
  ∀ (cdv : Value) (A : Around) (outer : List Env) (s : Shared), Room k (A.deeper (envOfC qual (defScope st) s.heap.objs.size f cdv)) →
    ∃ t, PSs (cxOf CX P w K mg base N qual (defScope st) f cdv A outer s H E) (defBody st) t ∧ t { nx := fun _ H' => Q .non H', rt := Q } (start N vs) H
theorem fnok_of {sp : Sp} (F : Fun K x qual st f fd) (S : FnScope N ps (defScope st)) (len : ∀ vs H Q E, sp vs H Q E → vs.length = ps.length)
    (hb : ∀ vs H Q E, sp vs H Q E → ∀ (cdv : Value) (A : Around) (outer : List Env) (s : Shared), Room k (A.deeper (envOfC qual (defScope st) s.heap.objs.size f cdv)) →
      ∃ t, PSs (cxOf CX0 P w K mg base N qual (defScope st) f cdv A outer s H E).nox (defBody st) t ∧ t { nx := fun _ H' => Q .non H', rt := Q } (start N vs) H) : FnOk P w K mg base CX0 (k + 1) f fd ps sp :=
  F.ok S len fun cdv A outer s H vs Q E hr h => hb vs H Q E h cdv A outer s hr
end
theorem one1 {α : Type} {us : List α} (h : us.length = 1) : ∃ a, us = [a] := match us, h with | [a], _ => ⟨a, rfl⟩
theorem two2 {α : Type} {us : List α} (h : us.length = 2) : ∃ a b, us = [a, b] := match us, h with | [a, b], _ => ⟨a, b, rfl⟩
theorem three3 {α : Type} {us : List α} (h : us.length = 3) : ∃ a b c, us = [a, b, c] := match us, h with | [a, b, c], _ => ⟨a, b, c, rfl⟩
theorem four4 {α : Type} {us : List α} (h : us.length = 4) : ∃ a b c d, us = [a, b, c, d] := match us, h with | [a, b, c, d], _ => ⟨a, b, c, d, rfl⟩
theorem five5 {α : Type} {us : List α} (h : us.length = 5) : ∃ a b c d e, us = [a, b, c, d, e] := match us, h with | [a, b, c, d, e], _ => ⟨a, b, c, d, e, rfl⟩
/-! ### small words -/
theorem Same.t {K : PySem.W.Frag} {H H' : Hp} {a : Addr} {xs : List V} (e : Same H H') (h : SqT K H a xs) : SqT K H' a xs := by
  rcases h with (h | ⟨o, h⟩) | h
  · exact .inl (.inl (e _ _ h))
  · exact .inl (.inr ⟨o, e _ _ h⟩)
  · exact .inr h
theorem Same.new {H : Hp} {p : Addr} {o : HO} (h : H p = none) : Same H (upd H p o) := fun b u e => by rw [upd_ne (ne_of_none e h)]; exact e
theorem Same.new' {H H' : Hp} {p : Addr} {o : HO} (s : Same H H') (h : H' p = none) : Same H (upd H' p o) := Same.trans s (Same.new h)
/-- something that H does not know has changed -/
theorem Same.mut {H H' : Hp} {p : Addr} {o : HO} (s : Same H H') (h : H p = none) : Same H (upd H' p o) := fun b u e => by
  rw [upd_ne (ne_of_none e h)]
  exact s b u e
end R25

set_option Elab.async false
set_option linter.all false
set_option maxRecDepth 100000
set_option maxHeartbeats 4000000
namespace R25
open PySem PySem.Spec PyProof.Rows L2
/-! ### the data: numbers of the package, pairs of the law -/
abbrev CE (K : PySem.W.Frag) : Addr := He.ga K "Exact"
def eF (q : Rat) : List (Str × V) := [("top", .int q.num), ("bottom", .int q.den)]
theorem sne {a b : Str} (h : decide (a = b) = false) : ¬ a = b := of_decide_eq_false h
theorem eF_mk (q : Rat) : putF "bottom" (.int q.den) (putF "top" (.int q.num) []) = eF q := by
  show (if ("top" : Str) = "bottom" then _ else (("top" : Str), V.int q.num) :: [(("bottom" : Str), V.int q.den)]) = _
  rw [if_neg (sne (by decide +kernel))]
  all_goals rfl
theorem eF_top (q : Rat) : (eF q).lookup ("top" : Str) = some (V.int q.num) := by
  rw [← eF_mk, lookup_putF, if_neg (sne (by decide +kernel)), lookup_putF, if_pos rfl]
theorem eF_bottom (q : Rat) : (eF q).lookup ("bottom" : Str) = some (V.int (q.den : Int)) := by
  rw [← eF_mk, lookup_putF, if_pos rfl]
theorem eF_no (q : Rat) {m : Str} (h1 : ¬ m = "top") (h2 : ¬ m = "bottom") : (eF q).lookup m = none := by
  rw [← eF_mk, lookup_putF, if_neg h2, lookup_putF, if_neg h1]
  all_goals rfl
def IsE (K : PySem.W.Frag) (H : Hp) (v : V) (q : Rat) : Prop := ∃ p dx, v = .ref p ∧ H p = some (.ins (CE K) dx (eF q))
def IsF (H : Hp) (v : V) (q : Rat) : Prop := ∃ p, v = .ref p ∧ H p = some (.tup [.int q.num, .int q.den])
section
variable {K : PySem.W.Frag} {H H' : Hp} {v : V} {q : Rat}
theorem IsE.up (s : Same H H') (h : IsE K H v q) : IsE K H' v q := let ⟨p, dx, e, h⟩ := h; ⟨p, dx, e, s _ _ h⟩
theorem IsF.up (s : Same H H') (h : IsF H v q) : IsF H' v q := let ⟨p, e, h⟩ := h; ⟨p, e, s _ _ h⟩
/-- behind the change of a list or dict -/
def Mutb : HO → Bool
  | .lst _ => true
  | .dK _ => true
  | _ => false
theorem IsE.mut {a : Addr} {o u : HO} (h : IsE K H v q) (ha : H a = some u) (hu : Mutb u = true) : IsE K (upd H a o) v q := by
  obtain ⟨p, dx, e, h⟩ := h
  refine ⟨p, dx, e, ?_⟩
  rw [upd_ne (ne_of h ha (by rintro rfl; cases hu))]
  exact h
theorem IsF.mut {a : Addr} {o u : HO} (h : IsF H v q) (ha : H a = some u) (hu : Mutb u = true) : IsF (upd H a o) v q := by
  obtain ⟨p, e, h⟩ := h
  refine ⟨p, e, ?_⟩
  rw [upd_ne (ne_of h ha (by rintro rfl; cases hu))]
  exact h
end
theorem iteP {b : Bool} {A B : Prop} (h : b = true) (a : A) : if b = true then A else B := by rw [if_pos h]; exact a
theorem iteN {b : Bool} {A B : Prop} (h : b = false) (a : B) : if b = true then A else B := by
  subst h
  exact iteF a
theorem Txt.sf {K : PySem.W.Frag} {mg : Str → Option Value} (T : Txt K mg) : PySem.W.selfFirst K (He.ga K "Exact") = true := by
  have h := T.more
  unfold ex at h
  exact (Bool.and_eq_true_iff.mp h).1
theorem Txt.xs {K : PySem.W.Frag} {mg : Str → Option Value} (T : Txt K mg) : PySem.W.findIn K (.ref (He.ga K "Exact")) "__class__" = some (some (.builtin "object.__class__")) ∧ PySem.W.specialIn K (.builtin "object.__class__") "__get__" = some (some (.builtin "getset_descriptor.__get__")) ∧
    PySem.W.takesIn K (.builtin "object.__class__") = some true ∧ PySem.W.mroIn K (He.ga K "Exact") (.type "object") = some true := by
  have h := T.more
  unfold ex at h
  simp only [Bool.and_eq_true, decide_eq_true_eq] at h
  exact ⟨h.2.1, h.2.2.1, h.2.2.2.1, h.2.2.2.2⟩
theorem kit_self {K : PySem.W.Frag} {C : Addr} : PySem.W.kitOne K (.ref C) (.ref C) = some true := by
  unfold PySem.W.kitOne
  simp
/-! ### promises -/
section
variable (K : PySem.W.Frag)
def sp_is_integer : F1 := fun a H Q _ => (∃ i, a = .int i) ∧ Q (.bl true) H
def sp_common : F2 := fun a b H Q _ => ∃ m n : Int, a = .int m ∧ b = .int n ∧ Q (.int (Int.gcd m n : Nat)) H
def big : Nat := 8500
def sp_Exact_init : F3 := fun s a b H Q _ => ∃ (p dx : Addr) (t b' : Int), s = .ref p ∧ H p = some (.ins (CE K) dx []) ∧ a = .int t ∧ b = .int b' ∧ 0 < b' ∧ t.natAbs < 2 ^ big ∧ b'.natAbs < 2 ^ big ∧
  ∀ H', H' p = some (.ins (CE K) dx (eF (Rat.divInt t b'))) → (∀ c o, H c = some o → c ≠ p → H' c = some o) → Q .non H'
def spE2 (f : Rat → Rat → Rat) : F2 := fun a b H Q _ => ∃ x y, IsE K H a x ∧ IsE K H b y ∧ Ok x ∧ Ok y ∧ ∀ v H', Same H H' → IsE K H' v (f x y) → Q v H'
def sp_add : F2 := spE2 K fun x y => x + y
def sp_sub : F2 := spE2 K fun x y => x - y
def sp_mul : F2 := spE2 K fun x y => x * y
def sp_over : F2 := fun a b H Q _ => ∃ x y, IsE K H a x ∧ IsE K H b y ∧ Ok x ∧ Ok y ∧ 0 < y ∧ ∀ v H', Same H H' → IsE K H' v (x / y) → Q v H'
def sp_square : F1 := fun a H Q _ => ∃ x, IsE K H a x ∧ Ok x ∧ ∀ v H', Same H H' → IsE K H' v (x * x) → Q v H'
def sgn (q : Rat) : Int := (if decide (0 < q.num) then 1 else 0) - (if decide (q.num < 0) then 1 else 0)
def sp_sign : F1 := fun a H Q _ => ∃ x, IsE K H a x ∧ Q (.int (sgn x)) H
def sp_pair : F1 := fun a H Q _ => ∃ x, IsE K H a x ∧ ∀ v H', Same H H' → IsF H' v x → Q v H'
def sp_exact : F1 := fun a H Q _ => ∃ x, IsF H a x ∧ Ok x ∧ ∀ v H', Same H H' → IsE K H' v x → Q v H'
def REq : Addr → Addr → Hp → Prop := fun a b H => ∃ x, IsE K H (.ref a) x ∧ IsE K H (.ref b) x
def sp_eqE : F2 := fun x y H Q _ => ∃ a b, x = .ref a ∧ y = .ref b ∧ REq K a b H ∧ ∀ H', Ext H H' → Q (.bl true) H'
end
/-! ### sizes of what is reckoned -/
def lim2 : Nat := 8001
theorem mul_lt_big {i j : Int} (h1 : i.natAbs < 2 ^ lim) (h2 : j.natAbs < 2 ^ lim) : (i * j).natAbs < 2 ^ lim2 := by
  have := wide_lt h1 h2
  refine Nat.lt_of_lt_of_le this (Nat.pow_le_pow_right (by decide) ?_)
  show 4000 + 4000 ≤ 8001
  decide
theorem cmul_ok {i j : Int} (h1 : i.natAbs < 2 ^ lim) (h2 : j.natAbs < 2 ^ lim) : CMulW i j := wide_mul h1 h2 (by decide) (by decide) (by show 4000 + 4000 ≤ 1000000; decide)
theorem den_abs (q : Rat) (h : Ok q) : ((q.den : Int)).natAbs < 2 ^ lim := by simpa using h.2
theorem to_big {n : Nat} (h : n < 2 ^ lim2) : n < 2 ^ big := Nat.lt_of_lt_of_le h (Nat.pow_le_pow_right (by decide) (by show 8001 ≤ 8500; decide))
theorem add_big {i j : Int} (h1 : i.natAbs < 2 ^ lim2) (h2 : j.natAbs < 2 ^ lim2) : (i + j).natAbs < 2 ^ big := by
  have e : 2 ^ (lim2 + 1) ≤ 2 ^ big := Nat.pow_le_pow_right (by decide) (by show 8002 ≤ 8500; decide)
  rw [Nat.pow_succ] at e
  generalize 2 ^ lim2 = n at h1 h2 e
  generalize 2 ^ big = m at e
  omega
theorem sub_big {i j : Int} (h1 : i.natAbs < 2 ^ lim2) (h2 : j.natAbs < 2 ^ lim2) : (i - j).natAbs < 2 ^ big := by
  have h3 : (-j).natAbs < 2 ^ lim2 := by rw [Int.natAbs_neg]; exact h2
  have := add_big h1 h3
  rwa [← Int.sub_eq_add_neg] at this
/-- the class called: a new number -/
theorem make_E {K : PySem.W.Frag} {H : Hp} {Q : VK} {E : XK} {t b : Int} {q : Rat} (hb : 0 < b) (h1 : t.natAbs < 2 ^ big) (h2 : b.natAbs < 2 ^ big) (e : Rat.divInt t b = q)
    (h : ∀ v H', Same H H' → IsE K H' v q → Q v H') : ∀ x dx, H x = none → H dx = none → dx ≠ x → sp3 (sp_Exact_init K) (.ref x :: ([.int t, .int b] ++ [])) (upd (upd H dx (.own x)) x (.ins (CE K) dx [])) (fun v H2 => v = .non ∧ Q (.ref x) H2) E := by
  intro x dx nx ndx hne
  refine ⟨_, _, _, rfl, x, dx, t, b, rfl, upd_same, rfl, rfl, hb, h1, h2, fun H' e1 k => ⟨rfl, h _ _ (fun c o hc => ?_) ⟨x, dx, rfl, by rw [e1, e]⟩⟩⟩
  have hcx : c ≠ x := ne_of_none hc nx
  refine k c o ?_ hcx
  rw [upd_ne hcx, upd_ne (ne_of_none hc ndx)]
  exact hc
end R25

set_option Elab.async false
set_option linter.all false
set_option maxRecDepth 100000
set_option maxHeartbeats 4000000
namespace R25
open PySem PySem.Spec PyProof.Rows L2
section
variable {P : Program} {w : World} {K : PySem.W.Frag} {mg : Str → Option Value} {base : Heap}
theorem sc_is_integer : FnScope ["thing"] ["thing"] (defScope s_is_integer) := ⟨rfl, rfl, rfl, by decide +kernel, rfl, by decide +kernel, by decide +kernel⟩
theorem ok_is_integer (T : Txt K mg)  : Dfn P w K mg base CX0 1 "is_integer" ["thing"] (sp1 sp_is_integer) := by
  obtain ⟨fd, F⟩ := T.f_is_integer
  refine ⟨T.g_is_integer, F.kp, fd, fnok_of F sc_is_integer (fun vs H Q E h => ?_) (fun vs H Q E h => ?_), F.binds (ps := ["thing"]) fun _ _ _ _ _ _ us hl => ?_⟩
  · obtain ⟨a1, rfl, _⟩ := h
    rfl
  · obtain ⟨a1, rfl, h⟩ := h
    intro cdv A outer s hr
    refine ⟨_, (pss_one (ps_ret (pe_and (pe_callB call_isi (by rfl) T.b_isinstance (by decide +kernel) (pa_cons (pv 0) (pa_cons (pe_bltn (v := .ty "int") rfl T.b_int (by decide +kernel) rfl) pa_nil))) (pe_one (pe_not (pe_callB call_isi (by rfl) T.b_isinstance (by decide +kernel) (pa_cons (pv 0) (pa_cons (pe_bltn (v := .ty "bool") rfl T.b_bool (by decide +kernel) rfl) pa_nil)))))))), ?_⟩
    obtain ⟨⟨i, rfl⟩, k⟩ := h
    refine ⟨_, rfl, _, _, _, _, _, rfl, .ty "int", .base (.int i), kit_ty (by decide +kernel), true, rfl, iteT ?_⟩
    exact ⟨_, rfl, _, _, _, _, _, rfl, .ty "bool", .base (.int i), kit_ty (by decide +kernel), false, rfl, k⟩
  · obtain ⟨u1, rfl⟩ := one1 hl
    rfl
theorem sc_common : FnScope ["one", "other"] ["one", "other"] (defScope s_common) := ⟨rfl, rfl, rfl, by decide +kernel, rfl, by decide +kernel, by decide +kernel⟩
theorem ok_common (T : Txt K mg)  : Dfn P w K mg base CX0 1 "common" ["one", "other"] (sp2 sp_common) := by
  obtain ⟨fd, F⟩ := T.f_common
  refine ⟨T.g_common, F.kp, fd, fnok_of F sc_common (fun vs H Q E h => ?_) (fun vs H Q E h => ?_), F.binds (ps := ["one", "other"]) fun _ _ _ _ _ _ us hl => ?_⟩
  · obtain ⟨a1, a2, rfl, _⟩ := h
    rfl
  · obtain ⟨a1, a2, rfl, h⟩ := h
    intro cdv A outer s hr
    refine ⟨_, (pss_cons (ps_par rfl sc_common.nd (i := 0) (j := 1) rfl rfl (by decide) rfl rfl (pa_cons (pe_callB call_abs (by rfl) T.b_abs (by decide +kernel) (pa_cons (pv 0) pa_nil)) (pa_cons (pe_callB call_abs (by rfl) T.b_abs (by decide +kernel) (pa_cons (pv 1) pa_nil)) pa_nil)) (by rfl))
      (pss_cons (ps_while PassesOwn.never (pt_cmpR op_gt (pv 1) pe_int (nomark _)) (pss_one (ps_par rfl sc_common.nd (i := 0) (j := 1) rfl rfl (by decide) rfl rfl (pa_cons (pv 1) (pa_cons (pe_op op_mod (pv 0) (pv 1)) pa_nil)) (by rfl))))
      (pss_one (ps_ret (pv 0))))), ?_⟩
    obtain ⟨m, n, rfl, rfl, k⟩ := h
    have ab : ∀ i : Int, (if i < 0 then -i else i) = (i.natAbs : Int) := fun i => by split <;> omega
    refine ⟨_, rfl, _, rfl, _, rfl, _, rfl, _, _, rfl, ?_⟩
    rw [ab, ab]
    refine while_by (fun σ H' => ∃ x y : Nat, σ = [some (.int x), some (.int y)] ∧ H' = H ∧ Nat.gcd x y = Int.gcd m n) (fun σ _ => match σ with | [_, some (.int y)] => y.toNat | _ => 0) ⟨_, _, rfl, rfl, rfl⟩ ?_ ?_
    · rintro σ H' ⟨x, y, rfl, rfl, e⟩
      refine ⟨_, rfl, _, _, rfl, rfl, _, rfl, ite2 (fun hc => ?_) (fun hc => ?_)⟩
      · have hy : (0 : Int) < y := of_decide_eq_true hc
        refine ⟨_, rfl, _, rfl, _, rfl, _, _, rfl, rfl, hy, _, _, rfl, ⟨y, x % y, ?_, rfl, ?_⟩, ?_⟩
        · rw [Int.natCast_emod]
          rfl
        · rw [← e, Nat.gcd_comm y, ← Nat.gcd_rec, Nat.gcd_comm]
        · show ((x : Int) % (y : Int)).toNat < (y : Int).toNat
          have h1 := Int.emod_lt_of_pos (x : Int) hy
          have h2 := Int.emod_nonneg (x : Int) (show (y : Int) ≠ 0 by omega)
          omega
      · have hy : ¬ (0 : Int) < y := of_decide_eq_false (Bool.eq_false_iff.mpr hc)
        have hy0 : y = 0 := by omega
        subst hy0
        rw [Nat.gcd_zero_right] at e
        subst e
        exact ⟨_, rfl, k⟩
    · rintro σ H' Q1 Q2 hq ⟨v, h1, i, j, h2, h3, b, h4, h5⟩
      exact ⟨v, h1, i, j, h2, h3, b, h4, hq _ _ h5⟩
  · obtain ⟨u1, u2, rfl⟩ := two2 hl
    rfl
theorem sc_Exact_init : FnScope ["self", "top", "bottom", "part"] ["self", "top", "bottom"] (defScope s_Exact_init) := ⟨rfl, rfl, rfl, by decide +kernel, rfl, by decide +kernel, by decide +kernel⟩
theorem ok_Exact_init (T : Txt K mg) (D_common : Dfn P w K mg base CX0 1 "common" ["one", "other"] (sp2 sp_common)) : Mkd P w K mg base CX0 2 "Exact" ["self", "top", "bottom"] (sp3 (sp_Exact_init K)) := by
  obtain ⟨fd, F⟩ := T.f_Exact_init
  refine ⟨T.g_Exact, T.k_Exact, fd, fnok_of F sc_Exact_init (fun vs H Q E h => ?_) (fun vs H Q E h => ?_), F.binds (ps := ["self", "top", "bottom"]) fun _ _ _ _ _ _ us hl => ?_⟩
  · obtain ⟨a1, a2, a3, rfl, _⟩ := h
    rfl
  · obtain ⟨a1, a2, a3, rfl, h⟩ := h
    intro cdv A outer s hr
    refine ⟨_, (pss_cons (ps_if (pt_cmpR op_lt (pv 2) pe_int (nomark _)) (pss_one (ps_par rfl sc_Exact_init.nd (i := 1) (j := 2) rfl rfl (by decide) rfl rfl (pa_cons (pe_un un_neg (pv 1)) (pa_cons (pe_un un_neg (pv 2)) pa_nil)) (by rfl))) pss_nil)
      (pss_cons (ps_set (i := 3) sc_Exact_init.nd rfl (Or.inl rfl) (pe_callD D_common hr (pa_cons (pv 1) (pa_cons (pv 2) pa_nil))))
      (pss_cons (ps_fld (pv 0) (pe_op op_fdivW (pv 1) (pv 3)) rfl)
      (pss_one (ps_fld (pv 0) (pe_op op_fdivW (pv 2) (pv 3)) rfl))))), ?_⟩
    obtain ⟨p, dx, t, b, rfl, hp, rfl, rfl, hb, ht, hbb, k⟩ := h
    have gp : 0 < (Int.gcd t b : Int) := Int.natCast_pos.mpr (Int.gcd_pos_of_ne_zero_right _ (by omega))
    have gl : ((Int.gcd t b : Nat) : Int).natAbs < 2 ^ big := by
      rw [Int.natAbs_natCast]
      exact Nat.lt_of_le_of_lt (Nat.le_of_dvd (by omega) (by have := Int.gcd_dvd_natAbs_right t b; exact this)) hbb
    have cd : ∀ i : Int, CDivW i (Int.gcd t b : Int) := fun i => wide_div gp gl (by decide) (by decide)
    refine ⟨_, rfl, _, _, rfl, rfl, _, rfl, ite2 (fun hc => absurd (of_decide_eq_true hc) (by omega)) (fun _ => ?_)⟩
    refine ⟨_, rfl, _, rfl, _, _, rfl, _, _, rfl, rfl, _, rfl, _, rfl, _, _, rfl, rfl, cd _, _, rfl, _, _, _, _, rfl, hp, T.c_Exact, T.n_top, (by show 0 < 1000; decide), _, rfl, _, rfl, _, _, rfl, rfl, cd _, _, rfl, _, _, _, _, rfl, upd_same, T.c_Exact, T.n_bottom, (by show 1 < 1000; decide), k _ ?_ fun c o hc hne => ?_⟩
    · rw [upd_same, ← eF_mk, frac_num hb, frac_den hb]
    · rw [upd_ne hne, upd_ne hne]
      exact hc
  · obtain ⟨u1, u2, u3, rfl⟩ := three3 hl
    rfl
theorem ok_big {q : Rat} (h : Ok q) : q.num.natAbs < 2 ^ big ∧ ((q.den : Int)).natAbs < 2 ^ big :=
  have e : 2 ^ lim ≤ 2 ^ big := Nat.pow_le_pow_right (by decide) (by show 4000 ≤ 8500; decide)
  ⟨Nat.lt_of_lt_of_le h.1 e, Nat.lt_of_lt_of_le (den_abs q h) e⟩
theorem sc_Exact_add : FnScope ["self", "other"] ["self", "other"] (defScope s_Exact_add) := ⟨rfl, rfl, rfl, by decide +kernel, rfl, by decide +kernel, by decide +kernel⟩
theorem ok_Exact_add (T : Txt K mg) (K_Exact : Mkd P w K mg base CX0 2 "Exact" ["self", "top", "bottom"] (sp3 (sp_Exact_init K))) : Mtd P w K mg base CX0 4 "Exact" "__add__" ["self", "other"] (sp2 (sp_add K)) := by
  obtain ⟨fd, F⟩ := T.f_Exact_add
  refine ⟨T.c_Exact, T.m_Exact_add, fd, fnok_of F sc_Exact_add (fun vs H Q E h => ?_) (fun vs H Q E h => ?_), F.binds (ps := ["self", "other"]) fun _ _ _ _ _ _ us hl => ?_⟩
  · obtain ⟨a1, a2, rfl, _⟩ := h
    rfl
  · obtain ⟨a1, a2, rfl, h⟩ := h
    intro cdv A outer s hr
    refine ⟨_, (pss_one (ps_ret (pe_makeD K_Exact hr (pa_cons (pe_op op_add (pe_op op_mulW (pe_fld (pv 0) rfl) (pe_fld (pv 1) rfl)) (pe_op op_mulW (pe_fld (pv 1) rfl) (pe_fld (pv 0) rfl))) (pa_cons (pe_op op_mulW (pe_fld (pv 0) rfl) (pe_fld (pv 1) rfl)) pa_nil))))), ?_⟩
    obtain ⟨x, y, ⟨p, dx, rfl, hp⟩, ⟨q, dy, rfl, hq⟩, ox, oy, k⟩ := h
    exact ⟨_, rfl, _, _, _, _, _, rfl, hp, T.c_Exact, T.n_top, eF_top _, _, rfl, _, _, _, _, _, rfl, hq, T.c_Exact, T.n_bottom, eF_bottom _, _, _, rfl, rfl, cmul_ok ox.1 (den_abs y oy), _, rfl, _, _, _, _, _, rfl, hq, T.c_Exact, T.n_top, eF_top _, _, rfl, _, _, _, _, _, rfl, hp, T.c_Exact, T.n_bottom, eF_bottom _, _, _, rfl, rfl, cmul_ok oy.1 (den_abs x ox), _, _, rfl, rfl, _, rfl, _, _, _, _, _, rfl, hp, T.c_Exact, T.n_bottom, eF_bottom _, _, rfl, _, _, _, _, _, rfl, hq, T.c_Exact, T.n_bottom, eF_bottom _, _, _, rfl, rfl, cmul_ok (den_abs x ox) (den_abs y oy),
      make_E (Int.mul_pos (den_pos x) (den_pos y)) (add_big (mul_lt_big ox.1 (den_abs y oy)) (mul_lt_big oy.1 (den_abs x ox))) (to_big (mul_lt_big (den_abs x ox) (den_abs y oy))) (frac_add x y) k⟩
  · obtain ⟨u1, u2, rfl⟩ := two2 hl
    rfl
theorem sc_Exact_sub : FnScope ["self", "other"] ["self", "other"] (defScope s_Exact_sub) := ⟨rfl, rfl, rfl, by decide +kernel, rfl, by decide +kernel, by decide +kernel⟩
theorem ok_Exact_sub (T : Txt K mg) (K_Exact : Mkd P w K mg base CX0 2 "Exact" ["self", "top", "bottom"] (sp3 (sp_Exact_init K))) : Mtd P w K mg base CX0 4 "Exact" "__sub__" ["self", "other"] (sp2 (sp_sub K)) := by
  obtain ⟨fd, F⟩ := T.f_Exact_sub
  refine ⟨T.c_Exact, T.m_Exact_sub, fd, fnok_of F sc_Exact_sub (fun vs H Q E h => ?_) (fun vs H Q E h => ?_), F.binds (ps := ["self", "other"]) fun _ _ _ _ _ _ us hl => ?_⟩
  · obtain ⟨a1, a2, rfl, _⟩ := h
    rfl
  · obtain ⟨a1, a2, rfl, h⟩ := h
    intro cdv A outer s hr
    refine ⟨_, (pss_one (ps_ret (pe_makeD K_Exact hr (pa_cons (pe_op op_sub (pe_op op_mulW (pe_fld (pv 0) rfl) (pe_fld (pv 1) rfl)) (pe_op op_mulW (pe_fld (pv 1) rfl) (pe_fld (pv 0) rfl))) (pa_cons (pe_op op_mulW (pe_fld (pv 0) rfl) (pe_fld (pv 1) rfl)) pa_nil))))), ?_⟩
    obtain ⟨x, y, ⟨p, dx, rfl, hp⟩, ⟨q, dy, rfl, hq⟩, ox, oy, k⟩ := h
    exact ⟨_, rfl, _, _, _, _, _, rfl, hp, T.c_Exact, T.n_top, eF_top _, _, rfl, _, _, _, _, _, rfl, hq, T.c_Exact, T.n_bottom, eF_bottom _, _, _, rfl, rfl, cmul_ok ox.1 (den_abs y oy), _, rfl, _, _, _, _, _, rfl, hq, T.c_Exact, T.n_top, eF_top _, _, rfl, _, _, _, _, _, rfl, hp, T.c_Exact, T.n_bottom, eF_bottom _, _, _, rfl, rfl, cmul_ok oy.1 (den_abs x ox), _, _, rfl, rfl, _, rfl, _, _, _, _, _, rfl, hp, T.c_Exact, T.n_bottom, eF_bottom _, _, rfl, _, _, _, _, _, rfl, hq, T.c_Exact, T.n_bottom, eF_bottom _, _, _, rfl, rfl, cmul_ok (den_abs x ox) (den_abs y oy),
      make_E (Int.mul_pos (den_pos x) (den_pos y)) (sub_big (mul_lt_big ox.1 (den_abs y oy)) (mul_lt_big oy.1 (den_abs x ox))) (to_big (mul_lt_big (den_abs x ox) (den_abs y oy))) (frac_sub x y) k⟩
  · obtain ⟨u1, u2, rfl⟩ := two2 hl
    rfl
theorem sc_Exact_mul : FnScope ["self", "other"] ["self", "other"] (defScope s_Exact_mul) := ⟨rfl, rfl, rfl, by decide +kernel, rfl, by decide +kernel, by decide +kernel⟩
theorem ok_Exact_mul (T : Txt K mg) (K_Exact : Mkd P w K mg base CX0 2 "Exact" ["self", "top", "bottom"] (sp3 (sp_Exact_init K))) : Mtd P w K mg base CX0 4 "Exact" "__mul__" ["self", "other"] (sp2 (sp_mul K)) := by
  obtain ⟨fd, F⟩ := T.f_Exact_mul
  refine ⟨T.c_Exact, T.m_Exact_mul, fd, fnok_of F sc_Exact_mul (fun vs H Q E h => ?_) (fun vs H Q E h => ?_), F.binds (ps := ["self", "other"]) fun _ _ _ _ _ _ us hl => ?_⟩
  · obtain ⟨a1, a2, rfl, _⟩ := h
    rfl
  · obtain ⟨a1, a2, rfl, h⟩ := h
    intro cdv A outer s hr
    refine ⟨_, (pss_one (ps_ret (pe_makeD K_Exact hr (pa_cons (pe_op op_mulW (pe_fld (pv 0) rfl) (pe_fld (pv 1) rfl)) (pa_cons (pe_op op_mulW (pe_fld (pv 0) rfl) (pe_fld (pv 1) rfl)) pa_nil))))), ?_⟩
    obtain ⟨x, y, ⟨p, dx, rfl, hp⟩, ⟨q, dy, rfl, hq⟩, ox, oy, k⟩ := h
    exact ⟨_, rfl, _, _, _, _, _, rfl, hp, T.c_Exact, T.n_top, eF_top _, _, rfl, _, _, _, _, _, rfl, hq, T.c_Exact, T.n_top, eF_top _, _, _, rfl, rfl, cmul_ok ox.1 oy.1, _, rfl, _, _, _, _, _, rfl, hp, T.c_Exact, T.n_bottom, eF_bottom _, _, rfl, _, _, _, _, _, rfl, hq, T.c_Exact, T.n_bottom, eF_bottom _, _, _, rfl, rfl, cmul_ok (den_abs x ox) (den_abs y oy),
      make_E (Int.mul_pos (den_pos x) (den_pos y)) (to_big (mul_lt_big ox.1 oy.1)) (to_big (mul_lt_big (den_abs x ox) (den_abs y oy))) (frac_mul x y) k⟩
  · obtain ⟨u1, u2, rfl⟩ := two2 hl
    rfl
theorem sc_Exact_eq : FnScope ["self", "other"] ["self", "other"] (defScope s_Exact_eq) := ⟨rfl, rfl, rfl, by decide +kernel, rfl, by decide +kernel, by decide +kernel⟩
theorem ok_Exact_eq (T : Txt K mg)  : Mtd P w K mg base CX0 1 "Exact" "__eq__" ["self", "other"] (sp2 (sp_eqE K)) := by
  obtain ⟨fd, F⟩ := T.f_Exact_eq
  refine ⟨T.c_Exact, T.m_Exact_eq, fd, fnok_of F sc_Exact_eq (fun vs H Q E h => ?_) (fun vs H Q E h => ?_), F.binds (ps := ["self", "other"]) fun _ _ _ _ _ _ us hl => ?_⟩
  · obtain ⟨a1, a2, rfl, _⟩ := h
    rfl
  · obtain ⟨a1, a2, rfl, h⟩ := h
    intro cdv A outer s hr
    refine ⟨_, (pss_one (ps_ret (pe_and (pe_callB call_isi (by rfl) T.b_isinstance (by decide +kernel) (pa_cons (pv 1) (pa_cons (pe_glob (v := .ref (CE K)) rfl T.g_Exact rfl) pa_nil))) (pe_and (pe_cmpR op_eq (pe_fld (pv 0) rfl) (pe_fld (pv 1) rfl) (nomark _)) (pe_one (pe_cmpR op_eq (pe_fld (pv 0) rfl) (pe_fld (pv 1) rfl) (nomark _))))))), ?_⟩
    obtain ⟨a, b, rfl, rfl, ⟨x, ⟨p, dx, e1, hp⟩, ⟨q, dy, e2, hq⟩⟩, k⟩ := h
    cases e1
    cases e2
    exact ⟨_, rfl, _, _, _, _, _, rfl, .own _, .base (.ins hq T.c_Exact T.xs.1 T.xs.2.1 T.xs.2.2.1 T.xs.2.2.2), kit_self, _, rfl, iteT ⟨_, rfl, _, _, _, _, _, rfl, hp, T.c_Exact, T.n_top, eF_top _, _, rfl, _, _, _, _, _, rfl, hq, T.c_Exact, T.n_top, eF_top _, rfl, _, rfl, iteP (by simp [same]) ⟨_, rfl, _, _, _, _, _, rfl, hp, T.c_Exact, T.n_bottom, eF_bottom _, _, rfl, _, _, _, _, _, rfl, hq, T.c_Exact, T.n_bottom, eF_bottom _, rfl, by rw [decide_eq_true rfl]; exact k _ Ext.rfl'⟩⟩⟩
  · obtain ⟨u1, u2, rfl⟩ := two2 hl
    rfl
theorem sc_Exact_over : FnScope ["self", "other"] ["self", "other"] (defScope s_Exact_over) := ⟨rfl, rfl, rfl, by decide +kernel, rfl, by decide +kernel, by decide +kernel⟩
theorem ok_Exact_over (T : Txt K mg) (K_Exact : Mkd P w K mg base CX0 2 "Exact" ["self", "top", "bottom"] (sp3 (sp_Exact_init K))) : Mtd P w K mg base CX0 4 "Exact" "over" ["self", "other"] (sp2 (sp_over K)) := by
  obtain ⟨fd, F⟩ := T.f_Exact_over
  refine ⟨T.c_Exact, T.m_Exact_over, fd, fnok_of F sc_Exact_over (fun vs H Q E h => ?_) (fun vs H Q E h => ?_), F.binds (ps := ["self", "other"]) fun _ _ _ _ _ _ us hl => ?_⟩
  · obtain ⟨a1, a2, rfl, _⟩ := h
    rfl
  · obtain ⟨a1, a2, rfl, h⟩ := h
    intro cdv A outer s hr
    refine ⟨_, (pss_one (ps_ret (pe_makeD K_Exact hr (pa_cons (pe_op op_mulW (pe_fld (pv 0) rfl) (pe_fld (pv 1) rfl)) (pa_cons (pe_op op_mulW (pe_fld (pv 0) rfl) (pe_fld (pv 1) rfl)) pa_nil))))), ?_⟩
    obtain ⟨x, y, ⟨p, dx, rfl, hp⟩, ⟨q, dy, rfl, hq⟩, ox, oy, hy, k⟩ := h
    have hn := num_pos.mpr hy
    exact ⟨_, rfl, _, _, _, _, _, rfl, hp, T.c_Exact, T.n_top, eF_top _, _, rfl, _, _, _, _, _, rfl, hq, T.c_Exact, T.n_bottom, eF_bottom _, _, _, rfl, rfl, cmul_ok ox.1 (den_abs y oy), _, rfl, _, _, _, _, _, rfl, hp, T.c_Exact, T.n_bottom, eF_bottom _, _, rfl, _, _, _, _, _, rfl, hq, T.c_Exact, T.n_top, eF_top _, _, _, rfl, rfl, cmul_ok (den_abs x ox) oy.1,
      make_E (Int.mul_pos (den_pos x) hn) (to_big (mul_lt_big ox.1 (den_abs y oy))) (to_big (mul_lt_big (den_abs x ox) oy.1)) (frac_div x y) k⟩
  · obtain ⟨u1, u2, rfl⟩ := two2 hl
    rfl
theorem sc_Exact_sign : FnScope ["self"] ["self"] (defScope s_Exact_sign) := ⟨rfl, rfl, rfl, by decide +kernel, rfl, by decide +kernel, by decide +kernel⟩
theorem ok_Exact_sign (T : Txt K mg)  : Mtd P w K mg base CX0 1 "Exact" "sign" ["self"] (sp1 (sp_sign K)) := by
  obtain ⟨fd, F⟩ := T.f_Exact_sign
  refine ⟨T.c_Exact, T.m_Exact_sign, fd, fnok_of F sc_Exact_sign (fun vs H Q E h => ?_) (fun vs H Q E h => ?_), F.binds (ps := ["self"]) fun _ _ _ _ _ _ us hl => ?_⟩
  · obtain ⟨a1, rfl, _⟩ := h
    rfl
  · obtain ⟨a1, rfl, h⟩ := h
    intro cdv A outer s hr
    refine ⟨_, (pss_one (ps_ret (pe_op op_sub (pe_callTy call_int1 (by rfl) T.b_int (by decide +kernel) (pa_cons (pe_cmpR op_gt (pe_fld (pv 0) rfl) pe_int (nomark _)) pa_nil)) (pe_callTy call_int1 (by rfl) T.b_int (by decide +kernel) (pa_cons (pe_cmpR op_lt (pe_fld (pv 0) rfl) pe_int (nomark _)) pa_nil))))), ?_⟩
    obtain ⟨x, ⟨p, dx, rfl, hp⟩, k⟩ := h
    exact ⟨_, rfl, _, _, _, _, _, rfl, hp, T.c_Exact, T.n_top, eF_top _, _, _, rfl, rfl, .inr ⟨_, rfl, _, rfl, _, _, _, _, _, rfl, hp, T.c_Exact, T.n_top, eF_top _, _, _, rfl, rfl, .inr ⟨_, rfl, _, _, rfl, rfl, k⟩⟩⟩
  · obtain ⟨u1, rfl⟩ := one1 hl
    rfl
theorem sc_Exact_square : FnScope ["self"] ["self"] (defScope s_Exact_square) := ⟨rfl, rfl, rfl, by decide +kernel, rfl, by decide +kernel, by decide +kernel⟩
theorem ok_Exact_square (T : Txt K mg) (K_Exact : Mkd P w K mg base CX0 2 "Exact" ["self", "top", "bottom"] (sp3 (sp_Exact_init K))) : Mtd P w K mg base CX0 4 "Exact" "square" ["self"] (sp1 (sp_square K)) := by
  obtain ⟨fd, F⟩ := T.f_Exact_square
  refine ⟨T.c_Exact, T.m_Exact_square, fd, fnok_of F sc_Exact_square (fun vs H Q E h => ?_) (fun vs H Q E h => ?_), F.binds (ps := ["self"]) fun _ _ _ _ _ _ us hl => ?_⟩
  · obtain ⟨a1, rfl, _⟩ := h
    rfl
  · obtain ⟨a1, rfl, h⟩ := h
    intro cdv A outer s hr
    refine ⟨_, (pss_one (ps_ret (pe_makeD K_Exact hr (pa_cons (pe_op op_mulW (pe_fld (pv 0) rfl) (pe_fld (pv 0) rfl)) (pa_cons (pe_op op_mulW (pe_fld (pv 0) rfl) (pe_fld (pv 0) rfl)) pa_nil))))), ?_⟩
    obtain ⟨x, ⟨p, dx, rfl, hp⟩, ox, k⟩ := h
    exact ⟨_, rfl, _, _, _, _, _, rfl, hp, T.c_Exact, T.n_top, eF_top _, _, rfl, _, _, _, _, _, rfl, hp, T.c_Exact, T.n_top, eF_top _, _, _, rfl, rfl, cmul_ok ox.1 ox.1, _, rfl, _, _, _, _, _, rfl, hp, T.c_Exact, T.n_bottom, eF_bottom _, _, rfl, _, _, _, _, _, rfl, hp, T.c_Exact, T.n_bottom, eF_bottom _, _, _, rfl, rfl, cmul_ok (den_abs x ox) (den_abs x ox),
      make_E (Int.mul_pos (den_pos x) (den_pos x)) (to_big (mul_lt_big ox.1 ox.1)) (to_big (mul_lt_big (den_abs x ox) (den_abs x ox))) (frac_mul x x) k⟩
  · obtain ⟨u1, rfl⟩ := one1 hl
    rfl
theorem sc_Exact_pair : FnScope ["self"] ["self"] (defScope s_Exact_pair) := ⟨rfl, rfl, rfl, by decide +kernel, rfl, by decide +kernel, by decide +kernel⟩
theorem ok_Exact_pair (T : Txt K mg)  : Mtd P w K mg base CX0 1 "Exact" "pair" ["self"] (sp1 (sp_pair K)) := by
  obtain ⟨fd, F⟩ := T.f_Exact_pair
  refine ⟨T.c_Exact, T.m_Exact_pair, fd, fnok_of F sc_Exact_pair (fun vs H Q E h => ?_) (fun vs H Q E h => ?_), F.binds (ps := ["self"]) fun _ _ _ _ _ _ us hl => ?_⟩
  · obtain ⟨a1, rfl, _⟩ := h
    rfl
  · obtain ⟨a1, rfl, h⟩ := h
    intro cdv A outer s hr
    refine ⟨_, (pss_one (ps_ret (pe_tup (pa_cons (pe_fld (pv 0) rfl) (pa_cons (pe_fld (pv 0) rfl) pa_nil))))), ?_⟩
    obtain ⟨x, ⟨p, dx, rfl, hp⟩, k⟩ := h
    exact ⟨_, rfl, _, _, _, _, _, rfl, hp, T.c_Exact, T.n_top, eF_top _, _, rfl, _, _, _, _, _, rfl, hp, T.c_Exact, T.n_bottom, eF_bottom _, (by show 2 ≤ sizeLine; decide), fun a ha => k _ _ (Same.new ha) ⟨a, rfl, upd_same⟩⟩
  · obtain ⟨u1, rfl⟩ := one1 hl
    rfl
theorem sc_exact : FnScope ["pair"] ["pair"] (defScope s_exact) := ⟨rfl, rfl, rfl, by decide +kernel, rfl, by decide +kernel, by decide +kernel⟩
theorem ok_exact (T : Txt K mg) (K_Exact : Mkd P w K mg base CX0 2 "Exact" ["self", "top", "bottom"] (sp3 (sp_Exact_init K))) : Dfn P w K mg base CX0 4 "exact" ["pair"] (sp1 (sp_exact K)) := by
  obtain ⟨fd, F⟩ := T.f_exact
  refine ⟨T.g_exact, F.kp, fd, fnok_of F sc_exact (fun vs H Q E h => ?_) (fun vs H Q E h => ?_), F.binds (ps := ["pair"]) fun _ _ _ _ _ _ us hl => ?_⟩
  · obtain ⟨a1, rfl, _⟩ := h
    rfl
  · obtain ⟨a1, rfl, h⟩ := h
    intro cdv A outer s hr
    refine ⟨_, (pss_one (ps_ret (pe_makeD K_Exact hr (pa_cons (pe_ix ix_tup (pv 0) pe_int (fun _ _ => rfl)) (pa_cons (pe_ix ix_tup (pv 0) pe_int (fun _ _ => rfl)) pa_nil))))), ?_⟩
    obtain ⟨x, ⟨p, rfl, hp⟩, ox, k⟩ := h
    exact ⟨_, rfl, _, _, _, _, rfl, rfl, .inl (.inl hp), rfl, _, rfl, _, _, _, _, rfl, rfl, .inl (.inl hp), rfl, make_E (den_pos x) (ok_big ox).1 (ok_big ox).2 (frac_self x) k⟩
  · obtain ⟨u1, rfl⟩ := one1 hl
    rfl
end
end R25

set_option Elab.async false
set_option linter.all false
set_option maxRecDepth 100000
set_option maxHeartbeats 4000000
namespace R25
open PySem PySem.Spec PyProof.Rows L2
/-! ### what is never changed is kept -/
def Keeps (H H' : Hp) : Prop := ∀ a o, H a = some o → Mutb o = false → H' a = some o
theorem Keeps.rfl' {H : Hp} : Keeps H H := fun _ _ h _ => h
theorem Keeps.trans {H H1 H2 : Hp} (a : Keeps H H1) (b : Keeps H1 H2) : Keeps H H2 := fun c o h m => b c o (a c o h m) m
theorem Keeps.of {H H' : Hp} (s : Same H H') : Keeps H H' := fun a o h _ => s a o h
theorem Keeps.upd {H : Hp} {a : Addr} {o u : HO} (ha : H a = some u) (hu : Mutb u = true) : Keeps H (L2.upd H a o) := fun c z h m => by
  rw [upd_ne (ne_of h ha (by rintro rfl; rw [hu] at m; cases m))]
  exact h
theorem Keeps.new {H : Hp} {a : Addr} {o : HO} (ha : H a = none) : Keeps H (L2.upd H a o) := Keeps.of (Same.new ha)
section
variable {K : PySem.W.Frag} {H H' : Hp} {v : V} {q : Rat}
theorem IsE.keep (s : Keeps H H') (h : IsE K H v q) : IsE K H' v q := let ⟨p, dx, e, h⟩ := h; ⟨p, dx, e, s _ _ h rfl⟩
theorem IsF.keep (s : Keeps H H') (h : IsF H v q) : IsF H' v q := let ⟨p, e, h⟩ := h; ⟨p, e, s _ _ h rfl⟩
end
/-! ### stalls -/
def IsS (H : Hp) (v : V) (t : Stl) : Prop := ∃ p x y z, v = .ref p ∧ H p = some (.tup [.int t.i, .int t.j, x, y, z]) ∧ IsF H x t.a ∧ IsF H y t.b ∧ IsF H z t.r
theorem IsS.keep {H H' : Hp} {v : V} {t : Stl} (s : Keeps H H') (h : IsS H v t) : IsS H' v t := let ⟨p, x, y, z, e, h, a, b, c⟩ := h; ⟨p, x, y, z, e, s _ _ h rfl, a.keep s, b.keep s, c.keep s⟩
/-! ### comprehensions that make one thing a turn -/
section
variable {te : TE} {vs : List Nat} {σ : L2.St} {H1 : Hp} {D : Addr} {Qd : Hp → Prop} {g : TG}
theorem lcm_range {n : Nat} (J : Nat → Hp → Prop) (R : Nat → V → Hp → Prop) (hn : n < sizeLine) (hR : ∀ k v H H', Keeps H H' → R k v H → R k v H') (hJ0 : J 0 (upd H1 D (.lst [])))
    (hJ : ∀ i H acc acc', J i H → H D = some (.lst acc) → J i (upd H D (.lst acc')))
    (hs : ∀ i H acc, i < n → J i H → H D = some (.lst acc) → acc.length = i → ∀ C : VK, (∀ y H4, H4 D = some (.lst acc) → Keeps H H4 → J (i + 1) H4 → R i y H4 → C y H4) → g (.int (0 + i)) (wipe σ vs) H fun σ2 H2 => wipe σ2 vs = wipe σ vs ∧ te σ2 H2 C)
    (hd : ∀ H acc, J n H → H D = some (.lst acc) → acc.length = n → (∀ k y, acc[k]? = some y → R k y H) → Qd H) :
    ∃ W : Nat → Nat → Hp → Prop, (∃ m, W 0 m (upd H1 D (.lst []))) ∧ ∀ i m H, W i m H →
      ((Itr 0 n).stop i H ∧ Qd H) ∨ ((Itr 0 n).go i H ∧ ∃ Nx : Hp → Prop, (∀ H', Nx H' → ∃ m', m' < m ∧ W (i + 1) m' H') ∧ ∀ x H', (Itr 0 n).yld i H x H' → g x (wipe σ vs) H' fun σ2 H2 => wipe σ2 vs = wipe σ vs ∧ tYes σ2 H2 fun b H3 =>
        if b = true then te σ2 H3 fun y H4 => ∃ acc, H4 D = some (.lst acc) ∧ acc.length < sizeLine ∧ Nx (upd H4 D (.lst (acc ++ [y]))) else Nx H3) := by
  refine lc_range (fun i H => J i H ∧ ∃ acc, H D = some (.lst acc) ∧ acc.length = i ∧ ∀ k y, acc[k]? = some y → R k y H) ⟨hJ0, [], upd_same, rfl, fun k y h => by simp at h⟩ ?_ ?_
  · rintro i H hi ⟨j, acc, h1, h2, h3⟩
    exact hs i H acc hi j h1 h2 _ fun y H4 e1 e2 e3 e4 => ⟨acc, e1, by omega, hJ _ _ _ _ e3 e1, acc ++ [y], upd_same, by simp [h2], fun k z hk => by
      have kp := Keeps.upd (o := .lst (acc ++ [y])) e1 rfl
      by_cases hlt : k < acc.length
      · rw [List.getElem?_append_left hlt] at hk
        exact hR _ _ _ _ (e2.trans kp) (h3 k z hk)
      · rw [List.getElem?_append_right (by omega)] at hk
        have e0 : k - acc.length = 0 := by
          by_cases h : k - acc.length = 0
          · exact h
          · rw [List.getElem?_eq_none (by simp; omega)] at hk
            cases hk
        rw [e0] at hk
        cases hk
        have : k = i := by omega
        subst this
        exact hR _ _ _ _ kp e4⟩
  · rintro H ⟨j, acc, h1, h2, h3⟩
    exact hd H acc j h1 h2 h3
theorem lcm_list {K : PySem.W.Frag} {a : Addr} {xs : List V} (J : Nat → Hp → Prop) (R : Nat → V → Hp → Prop) (hn : xs.length < sizeLine) (hR : ∀ k v H H', Keeps H H' → R k v H → R k v H') (hJ0 : J 0 (upd H1 D (.lst [])))
    (hl : ∀ i H, i ≤ xs.length → J i H → SqL K H a xs)
    (hJ : ∀ i H acc acc', J i H → H D = some (.lst acc) → J i (upd H D (.lst acc')))
    (hs : ∀ i x H acc, xs[i]? = some x → J i H → H D = some (.lst acc) → acc.length = i → ∀ C : VK, (∀ y H4, H4 D = some (.lst acc) → Keeps H H4 → J (i + 1) H4 → R i y H4 → C y H4) → g x (wipe σ vs) H fun σ2 H2 => wipe σ2 vs = wipe σ vs ∧ te σ2 H2 C)
    (hd : ∀ H acc, J xs.length H → H D = some (.lst acc) → acc.length = xs.length → (∀ k y, acc[k]? = some y → R k y H) → Qd H) :
    ∃ W : Nat → Nat → Hp → Prop, (∃ m, W 0 m (upd H1 D (.lst []))) ∧ ∀ i m H, W i m H →
      ((Itl K a).stop i H ∧ Qd H) ∨ ((Itl K a).go i H ∧ ∃ Nx : Hp → Prop, (∀ H', Nx H' → ∃ m', m' < m ∧ W (i + 1) m' H') ∧ ∀ x H', (Itl K a).yld i H x H' → g x (wipe σ vs) H' fun σ2 H2 => wipe σ2 vs = wipe σ vs ∧ tYes σ2 H2 fun b H3 =>
        if b = true then te σ2 H3 fun y H4 => ∃ acc, H4 D = some (.lst acc) ∧ acc.length < sizeLine ∧ Nx (upd H4 D (.lst (acc ++ [y]))) else Nx H3) := by
  refine lc_list (xs := xs) (fun i H => J i H ∧ ∃ acc, H D = some (.lst acc) ∧ acc.length = i ∧ ∀ k y, acc[k]? = some y → R k y H) ⟨hJ0, [], upd_same, rfl, fun k y h => by simp at h⟩ (fun i H hi h => hl i H hi h.1) ?_ ?_
  · rintro i x H hx ⟨j, acc, h1, h2, h3⟩
    have hi : i < xs.length := (List.getElem?_eq_some_iff.mp hx).1
    exact hs i x H acc hx j h1 h2 _ fun y H4 e1 e2 e3 e4 => ⟨acc, e1, by omega, hJ _ _ _ _ e3 e1, acc ++ [y], upd_same, by simp [h2], fun k z hk => by
      have kp := Keeps.upd (o := .lst (acc ++ [y])) e1 rfl
      by_cases hlt : k < acc.length
      · rw [List.getElem?_append_left hlt] at hk
        exact hR _ _ _ _ (e2.trans kp) (h3 k z hk)
      · rw [List.getElem?_append_right (by omega)] at hk
        have e0 : k - acc.length = 0 := by
          by_cases h : k - acc.length = 0
          · exact h
          · rw [List.getElem?_eq_none (by simp; omega)] at hk
            cases hk
        rw [e0] at hk
        cases hk
        have : k = i := by omega
        subst this
        exact hR _ _ _ _ kp e4⟩
  · rintro H ⟨j, acc, h1, h2, h3⟩
    exact hd H acc j h1 h2 h3
theorem lcm_tup {K : PySem.W.Frag} {a : Addr} {xs : List V} (J : Nat → Hp → Prop) (R : Nat → V → Hp → Prop) (hn : xs.length < sizeLine) (hR : ∀ k v H H', Keeps H H' → R k v H → R k v H') (hJ0 : J 0 (upd H1 D (.lst [])))
    (hl : ∀ i H, i ≤ xs.length → J i H → SqT K H a xs)
    (hJ : ∀ i H acc acc', J i H → H D = some (.lst acc) → J i (upd H D (.lst acc')))
    (hs : ∀ i x H acc, xs[i]? = some x → J i H → H D = some (.lst acc) → acc.length = i → ∀ C : VK, (∀ y H4, H4 D = some (.lst acc) → Keeps H H4 → J (i + 1) H4 → R i y H4 → C y H4) → g x (wipe σ vs) H fun σ2 H2 => wipe σ2 vs = wipe σ vs ∧ te σ2 H2 C)
    (hd : ∀ H acc, J xs.length H → H D = some (.lst acc) → acc.length = xs.length → (∀ k y, acc[k]? = some y → R k y H) → Qd H) :
    ∃ W : Nat → Nat → Hp → Prop, (∃ m, W 0 m (upd H1 D (.lst []))) ∧ ∀ i m H, W i m H →
      ((Itt K a).stop i H ∧ Qd H) ∨ ((Itt K a).go i H ∧ ∃ Nx : Hp → Prop, (∀ H', Nx H' → ∃ m', m' < m ∧ W (i + 1) m' H') ∧ ∀ x H', (Itt K a).yld i H x H' → g x (wipe σ vs) H' fun σ2 H2 => wipe σ2 vs = wipe σ vs ∧ tYes σ2 H2 fun b H3 =>
        if b = true then te σ2 H3 fun y H4 => ∃ acc, H4 D = some (.lst acc) ∧ acc.length < sizeLine ∧ Nx (upd H4 D (.lst (acc ++ [y]))) else Nx H3) := by
  refine lc_tup (xs := xs) (fun i H => J i H ∧ ∃ acc, H D = some (.lst acc) ∧ acc.length = i ∧ ∀ k y, acc[k]? = some y → R k y H) ⟨hJ0, [], upd_same, rfl, fun k y h => by simp at h⟩ (fun i H hi h => hl i H hi h.1) ?_ ?_
  · rintro i x H hx ⟨j, acc, h1, h2, h3⟩
    have hi : i < xs.length := (List.getElem?_eq_some_iff.mp hx).1
    exact hs i x H acc hx j h1 h2 _ fun y H4 e1 e2 e3 e4 => ⟨acc, e1, by omega, hJ _ _ _ _ e3 e1, acc ++ [y], upd_same, by simp [h2], fun k z hk => by
      have kp := Keeps.upd (o := .lst (acc ++ [y])) e1 rfl
      by_cases hlt : k < acc.length
      · rw [List.getElem?_append_left hlt] at hk
        exact hR _ _ _ _ (e2.trans kp) (h3 k z hk)
      · rw [List.getElem?_append_right (by omega)] at hk
        have e0 : k - acc.length = 0 := by
          by_cases h : k - acc.length = 0
          · exact h
          · rw [List.getElem?_eq_none (by simp; omega)] at hk
            cases hk
        rw [e0] at hk
        cases hk
        have : k = i := by omega
        subst this
        exact hR _ _ _ _ kp e4⟩
  · rintro H ⟨j, acc, h1, h2, h3⟩
    exact hd H acc j h1 h2 h3
end
/-! ### a == b by the own method -/
section
variable {X : Cx} {k j : Nat} {E : XK}
theorem op_eqE {K : PySem.W.Frag} (M : Mtd X.prog X.w K X.mg X.base CX0 k "Exact" "__eq__" ["self", "other"] (sp2 (sp_eqE K))) (hr : Room j X.A) (hK : X.K = K := by rfl) (hj : k ≤ j := by decide) : OpR X (compareOp .Eq) (rEqG (DIns (CE K) (REq K))) := by
  subst hK
  obtain ⟨fd, F, hb⟩ := M.fn
  refine op_eqG (rcG_ins (E := fun _ _ _ => False) (F.imp (sp' := spEq (REq X.K)) ?_) M.mt.at_ M.mt.fn hb pass0) (hr.mono hj)
  rintro vs H Q E ⟨a, b, rfl, h, k⟩
  exact ⟨_, _, rfl, _, _, rfl, rfl, h, k⟩
end
/-- a list of equal things is a list of trues -/
theorem all_bl {acc : List V} (h : ∀ (k : Nat) (y : V), acc[k]? = some y → y = V.bl true) : acc = (List.replicate acc.length true).map V.bl := by
  apply List.ext_getElem?
  intro k
  by_cases hk : k < acc.length
  · rw [List.getElem?_map, List.getElem?_replicate, if_pos hk]
    have e := List.getElem?_eq_getElem hk
    rw [e, h k _ e]
    rfl
  · rw [List.getElem?_eq_none (by omega), List.getElem?_eq_none (by simp; omega)]
theorem allL {K : PySem.W.Frag} {H : Hp} {D : Addr} {acc : List V} (hD : H D = some (.lst acc)) (hR : ∀ (k : Nat) (y : V), acc[k]? = some y → y = V.bl true) : SqL K H D ((List.replicate acc.length true).map V.bl) := by
  rw [← all_bl hR]
  exact .inl (.inl hD)
theorem allT (n : Nat) : (List.replicate n true).all id = true := by simp
theorem allF (n : Nat) : (!(List.replicate n true).all id) = false := by simp
/-! ### promises -/
def sp_is_fraction : F1 := fun a H Q _ => ∃ q, IsF H a q ∧ Q (.bl true) H
def sp_is_amount : F1 := fun a H Q _ => ∃ q, IsF H a q ∧ 0 ≤ q ∧ Q (.bl true) H
def sp_is_some : F1 := fun a H Q _ => ∃ q, IsF H a q ∧ 0 < q ∧ Q (.bl true) H
def sp_is_ware_below : F2 := fun a b H Q _ => ∃ i n : Nat, a = .int i ∧ b = .int n ∧ i < n ∧ Q (.bl true) H
def sp_is_stall : F2 := fun a b H Q _ => ∃ t n, IsS H a t ∧ OkS n t ∧ b = .int (n : Nat) ∧ ∀ H', Same H H' → Q (.bl true) H'
def sp_law_divisor : F2 := fun a b H Q _ => ∃ m n : Int, a = .int m ∧ b = .int n ∧ 0 < n ∧ n.natAbs < 2 ^ big ∧ Q (.int (Int.gcd m n : Nat)) H
def sp_law_made : F2 := fun a b H Q _ => ∃ m n : Int, a = .int m ∧ b = .int n ∧ 0 < n ∧ n.natAbs < 2 ^ big ∧ ∀ v H', Same H H' → IsF H' v (Rat.divInt m n) → Q v H'
def spF2 (f : Rat → Rat → Rat) : F2 := fun a b H Q _ => ∃ x y, IsF H a x ∧ IsF H b y ∧ Ok x ∧ Ok y ∧ ∀ v H', Same H H' → IsF H' v (f x y) → Q v H'
def sp_law_added : F2 := spF2 fun x y => x + y
def sp_law_taken : F2 := spF2 fun x y => x - y
def sp_law_product : F2 := spF2 fun x y => x * y
theorem gcd_self (q : Rat) : Int.gcd q.num q.den = 1 := by
  have := q.reduced
  unfold Nat.Coprime at this
  simpa [Int.gcd] using this
theorem qbl {Q : VK} {H : Hp} {b : Bool} (e : b = true) (h : Q (.bl true) H) : Q (.bl b) H := by rw [e]; exact h
theorem qblF {Q : VK} {H : Hp} {b : Bool} (e : b = false) (h : Q (.bl false) H) : Q (.bl b) H := by rw [e]; exact h
theorem qint {Q : VK} {H : Hp} {a b : Int} (e : a = b) (h : Q (.int b) H) : Q (.int a) H := by rw [e]; exact h
theorem mod_half {x y : Nat} (h : y < x) (hy : 0 < y) : 2 * (x % y) < x := by
  have h1 := Nat.mod_lt x hy
  have h2 := Nat.div_add_mod x y
  have h3 : 1 ≤ x / y := (Nat.one_le_div_iff hy).mpr (Nat.le_of_lt h)
  have h4 : y * 1 ≤ y * (x / y) := Nat.mul_le_mul_left y h3
  omega
end R25

set_option Elab.async false
set_option linter.all false
set_option maxRecDepth 100000
set_option maxHeartbeats 4000000
namespace R25
open PySem PySem.Spec PyProof.Rows L2
abbrev CW (K : PySem.W.Frag) : Addr := He.ga K "Web"
abbrev CTb (K : PySem.W.Frag) : Addr := He.ga K "Table"
/-! ### lists of numbers, of stalls; webs -/
def ItF (H : Hp) (vs : List V) (f : Nat → Rat) : Prop := ∀ (k : Nat) (y : V), vs[k]? = some y → IsF H y (f k)
def ItE (K : PySem.W.Frag) (H : Hp) (vs : List V) (f : Nat → Rat) : Prop := ∀ (k : Nat) (y : V), vs[k]? = some y → IsE K H y (f k)
def ItS (H : Hp) (vs : List V) (l : List Stl) : Prop := vs.length = l.length ∧ ∀ (k : Nat) (y : V), vs[k]? = some y → ∃ t, l[k]? = some t ∧ IsS H y t
def NumL (H : Hp) (v : V) (n : Nat) (f : Nat → Rat) : Prop := ∃ p vs, v = .ref p ∧ H p = some (.lst vs) ∧ vs.length = n ∧ ItF H vs f
def ExL (K : PySem.W.Frag) (H : Hp) (v : V) (n : Nat) (f : Nat → Rat) : Prop := ∃ p vs, v = .ref p ∧ H p = some (.lst vs) ∧ vs.length = n ∧ ItE K H vs f
def wF (n : Nat) (q : Addr) : List (Str × V) := putF "stalls" (.ref q) (putF "wares" (.int n) [])
structure OkW (n : Nat) (l : List Stl) : Prop where
  n1 : 1 ≤ n
  n8 : n ≤ 8
  l16 : l.length ≤ 16
  ok : ∀ t ∈ l, OkS n t
def WebAt (K : PySem.W.Frag) (H : Hp) (v : V) (n : Nat) (l : List Stl) : Prop := OkW n l ∧ ∃ p dx q vs, v = .ref p ∧ H p = some (.ins (CW K) dx (wF n q)) ∧ SqT K H q vs ∧ ItS H vs l
theorem SqT.keep {K : PySem.W.Frag} {H H' : Hp} {a : Addr} {xs : List V} (s : Keeps H H') (h : SqT K H a xs) : SqT K H' a xs := by
  rcases h with (h | ⟨o, h⟩) | h
  · exact .inl (.inl (s _ _ h rfl))
  · exact .inl (.inr ⟨o, s _ _ h rfl⟩)
  · exact .inr h
theorem ItF.keep {H H' : Hp} {vs : List V} {f : Nat → Rat} (s : Keeps H H') (h : ItF H vs f) : ItF H' vs f := fun k y e => (h k y e).keep s
theorem ItE.keep {K : PySem.W.Frag} {H H' : Hp} {vs : List V} {f : Nat → Rat} (s : Keeps H H') (h : ItE K H vs f) : ItE K H' vs f := fun k y e => (h k y e).keep s
theorem ItS.keep {H H' : Hp} {vs : List V} {l : List Stl} (s : Keeps H H') (h : ItS H vs l) : ItS H' vs l := ⟨h.1, fun k y e => let ⟨t, a, b⟩ := h.2 k y e; ⟨t, a, b.keep s⟩⟩
theorem NumL.up {H H' : Hp} {v : V} {n : Nat} {f : Nat → Rat} (s : Same H H') (h : NumL H v n f) : NumL H' v n f := let ⟨p, vs, e, a, b, c⟩ := h; ⟨p, vs, e, s _ _ a, b, c.keep (Keeps.of s)⟩
theorem ExL.up {K : PySem.W.Frag} {H H' : Hp} {v : V} {n : Nat} {f : Nat → Rat} (s : Same H H') (h : ExL K H v n f) : ExL K H' v n f := let ⟨p, vs, e, a, b, c⟩ := h; ⟨p, vs, e, s _ _ a, b, c.keep (Keeps.of s)⟩
theorem WebAt.keep {K : PySem.W.Frag} {H H' : Hp} {v : V} {n : Nat} {l : List Stl} (s : Keeps H H') (h : WebAt K H v n l) : WebAt K H' v n l := let ⟨o, p, dx, q, vs, e, a, b, c⟩ := h; ⟨o, p, dx, q, vs, e, s _ _ a rfl, SqT.keep s b, c.keep s⟩
theorem WebAt.up {K : PySem.W.Frag} {H H' : Hp} {v : V} {n : Nat} {l : List Stl} (s : Same H H') (h : WebAt K H v n l) : WebAt K H' v n l := h.keep (Keeps.of s)
theorem wF_wares (n : Nat) (q : Addr) : (wF n q).lookup ("wares" : Str) = some (V.int n) := by
  unfold wF
  rw [lookup_putF, if_neg (sne (by decide +kernel)), lookup_putF, if_pos rfl]
theorem wF_stalls (n : Nat) (q : Addr) : (wF n q).lookup ("stalls" : Str) = some (V.ref q) := by
  unfold wF
  rw [lookup_putF, if_pos rfl]
/-- numbers found one by one are the values of one function -/
theorem ItF.of {H : Hp} {vs : List V} {Pr : Rat → Prop} (h0 : Pr 0) (h : ∀ (k : Nat) (y : V), vs[k]? = some y → ∃ q, IsF H y q ∧ Pr q) : ∃ f, ItF H vs f ∧ ∀ k, Pr (f k) := by
  have : ∀ k : Nat, ∃ q, (∀ y : V, vs[k]? = some y → IsF H y q) ∧ Pr q := fun k => by
    cases e : vs[k]? with
    | none => exact ⟨0, fun y z => (by cases z), h0⟩
    | some y =>
      obtain ⟨q, a, b⟩ := h k y e
      exact ⟨q, fun z ez => (by cases ez; exact a), b⟩
  exact ⟨fun k => Classical.choose (this k), fun k y e => (Classical.choose_spec (this k)).1 y e, fun k => (Classical.choose_spec (this k)).2⟩
theorem ItS.len {H : Hp} {vs : List V} {l : List Stl} (h : ItS H vs l) : vs.length = l.length := h.1
theorem ItS.of {H : Hp} {vs : List V} {Pr : Stl → Prop} (h : ∀ (k : Nat) (y : V), vs[k]? = some y → ∃ t, IsS H y t ∧ Pr t) : ∃ l, ItS H vs l ∧ ∀ t ∈ l, Pr t := by
  induction vs with
  | nil => exact ⟨[], ⟨rfl, fun k y e => by simp at e⟩, fun t ht => by cases ht⟩
  | cons v vs ih =>
    obtain ⟨l, h1, h2⟩ := ih fun k y e => h (k + 1) y (by simpa using e)
    obtain ⟨t, a, b⟩ := h 0 v rfl
    refine ⟨t :: l, ⟨by simp [h1.1], fun k y e => ?_⟩, fun u hu => ?_⟩
    · cases k with
      | zero => cases e; exact ⟨t, rfl, a⟩
      | succ k => exact h1.2 k y (by simpa using e)
    · rcases List.mem_cons.mp hu with e | hu
      · exact e ▸ b
      · exact h2 u hu
theorem ItS.snoc {H : Hp} {vs : List V} {l : List Stl} {v : V} {t : Stl} (h : ItS H vs l) (ht : IsS H v t) : ItS H (vs ++ [v]) (l ++ [t]) := by
  refine ⟨by simp [h.1], fun k y e => ?_⟩
  by_cases hk : k < vs.length
  · rw [List.getElem?_append_left hk] at e
    rw [List.getElem?_append_left (by rw [← h.1]; exact hk)]
    exact h.2 k y e
  · have hk' : k = vs.length := by
      have := (List.getElem?_eq_some_iff.mp e).1
      simp at this
      omega
    subst hk'
    rw [h.1]
    simp at e
    subst e
    exact ⟨t, by simp, ht⟩
theorem ItF.set {H : Hp} {vs : List V} {f : Nat → Rat} {i : Nat} {v : V} {q : Rat} (h : ItF H vs f) (hv : IsF H v q) : ItF H (vs.set i v) (fun k => if k = i then q else f k) := fun k y e => by
  rw [List.getElem?_set] at e
  by_cases hk : i = k
  · subst hk
    rw [if_pos rfl] at e
    show IsF H y (if i = i then q else f i)
    rw [if_pos rfl]
    by_cases hl : i < vs.length
    · rw [if_pos hl] at e
      cases e
      exact hv
    · rw [if_neg hl] at e
      cases e
  · rw [if_neg hk] at e
    show IsF H y (if k = i then q else f k)
    rw [if_neg (fun z => hk z.symm)]
    exact h k y e
theorem ItE.set {K : PySem.W.Frag} {H : Hp} {vs : List V} {f : Nat → Rat} {i : Nat} {v : V} {q : Rat} (h : ItE K H vs f) (hv : IsE K H v q) : ItE K H (vs.set i v) (fun k => if k = i then q else f k) := fun k y e => by
  rw [List.getElem?_set] at e
  by_cases hk : i = k
  · subst hk
    rw [if_pos rfl] at e
    show IsE K H y (if i = i then q else f i)
    rw [if_pos rfl]
    by_cases hl : i < vs.length
    · rw [if_pos hl] at e
      cases e
      exact hv
    · rw [if_neg hl] at e
      cases e
  · rw [if_neg hk] at e
    show IsE K H y (if k = i then q else f k)
    rw [if_neg (fun z => hk z.symm)]
    exact h k y e
/-! ### rows: dicts by number -/
abbrev KVs := List (Key × V)
structure Row (K : PySem.W.Frag) (H : Hp) (kvs : KVs) (D : Nat → Prop) (f : Nat → Rat) : Prop where
  nd : (kvs.map (·.1)).Nodup
  has : ∀ j : Nat, D j → ∃ v, valV kvs (.inl (j : Int)) = some v ∧ IsE K H v (f j)
  non : ∀ key v, valV kvs key = some v → ∃ j : Nat, key = .inl (j : Int) ∧ D j
theorem map_putK (kvs : KVs) (k : Key) (v : V) (h : valV kvs k ≠ none) : (putK kvs k v).map (·.1) = kvs.map (·.1) := by
  unfold putK
  rw [valV_any, if_pos (Option.isSome_iff_ne_none.mpr h), List.map_map]
  refine List.map_congr_left fun kv _ => ?_
  show (if kv.1 = k then (kv.1, v) else kv).1 = kv.1
  split <;> rfl
theorem valV_drop (kvs : KVs) (k j : Key) : valV (dropK kvs k) j = if j = k then none else valV kvs j := by
  unfold dropK
  induction kvs with
  | nil => split <;> rfl
  | cons p r ih =>
    by_cases hp : p.1 = k
    · rw [List.filter_cons_of_neg (by simp [hp])]
      rw [ih]
      by_cases hj : j = k
      · rw [if_pos hj, if_pos hj]
      · rw [if_neg hj, if_neg hj, valV_neg (fun e => hj (e.symm.trans hp))]
    · rw [List.filter_cons_of_pos (by simp [hp])]
      by_cases hj : p.1 = j
      · rw [valV_pos hj, if_neg (fun e => hp (hj.trans e)), valV_pos hj]
      · rw [valV_neg hj, ih, valV_neg hj]
theorem valV_at {kvs : KVs} (nd : (kvs.map (·.1)).Nodup) {i : Nat} {k : Key} {v : V} (h : kvs[i]? = some (k, v)) : valV kvs k = some v := by
  induction kvs generalizing i with
  | nil => simp at h
  | cons p r ih =>
    rw [List.map_cons, List.nodup_cons] at nd
    cases i with
    | zero => cases h; exact valV_pos rfl
    | succ i =>
      have h : r[i]? = some (k, v) := by simpa using h
      have hm : k ∈ r.map (·.1) := List.mem_map.mpr ⟨(k, v), List.mem_of_getElem? h, rfl⟩
      rw [valV_neg (fun e => nd.1 (e ▸ hm))]
      exact ih nd.2 h
section
variable {K : PySem.W.Frag} {H H' : Hp} {kvs : KVs} {D D' : Nat → Prop} {f f' : Nat → Rat}
theorem Row.keep (s : Keeps H H') (r : Row K H kvs D f) : Row K H' kvs D f := ⟨r.nd, fun j d => let ⟨v, a, b⟩ := r.has j d; ⟨v, a, b.keep s⟩, r.non⟩
theorem Row.congr (r : Row K H kvs D f) (h : ∀ j, D j ↔ D' j) (hf : ∀ j, D j → f j = f' j) : Row K H kvs D' f' :=
  ⟨r.nd, fun j d => let ⟨v, a, b⟩ := r.has j ((h j).mpr d); ⟨v, a, hf j ((h j).mpr d) ▸ b⟩, fun key v e => let ⟨j, a, b⟩ := r.non key v e; ⟨j, a, (h j).mp b⟩⟩
theorem Row.nil : Row K H [] (fun _ => False) f := ⟨List.nodup_nil, fun j d => d.elim, fun key v e => by cases e⟩
theorem inl_inj {i j : Nat} (h : (Sum.inl (i : Int) : Key) = .inl (j : Int)) : i = j := by
  injection h with h
  omega
theorem Row.put (r : Row K H kvs D f) {j : Nat} {v : V} {q : Rat} (hv : IsE K H v q) : Row K H (putK kvs (.inl (j : Int)) v) (fun i => D i ∨ i = j) (fun i => if i = j then q else f i) := by
  refine ⟨?_, fun i d => ?_, fun key x e => ?_⟩
  · by_cases h : valV kvs (.inl (j : Int)) = none
    · exact nd_putK v r.nd h
    · rw [map_putK _ _ _ h]
      exact r.nd
  · rw [valV_put]
    by_cases hij : i = j
    · subst hij
      exact ⟨v, if_pos rfl, by simpa using hv⟩
    · obtain ⟨y, a, b⟩ := r.has i (d.resolve_right hij)
      exact ⟨y, by rw [if_neg (fun e => hij (inl_inj e)), a], by simpa [hij] using b⟩
  · rw [valV_put] at e
    by_cases hk : key = .inl (j : Int)
    · exact ⟨j, hk, .inr rfl⟩
    · rw [if_neg hk] at e
      obtain ⟨i, a, b⟩ := r.non key x e
      exact ⟨i, a, .inl b⟩
theorem Row.drop (r : Row K H kvs D f) (j : Nat) : Row K H (dropK kvs (.inl (j : Int))) (fun i => D i ∧ i ≠ j) f := by
  refine ⟨?_, fun i d => ?_, fun key x e => ?_⟩
  · have : ((dropK kvs (.inl (j : Int))).map (·.1)).Sublist (kvs.map (·.1)) := List.Sublist.map _ List.filter_sublist
    exact List.Pairwise.sublist this r.nd
  · rw [valV_drop, if_neg (fun e => d.2 (inl_inj e))]
    exact r.has i d.1
  · rw [valV_drop] at e
    by_cases hk : key = .inl (j : Int)
    · rw [if_pos hk] at e
      cases e
    · rw [if_neg hk] at e
      obtain ⟨i, a, b⟩ := r.non key x e
      exact ⟨i, a, b, fun z => hk (z ▸ a)⟩
theorem Row.at_ (r : Row K H kvs D f) {i : Nat} {k : Key} {v : V} (h : kvs[i]? = some (k, v)) : ∃ j : Nat, k = .inl (j : Int) ∧ D j ∧ IsE K H v (f j) := by
  have e := valV_at r.nd h
  obtain ⟨j, a, b⟩ := r.non k v e
  obtain ⟨u, c, d⟩ := r.has j b
  rw [← a, e] at c
  cases c
  exact ⟨j, a, b, d⟩
/-- the keys as numbers -/
theorem Row.keys (r : Row K H kvs D f) : ∃ js : List Nat, kvs.map (·.1) = js.map (fun (j : Nat) => (Sum.inl (j : Int) : Key)) ∧ js.Nodup ∧ (∀ j, j ∈ js ↔ D j) ∧ js.length = kvs.length := by
  have all : ∀ l : KVs, (∀ kv ∈ l, ∃ j : Nat, kv.1 = .inl (j : Int)) → ∃ js : List Nat, l.map (·.1) = js.map (fun (j : Nat) => (Sum.inl (j : Int) : Key)) := fun l => by
    induction l with
    | nil => exact fun _ => ⟨[], rfl⟩
    | cons p q ih =>
      intro h
      obtain ⟨js, e⟩ := ih fun kv hkv => h kv (List.mem_cons_of_mem _ hkv)
      obtain ⟨j, ej⟩ := h p (List.mem_cons_self)
      exact ⟨j :: js, by simp [e, ej]⟩
  obtain ⟨js, e⟩ := all kvs fun kv hkv => by
    obtain ⟨i, hi, e⟩ := List.getElem_of_mem hkv
    obtain ⟨j, a, _, _⟩ := r.at_ (i := i) (k := kv.1) (v := kv.2) (by rw [List.getElem?_eq_getElem hi, e])
    exact ⟨j, a⟩
  have hm : ∀ j, j ∈ js ↔ (Sum.inl (j : Int) : Key) ∈ kvs.map (·.1) := fun j => by
    rw [e, List.mem_map]
    exact ⟨fun h => ⟨j, h, rfl⟩, fun ⟨i, h, x⟩ => by
      have := inl_inj x
      subst this
      exact h⟩
  refine ⟨js, e, ?_, fun j => (hm j).trans ⟨fun h => ?_, fun d => ?_⟩, by simpa using (congrArg List.length e).symm⟩
  · have nd := r.nd
    rw [e] at nd
    exact List.Pairwise.of_map _ (fun a b h hab => h (by rw [hab])) nd
  · obtain ⟨kv, h1, h2⟩ := List.mem_map.mp h
    obtain ⟨i, hi, e⟩ := List.getElem_of_mem h1
    obtain ⟨j', a, b, _⟩ := r.at_ (i := i) (k := kv.1) (v := kv.2) (by rw [List.getElem?_eq_getElem hi, e])
    have := inl_inj (h2.symm.trans a)
    exact this ▸ b
  · obtain ⟨v, a, _⟩ := r.has j d
    exact valV_in a
theorem Row.len {n : Nat} (r : Row K H kvs D f) (h : ∀ j, D j → j < n) : kvs.length ≤ n := by
  obtain ⟨js, _, nd, hm, hl⟩ := r.keys
  rw [← hl]
  exact nodup_len n js nd fun x hx => h x ((hm x).mp hx)
theorem Row.get (r : Row K H kvs D f) {a : Addr} (ha : H a = some (.dK kvs)) {j : Nat} (d : D j) : ∃ v, DGet H a (.int (j : Int)) (some v) ∧ IsE K H v (f j) := by
  obtain ⟨v, e, i⟩ := r.has j d
  exact ⟨v, .inl ⟨kvs, .inl (j : Int), .inl ha, rfl, e.symm⟩, i⟩
theorem Row.not (r : Row K H kvs D f) {a : Addr} (ha : H a = some (.dK kvs)) {j : Nat} (d : ¬ D j) : DGet H a (.int (j : Int)) none := by
  refine .inl ⟨kvs, .inl (j : Int), .inl ha, rfl, ?_⟩
  cases e : valV kvs (.inl (j : Int)) with
  | none => rfl
  | some v =>
    obtain ⟨i, a, b⟩ := r.non _ _ e
    have := inl_inj a
    exact absurd (this ▸ b) d
theorem Row.pos (r : Row K H kvs D f) : 0 < kvs.length ↔ ∃ j, D j := by
  obtain ⟨js, _, nd, hm, hl⟩ := r.keys
  rw [← hl]
  constructor
  · intro h
    exact ⟨js[0], (hm _).mp (List.getElem_mem h)⟩
  · rintro ⟨j, d⟩
    exact List.length_pos_of_mem ((hm j).mpr d)
end
end R25

set_option Elab.async false
set_option linter.all false
set_option maxRecDepth 100000
set_option maxHeartbeats 4000000
namespace R25
open PySem PySem.Spec PyProof.Rows L2
/-! ### a family of rows at addresses -/
structure Rows (K : PySem.W.Frag) (H : Hp) (rl : List Addr) (A : Nat → Prop) (D : Nat → Nat → Prop) (T : Nat → Nat → Rat) : Prop where
  nd : rl.Nodup
  row : ∀ i r, A i → rl[i]? = some r → ∃ kvs, H r = some (.dK kvs) ∧ Row K H kvs (D i) (T i)
theorem nodup_at {α : Type} {l : List α} (nd : l.Nodup) {i j : Nat} {x : α} (h1 : l[i]? = some x) (h2 : l[j]? = some x) : i = j := by
  obtain ⟨a, e1⟩ := List.getElem?_eq_some_iff.mp h1
  exact (List.getElem?_inj a nd).mp (h1.trans h2.symm)
section
variable {K : PySem.W.Frag} {H H' : Hp} {rl : List Addr} {A A' : Nat → Prop} {D D' : Nat → Nat → Prop} {T T' : Nat → Nat → Rat}
theorem Rows.up (s : Same H H') (r : Rows K H rl A D T) : Rows K H' rl A D T := ⟨r.nd, fun i a h e => let ⟨kvs, x, y⟩ := r.row i a h e; ⟨kvs, s _ _ x, y.keep (Keeps.of s)⟩⟩
theorem Rows.congr (r : Rows K H rl A D T) (hA : ∀ i, A' i → A i) (h : ∀ i j, A' i → (D i j ↔ D' i j)) (hT : ∀ i j, A' i → D i j → T i j = T' i j) : Rows K H rl A' D' T' :=
  ⟨r.nd, fun i a h1 e => let ⟨kvs, x, y⟩ := r.row i a (hA i h1) e; ⟨kvs, x, y.congr (fun j => h i j h1) fun j => hT i j h1⟩⟩
/-- something else has changed -/
theorem Rows.frame {x : Addr} {o u : HO} (r : Rows K H rl A D T) (hx : H x = some u) (hu : Mutb u = true) (hn : x ∉ rl) : Rows K (upd H x o) rl A D T :=
  ⟨r.nd, fun i a h1 e => by
    obtain ⟨kvs, y, z⟩ := r.row i a h1 e
    refine ⟨kvs, ?_, z.keep (Keeps.upd hx hu)⟩
    have hne : a ≠ x := fun q => by subst q; exact hn (List.mem_of_getElem? e)
    rw [upd_ne hne]
    exact y⟩
theorem Rows.lst {x : Addr} {o : HO} {vs : List V} (r : Rows K H rl A D T) (hA : ∀ i a, rl[i]? = some a → A i) (hx : H x = some (.lst vs)) : Rows K (upd H x o) rl A D T :=
  r.frame hx rfl fun hm => by
    obtain ⟨i, hi, e⟩ := List.getElem_of_mem hm
    have e' : rl[i]? = some x := by rw [List.getElem?_eq_getElem hi, e]
    obtain ⟨kvs, y, _⟩ := r.row i x (hA i x e') e'
    rw [hx] at y
    cases y
theorem Rows.put {u w : Nat} {a : Addr} {kvs : KVs} {v : V} {q : Rat} (r : Rows K H rl A D T) (hA : A u) (ha : rl[u]? = some a) (hk : H a = some (.dK kvs)) (hv : IsE K H v q) :
    Rows K (upd H a (.dK (putK kvs (.inl (w : Int)) v))) rl A (fun i j => D i j ∨ (i = u ∧ j = w)) (fun i j => if i = u ∧ j = w then q else T i j) :=
  ⟨r.nd, fun i b h1 e => by
    have kp : Keeps H (upd H a (.dK (putK kvs (.inl (w : Int)) v))) := Keeps.upd hk rfl
    by_cases hi : i = u
    · subst hi
      rw [ha] at e
      cases e
      obtain ⟨kvs', y, z⟩ := r.row i a hA ha
      rw [hk] at y
      cases y
      refine ⟨_, upd_same, ((z.put hv).keep kp).congr (fun j => ?_) fun j _ => ?_⟩
      · simp
      · simp
    · obtain ⟨kvs', y, z⟩ := r.row i b h1 e
      refine ⟨kvs', ?_, (z.keep kp).congr (fun j => ?_) fun j _ => ?_⟩
      · have hne : b ≠ a := fun q => by subst q; exact hi (nodup_at r.nd e ha)
        rw [upd_ne hne]
        exact y
      · simp [hi]
      · simp [hi]⟩
theorem Rows.drop {u w : Nat} {a : Addr} {kvs : KVs} (r : Rows K H rl A D T) (hA : A u) (ha : rl[u]? = some a) (hk : H a = some (.dK kvs)) :
    Rows K (upd H a (.dK (dropK kvs (.inl (w : Int))))) rl A (fun i j => D i j ∧ ¬ (i = u ∧ j = w)) T :=
  ⟨r.nd, fun i b h1 e => by
    have kp : Keeps H (upd H a (.dK (dropK kvs (.inl (w : Int))))) := Keeps.upd hk rfl
    by_cases hi : i = u
    · subst hi
      rw [ha] at e
      cases e
      obtain ⟨kvs', y, z⟩ := r.row i a hA ha
      rw [hk] at y
      cases y
      refine ⟨_, upd_same, ((z.drop w).keep kp).congr (fun j => ?_) fun j _ => rfl⟩
      simp
    · obtain ⟨kvs', y, z⟩ := r.row i b h1 e
      refine ⟨kvs', ?_, (z.keep kp).congr (fun j => ?_) fun j _ => rfl⟩
      · have hne : b ≠ a := fun q => by subst q; exact hi (nodup_at r.nd e ha)
        rw [upd_ne hne]
        exact y
      · simp [hi]⟩
/-- .get(there, zero) -/
theorem Rows.getD {u w : Nat} {a : Addr} {z : V} (r : Rows K H rl A D T) (hA : A u) (ha : rl[u]? = some a) (h0 : ¬ D u w → T u w = 0) (hz : IsE K H z 0) : ∃ o, DGet H a (.int (w : Int)) o ∧ IsE K H (o.getD z) (T u w) := by
  obtain ⟨kvs, y, x⟩ := r.row u a hA ha
  by_cases d : D u w
  · obtain ⟨v, g, i⟩ := x.get y d
    exact ⟨some v, g, i⟩
  · exact ⟨none, x.not y d, by rw [h0 d]; exact hz⟩
theorem Rows.isD {u : Nat} {a : Addr} (r : Rows K H rl A D T) (hA : A u) (ha : rl[u]? = some a) : IsD H a := by
  obtain ⟨kvs, y, _⟩ := r.row u a hA ha
  exact .inl ⟨kvs, .inl y⟩
end
def Dn (k n : Nat) (T : Nat → Nat → Rat) : Nat → Nat → Prop := fun i j => k ≤ j ∧ j < n ∧ j ≠ i ∧ 0 < T i j
/-- one tie raised -/
theorem Rows.raise {K : PySem.W.Frag} {H : Hp} {rl : List Addr} {A : Nat → Prop} {T : Nat → Nat → Rat} {k n u v : Nat} {a : Addr} {kvs : KVs} {z : V} {x : Rat} (r : Rows K H rl A (Dn k n T) T) (hA : A u) (ha : rl[u]? = some a) (hk : H a = some (.dK kvs))
    (hz : IsE K H z (T u v + x)) (h0 : 0 ≤ T u v) (hx : 0 < x) (hv : k ≤ v) (hn : v < n) (hne : v ≠ u) :
    Rows K (upd H a (.dK (putK kvs (.inl (v : Int)) z))) rl A (Dn k n fun i j => T i j + if i = u ∧ j = v then x else 0) (fun i j => T i j + if i = u ∧ j = v then x else 0) := by
  have hp : 0 < T u v + x := by grind
  refine (r.put (w := v) hA ha hk hz).congr (fun _ h => h) (fun i j _ => ?_) fun i j _ _ => ?_
  · unfold Dn
    by_cases h : i = u ∧ j = v
    · obtain ⟨rfl, rfl⟩ := h
      simp [hp, hv, hn, hne]
    · simp [h, Rat.add_zero]
  · by_cases h : i = u ∧ j = v
    · obtain ⟨rfl, rfl⟩ := h
      simp
    · simp [h, Rat.add_zero]
theorem Same.free {H H' : Hp} {a : Addr} (s : Same H H') (h : H' a = none) : H a = none := by
  cases e : H a with
  | none => rfl
  | some o =>
    have := s _ _ e
    rw [h] at this
    cases this
theorem kitL {K : PySem.W.Frag} : PySem.W.kitAny K (.type "list") [.type "list", .type "tuple"] = some true := kitAny_cons (b := true) (kit_ty (by decide +kernel)) (fun h => by cases h) fun _ => rfl
/-! ### promises: webs and what is had in them -/
def mkL (K : PySem.W.Frag) (H : Hp) (Q : VK) (n : Nat) (f : Nat → Rat) : Prop := ∀ p vs H', H p = none → Same H H' → H' p = some (.lst vs) → vs.length = n → ItE K H' vs f → Q (.ref p) H'
section
variable (K : PySem.W.Frag)
def sp_Web_init : F3 := fun s a b H Q _ => ∃ (p dx q : Addr) (vs : List V) (n : Nat) (l : List Stl), s = .ref p ∧ H p = some (.ins (CW K) dx []) ∧ a = .int (n : Int) ∧ b = .ref q ∧ H q = some (.lst vs) ∧ ItS H vs l ∧ OkW n l ∧
  ∀ q' H', H' p = some (.ins (CW K) dx (wF n q')) → H' q' = some (.tup vs) → (∀ c o, H c = some o → c ≠ p → H' c = some o) → Q .non H'
def sp_is_amounts : F2 := fun a b H Q _ => ∃ n : Nat, b = .int (n : Int) ∧ ((∃ f, NumL H a n f ∧ (∀ k, 0 ≤ f k) ∧ n ≤ 8 ∧ ∀ H', Same H H' → Q (.bl true) H') ∨ ∃ p vs, a = .ref p ∧ H p = some (.lst vs) ∧ vs.length ≠ n ∧ ∀ H', Same H H' → Q (.bl false) H')
def sp_check : F2 := fun a b H Q _ => ∃ n l f, WebAt K H a n l ∧ NumL H b n f ∧ Amt f ∧ mkL K H Q n f
def sp_empty : F1 := fun a H Q _ => ∃ n l, WebAt K H a n l ∧ mkL K H Q n fun _ => 0
def sp_held_exact : F1 := fun a H Q _ => ∃ n l, WebAt K H a n l ∧ mkL K H Q n (heldS l)
def sp_roots_exact : F1 := fun a H Q _ => ∃ n l, WebAt K H a n l ∧ ∀ p rl H', H p = none → (∀ r ∈ rl, H r = none) → Same H H' → H' p = some (.lst (rl.map V.ref)) → rl.length = n → Rows K H' rl (fun _ => True) (Dn 0 n (tieS l)) (tieS l) → Q (.ref p) H'
end
theorem make_zero {K : PySem.W.Frag} {H : Hp} {Q : VK} {E : XK} (h : ∀ v H', Same H H' → IsE K H' v 0 → Q v H') :
    ∀ x dx, H x = none → H dx = none → dx ≠ x → sp3 (sp_Exact_init K) (.ref x :: ([.int 0, .int 1] ++ [])) (upd (upd H dx (.own x)) x (.ins (CE K) dx [])) (fun v H2 => v = .non ∧ Q (.ref x) H2) E :=
  have this : 2 ^ 1 ≤ 2 ^ big := Nat.pow_le_pow_right (by decide) (by decide)
  make_E (by decide) (Nat.lt_of_lt_of_le (by decide) this) (Nat.lt_of_lt_of_le (by decide) this) rfl h
theorem make_one {K : PySem.W.Frag} {H : Hp} {Q : VK} {E : XK} (h : ∀ v H', Same H H' → IsE K H' v 1 → Q v H') :
    ∀ x dx, H x = none → H dx = none → dx ≠ x → sp3 (sp_Exact_init K) (.ref x :: ([.int 1, .int 1] ++ [])) (upd (upd H dx (.own x)) x (.ins (CE K) dx [])) (fun v H2 => v = .non ∧ Q (.ref x) H2) E :=
  have this : 2 ^ 1 ≤ 2 ^ big := Nat.pow_le_pow_right (by decide) (by decide)
  make_E (by decide) (Nat.lt_of_lt_of_le (by decide) this) (Nat.lt_of_lt_of_le (by decide) this) rfl h
theorem big0 : (0 : Int).natAbs < 2 ^ big := Nat.lt_of_lt_of_le (show 0 < 2 ^ 1 by decide) (Nat.pow_le_pow_right (by decide) (by decide))
theorem big1 : (1 : Int).natAbs < 2 ^ big := Nat.lt_of_lt_of_le (show 1 < 2 ^ 1 by decide) (Nat.pow_le_pow_right (by decide) (by decide))
theorem made_E {K : PySem.W.Frag} {H H' : Hp} {x dx : Addr} {q q' : Rat} (nx : H x = none) (ndx : H dx = none) (e1 : H' x = some (.ins (CE K) dx (eF q))) (hq : q = q')
    (k : ∀ c o, upd (upd H dx (.own x)) x (.ins (CE K) dx []) c = some o → c ≠ x → H' c = some o) : Same H H' ∧ IsE K H' (.ref x) q' :=
  ⟨fun c o hc => by
    have hcx : c ≠ x := ne_of_none hc nx
    refine k c o ?_ hcx
    rw [upd_ne hcx, upd_ne (ne_of_none hc ndx)]
    exact hc, x, dx, rfl, hq ▸ e1⟩
theorem Dn.zero {T : Nat → Nat → Rat} {k n u v : Nat} (hd : ¬ Dn k n T u v) (hk : k ≤ v) (hn : v < n) (hne : v ≠ u) (h0 : 0 ≤ T u v) : T u v = 0 :=
  Rat.le_antisymm (Rat.not_lt.mp fun h => hd ⟨hk, hn, hne, h⟩) h0
end R25

set_option Elab.async false
set_option linter.all false
set_option maxRecDepth 100000
set_option maxHeartbeats 4000000
namespace R25
open PySem PySem.Spec PyProof.Rows L2
section
variable {P : Program} {w : World} {K : PySem.W.Frag} {mg : Str → Option Value} {base : Heap}
theorem sc_is_fraction : FnScope ["thing"] ["thing"] (defScope s_is_fraction) := ⟨rfl, rfl, rfl, by decide +kernel, rfl, by decide +kernel, by decide +kernel⟩
theorem ok_is_fraction (T : Txt K mg) (D_is_integer : Dfn P w K mg base CX0 1 "is_integer" ["thing"] (sp1 sp_is_integer)) (D_common : Dfn P w K mg base CX0 1 "common" ["one", "other"] (sp2 sp_common)) : Dfn P w K mg base CX0 2 "is_fraction" ["thing"] (sp1 sp_is_fraction) := by
  obtain ⟨fd, F⟩ := T.f_is_fraction
  refine ⟨T.g_is_fraction, F.kp, fd, fnok_of F sc_is_fraction (fun vs H Q E h => ?_) (fun vs H Q E h => ?_), F.binds (ps := ["thing"]) fun _ _ _ _ _ _ us hl => ?_⟩
  · obtain ⟨a1, rfl, _⟩ := h
    rfl
  · obtain ⟨a1, rfl, h⟩ := h
    intro cdv A outer s hr
    refine ⟨_, (pss_cons (ps_if (PW.pt (pw_or (pt_not (pt_val (pe_callB call_isi (by rfl) T.b_isinstance (by decide +kernel) (pa_cons (pv 0) (pa_cons (pe_bltn (v := .ty "tuple") rfl T.b_tuple (by decide +kernel) rfl) pa_nil))))) (pw_or (pt_cmpR op_ne (pe_callB call_len_seq (by rfl) T.b_len (by decide +kernel) (pa_cons (pv 0) pa_nil)) pe_int (nomark _)) (pw_or (pt_not (pt_val (pe_callD D_is_integer hr (pa_cons (pe_ix ix_tup (pv 0) pe_int (fun _ _ => rfl)) pa_nil)))) (pw_or1 (pt_not (pt_val (pe_callD D_is_integer hr (pa_cons (pe_ix ix_tup (pv 0) pe_int (fun _ _ => rfl)) pa_nil))))))))) (pss_one (ps_ret pe_bl)) pss_nil)
      (pss_one (ps_ret (pe_and (pe_cmpR op_gt (pe_ix ix_tup (pv 0) pe_int (fun _ _ => rfl)) pe_int (nomark _)) (pe_one (pe_cmpR op_eq (pe_callD D_common hr (pa_cons (pe_ix ix_tup (pv 0) pe_int (fun _ _ => rfl)) (pa_cons (pe_ix ix_tup (pv 0) pe_int (fun _ _ => rfl)) pa_nil))) pe_int (nomark _))))))), ?_⟩
    obtain ⟨q, ⟨p, rfl, hp⟩, k⟩ := h
    refine ⟨_, rfl, _, _, _, _, true, rfl, .ty "tuple", .base (.tup hp), kit_ty (by decide +kernel), _, rfl, iteN rfl ⟨_, rfl, _, _, rfl, .inr (.inl (.inl hp)), rfl, _, rfl, iteN rfl ⟨_, rfl, _, _, _, _, rfl, rfl, .inl (.inl hp), rfl, _, rfl, ⟨_, rfl⟩, _, rfl, iteN rfl ⟨_, rfl, _, _, _, _, rfl, rfl, .inl (.inl hp), rfl, _, rfl, ⟨_, rfl⟩, _, rfl, iteN rfl ?_⟩⟩⟩⟩
    refine ⟨_, rfl, _, _, _, _, rfl, rfl, .inl (.inl hp), rfl, _, _, rfl, rfl, _, rfl, iteP (decide_eq_true (den_pos q)) ⟨_, rfl, _, _, _, _, rfl, rfl, .inl (.inl hp), rfl, _, rfl, _, _, _, _, rfl, rfl, .inl (.inl hp), rfl, _, _, rfl, _, _, rfl, rfl, rfl, ?_⟩⟩
    rw [gcd_self]
    exact k
  · obtain ⟨u1, rfl⟩ := one1 hl
    rfl
theorem sc_is_amount : FnScope ["thing"] ["thing"] (defScope s_is_amount) := ⟨rfl, rfl, rfl, by decide +kernel, rfl, by decide +kernel, by decide +kernel⟩
theorem ok_is_amount (T : Txt K mg) (D_is_fraction : Dfn P w K mg base CX0 2 "is_fraction" ["thing"] (sp1 sp_is_fraction)) : Dfn P w K mg base CX0 3 "is_amount" ["thing"] (sp1 sp_is_amount) := by
  obtain ⟨fd, F⟩ := T.f_is_amount
  refine ⟨T.g_is_amount, F.kp, fd, fnok_of F sc_is_amount (fun vs H Q E h => ?_) (fun vs H Q E h => ?_), F.binds (ps := ["thing"]) fun _ _ _ _ _ _ us hl => ?_⟩
  · obtain ⟨a1, rfl, _⟩ := h
    rfl
  · obtain ⟨a1, rfl, h⟩ := h
    intro cdv A outer s hr
    refine ⟨_, (pss_one (ps_ret (pe_and (pe_callD D_is_fraction hr (pa_cons (pv 0) pa_nil)) (pe_one (pe_cmpR op_ge (pe_ix ix_tup (pv 0) pe_int (fun _ _ => rfl)) pe_int (nomark _)))))), ?_⟩
    obtain ⟨q, ⟨p, rfl, hp⟩, h0, k⟩ := h
    have hn : 0 ≤ q.num := Rat.num_nonneg.mpr h0
    refine ⟨_, rfl, _, rfl, _, ⟨_, rfl, hp⟩, _, rfl, iteT ⟨_, rfl, _, _, _, _, rfl, rfl, .inl (.inl hp), rfl, _, _, rfl, rfl, qbl (decide_eq_true hn) k⟩⟩
  · obtain ⟨u1, rfl⟩ := one1 hl
    rfl
theorem sc_is_some : FnScope ["thing"] ["thing"] (defScope s_is_some) := ⟨rfl, rfl, rfl, by decide +kernel, rfl, by decide +kernel, by decide +kernel⟩
theorem ok_is_some (T : Txt K mg) (D_is_fraction : Dfn P w K mg base CX0 2 "is_fraction" ["thing"] (sp1 sp_is_fraction)) : Dfn P w K mg base CX0 3 "is_some" ["thing"] (sp1 sp_is_some) := by
  obtain ⟨fd, F⟩ := T.f_is_some
  refine ⟨T.g_is_some, F.kp, fd, fnok_of F sc_is_some (fun vs H Q E h => ?_) (fun vs H Q E h => ?_), F.binds (ps := ["thing"]) fun _ _ _ _ _ _ us hl => ?_⟩
  · obtain ⟨a1, rfl, _⟩ := h
    rfl
  · obtain ⟨a1, rfl, h⟩ := h
    intro cdv A outer s hr
    refine ⟨_, (pss_one (ps_ret (pe_and (pe_callD D_is_fraction hr (pa_cons (pv 0) pa_nil)) (pe_one (pe_cmpR op_gt (pe_ix ix_tup (pv 0) pe_int (fun _ _ => rfl)) pe_int (nomark _)))))), ?_⟩
    obtain ⟨q, ⟨p, rfl, hp⟩, h0, k⟩ := h
    have hn : 0 < q.num := num_pos.mpr h0
    refine ⟨_, rfl, _, rfl, _, ⟨_, rfl, hp⟩, _, rfl, iteT ⟨_, rfl, _, _, _, _, rfl, rfl, .inl (.inl hp), rfl, _, _, rfl, rfl, qbl (decide_eq_true hn) k⟩⟩
  · obtain ⟨u1, rfl⟩ := one1 hl
    rfl
theorem sc_is_ware_below : FnScope ["thing", "wares"] ["thing", "wares"] (defScope s_is_ware_below) := ⟨rfl, rfl, rfl, by decide +kernel, rfl, by decide +kernel, by decide +kernel⟩
theorem ok_is_ware_below (T : Txt K mg) (D_is_integer : Dfn P w K mg base CX0 1 "is_integer" ["thing"] (sp1 sp_is_integer)) : Dfn P w K mg base CX0 2 "is_ware_below" ["thing", "wares"] (sp2 sp_is_ware_below) := by
  obtain ⟨fd, F⟩ := T.f_is_ware_below
  refine ⟨T.g_is_ware_below, F.kp, fd, fnok_of F sc_is_ware_below (fun vs H Q E h => ?_) (fun vs H Q E h => ?_), F.binds (ps := ["thing", "wares"]) fun _ _ _ _ _ _ us hl => ?_⟩
  · obtain ⟨a1, a2, rfl, _⟩ := h
    rfl
  · obtain ⟨a1, a2, rfl, h⟩ := h
    intro cdv A outer s hr
    refine ⟨_, (pss_one (ps_ret (pe_and (pe_callD D_is_integer hr (pa_cons (pv 0) pa_nil)) (pe_one (pe_chain op_le op_lt pe_int (pv 0) (pv 1)))))), ?_⟩
    obtain ⟨i, n, rfl, rfl, hi, k⟩ := h
    refine ⟨_, rfl, _, rfl, ⟨_, rfl⟩, _, rfl, iteT ⟨_, rfl, _, _, rfl, rfl, _, rfl, iteP (decide_eq_true (by omega)) ⟨_, rfl, _, _, rfl, rfl, qbl (decide_eq_true (by omega)) k⟩⟩⟩
  · obtain ⟨u1, u2, rfl⟩ := two2 hl
    rfl
theorem sc_is_stall : FnScope ["thing", "wares", "ware", "amount"] ["thing", "wares"] (defScope s_is_stall) := ⟨rfl, rfl, rfl, by decide +kernel, rfl, by decide +kernel, by decide +kernel⟩
theorem ok_is_stall (T : Txt K mg) (D_is_ware_below : Dfn P w K mg base CX0 2 "is_ware_below" ["thing", "wares"] (sp2 sp_is_ware_below)) (D_is_some : Dfn P w K mg base CX0 3 "is_some" ["thing"] (sp1 sp_is_some)) (D_exact : Dfn P w K mg base CX0 4 "exact" ["pair"] (sp1 (sp_exact K))) (M_Exact_mul : Mtd P w K mg base CX0 4 "Exact" "__mul__" ["self", "other"] (sp2 (sp_mul K))) (M_Exact_square : Mtd P w K mg base CX0 4 "Exact" "square" ["self"] (sp1 (sp_square K))) (M_Exact_eq : Mtd P w K mg base CX0 1 "Exact" "__eq__" ["self", "other"] (sp2 (sp_eqE K))) : Dfn P w K mg base CX0 5 "is_stall" ["thing", "wares"] (sp2 sp_is_stall) := by
  obtain ⟨fd, F⟩ := T.f_is_stall
  refine ⟨T.g_is_stall, F.kp, fd, fnok_of F sc_is_stall (fun vs H Q E h => ?_) (fun vs H Q E h => ?_), F.binds (ps := ["thing", "wares"]) fun _ _ _ _ _ _ us hl => ?_⟩
  · obtain ⟨a1, a2, rfl, _⟩ := h
    rfl
  · obtain ⟨a1, a2, rfl, h⟩ := h
    intro cdv A outer s hr
    refine ⟨_, (pss_cons (ps_if (PW.pt (pw_or (pt_not (pt_val (pe_callB call_isi (by rfl) T.b_isinstance (by decide +kernel) (pa_cons (pv 0) (pa_cons (pe_bltn (v := .ty "tuple") rfl T.b_tuple (by decide +kernel) rfl) pa_nil))))) (pw_or (pt_cmpR op_ne (pe_callB call_len_seq (by rfl) T.b_len (by decide +kernel) (pa_cons (pv 0) pa_nil)) pe_int (nomark _)) (pw_or1 (pt_not (pt_val (pe_callB (cr_all rfl) (by rfl) T.b_all (by decide +kernel) (pa_cons (pe_lc (own := [("ware", 2)]) (g := gName 2) rfl sc_is_stall.nd (pi_tup (pe_slice sl_tupA (pv 0) po_none (po_some pe_int))) (blkOk_by (N := ["thing", "wares", "ware", "amount"]) (sc := defScope s_is_stall) (by decide +kernel)) (fun _ _ _ _ _ => (pg_name (i := 2) sc_is_stall.nd rfl (Or.inl rfl))) (fun _ _ _ _ _ => pts_nil) (fun _ _ _ _ _ => (pe_callD D_is_ware_below hr (pa_cons (pv 2) (pa_cons (pv 1) pa_nil))))) pa_nil)))))))) (pss_one (ps_ret pe_bl)) pss_nil)
      (pss_cons (ps_if (PW.pt (pw_or (pt_cmpR op_eq (pe_ix ix_tup (pv 0) pe_int (fun _ _ => rfl)) (pe_ix ix_tup (pv 0) pe_int (fun _ _ => rfl)) (nomark _)) (pw_or1 (pt_not (pt_val (pe_callB (cr_all rfl) (by rfl) T.b_all (by decide +kernel) (pa_cons (pe_lc (own := [("amount", 3)]) (g := gName 3) rfl sc_is_stall.nd (pi_tup (pe_slice sl_tupA (pv 0) (po_some pe_int) po_none)) (blkOk_by (N := ["thing", "wares", "ware", "amount"]) (sc := defScope s_is_stall) (by decide +kernel)) (fun _ _ _ _ _ => (pg_name (i := 3) sc_is_stall.nd rfl (Or.inl rfl))) (fun _ _ _ _ _ => pts_nil) (fun _ _ _ _ _ => (pe_callD D_is_some hr (pa_cons (pv 3) pa_nil)))) pa_nil))))))) (pss_one (ps_ret pe_bl)) pss_nil)
      (pss_one (ps_ret (pe_cmpR (op_eqE M_Exact_eq hr) (pe_op (op_ownD T.sf M_Exact_mul hr) (pe_callD D_exact hr (pa_cons (pe_ix ix_tup (pv 0) pe_int (fun _ _ => rfl)) pa_nil)) (pe_callD D_exact hr (pa_cons (pe_ix ix_tup (pv 0) pe_int (fun _ _ => rfl)) pa_nil))) (pe_methD0 M_Exact_square hr (pe_callD D_exact hr (pa_cons (pe_ix ix_tup (pv 0) pe_int (fun _ _ => rfl)) pa_nil))) (nomark _)))))), ?_⟩
    obtain ⟨t, n, ⟨p, x, y, z, rfl, hp, hx, hy, hz⟩, ok, rfl, k⟩ := h
    refine ⟨_, rfl, _, _, _, _, true, rfl, .ty "tuple", .base (.tup hp), kit_ty (by decide +kernel), _, rfl, iteN rfl ⟨_, rfl, _, _, rfl, .inr (.inl (.inl hp)), rfl, _, rfl, iteN rfl ?_⟩⟩
    refine ⟨_, rfl, _, rfl, _, _, rfl, .inl (.inl hp), fun hw => absurd hw.2 (by show ¬ (2 = 5); decide), fun _ a1 f1 => ⟨_, rfl, ⟨_, .inl (.inl upd_same)⟩, fun D fD => ?_⟩⟩
    refine lcm_tup (xs := [.int t.i, .int t.j]) (fun _ H' => Same (upd H a1 (.tup [.int t.i, .int t.j])) H') (fun _ y _ => y = .bl true) (by show 2 < sizeLine; decide) (fun _ _ _ _ _ h => h) (Same.new fD) (fun _ _ _ s => .inl (.inl (s _ _ upd_same))) (fun _ _ _ _ s _ => Same.mut s fD) ?_ ?_
    · rintro i x H' acc hx s hD hl C hC
      have hm := List.mem_of_getElem? hx
      have hm : ∃ m : Nat, m < n ∧ x = .int m := by
        rcases List.mem_cons.mp hm with e | hm
        · exact ⟨_, ok.i, e⟩
        · rcases List.mem_cons.mp hm with e | hm
          · exact ⟨_, ok.j, e⟩
          · cases hm
      obtain ⟨m, hmn, rfl⟩ := hm
      exact ⟨rfl, _, rfl, _, rfl, _, _, rfl, m, n, rfl, rfl, hmn, hC _ _ hD Keeps.rfl' s rfl⟩
    · rintro H2 acc s hD hl hR
      have s := Same.trans (Same.new f1) s
      refine ⟨D, _, rfl, allL hD hR, _, rfl, iteN (allF _) ?_⟩
      clear hR hD hl
      refine ⟨_, rfl, _, _, _, _, rfl, rfl, .inl (.inl (s _ _ hp)), rfl, _, rfl, _, _, _, _, rfl, rfl, .inl (.inl (s _ _ hp)), rfl, rfl, _, rfl, iteN (decide_eq_false fun e => by injection e with e; exact ok.ne (by omega)) ?_⟩
      refine ⟨_, rfl, _, rfl, _, _, rfl, .inl (.inl (s _ _ hp)), fun hw => absurd hw.1 (by show ¬ (2 = 0); decide), fun _ a2 f2 => ⟨_, rfl, ⟨_, .inl (.inl upd_same)⟩, fun D2 fD2 => ?_⟩⟩
      refine lcm_tup (xs := [x, y, z]) (fun _ H' => Same (upd H2 a2 (.tup [x, y, z])) H') (fun _ y _ => y = .bl true) (by show 3 < sizeLine; decide) (fun _ _ _ _ _ h => h) (Same.new fD2) (fun _ _ _ s => .inl (.inl (s _ _ upd_same))) (fun _ _ _ _ s _ => Same.mut s fD2) ?_ ?_
      · rintro i x' H' acc hx' s2 hD hl C hC
        have s2' := Same.trans s (Same.trans (Same.new f2) s2)
        have hm := List.mem_of_getElem? hx'
        have hm : ∃ q : Rat, 0 < q ∧ IsF H' x' q := by
          rcases List.mem_cons.mp hm with e | hm
          · exact ⟨_, ok.a0, e ▸ hx.up s2'⟩
          · rcases List.mem_cons.mp hm with e | hm
            · exact ⟨_, ok.b0, e ▸ hy.up s2'⟩
            · rcases List.mem_cons.mp hm with e | hm
              · exact ⟨_, ok.r0, e ▸ hz.up s2'⟩
              · cases hm
        obtain ⟨q, h0, hq⟩ := hm
        exact ⟨rfl, _, rfl, _, rfl, q, hq, h0, hC _ _ hD Keeps.rfl' s2 rfl⟩
      · rintro H3 acc s2 hD hl hR
        have s := Same.trans s (Same.trans (Same.new f2) s2)
        refine ⟨D2, _, rfl, allL hD hR, _, rfl, iteN (allF _) ?_⟩
        clear hR hD hl s2
        refine ⟨_, rfl, _, _, _, _, rfl, rfl, .inl (.inl (s _ _ hp)), rfl, _, rfl, t.a, hx.up s, ok.a.ok0 (by decide), fun va H4 s4 h4 => ?_⟩
        have s := Same.trans s s4
        refine ⟨_, rfl, _, _, _, _, rfl, rfl, .inl (.inl (s _ _ hp)), rfl, _, rfl, t.b, hy.up s, ok.b.ok0 (by decide), fun vb H5 s5 h5 => ?_⟩
        have s := Same.trans s s5
        have h4 := h4.up s5
        obtain ⟨pa, da, rfl, ha⟩ := h4
        obtain ⟨pb, db, rfl, hb⟩ := h5
        refine ⟨_, _, _, _, _, _, rfl, rfl, ha, hb, _, _, rfl, _, _, ⟨_, _, rfl, ha⟩, ⟨_, _, rfl, hb⟩, ok.a.ok0 (by decide), ok.b.ok0 (by decide), fun vm H6 s6 h6 => ?_⟩
        have s := Same.trans s s6
        refine ⟨_, rfl, _, _, _, _, rfl, rfl, .inl (.inl (s _ _ hp)), rfl, _, rfl, t.r, hz.up s, ok.r.ok0 (by decide), fun vr H7 s7 h7 => ?_⟩
        have s := Same.trans s s7
        obtain ⟨pr, dr, rfl, hr7⟩ := h7
        refine ⟨_, _, _, rfl, hr7, eF_no _ (sne (by decide +kernel)) (sne (by decide +kernel)), _, rfl, t.r, ⟨_, _, rfl, hr7⟩, ok.r.ok0 (by decide), fun vq H8 s8 h8 => ?_⟩
        have s := Same.trans s s8
        obtain ⟨pm, dm, rfl, hm8⟩ := h6.up (Same.trans s7 s8)
        obtain ⟨pq, dq, rfl, hq8⟩ := h8
        have hq9 : H8 pq = some (.ins (CE K) dq (eF (t.a * t.b))) := by rw [ok.eq]; exact hq8
        exact ⟨⟨pm, pq, dm, dq, _, _, rfl, rfl, hm8, hq8, _, ⟨_, _, rfl, hm8⟩, ⟨_, _, rfl, hq9⟩⟩, fun H9 e9 => k _ (Same.trans s e9)⟩
  · obtain ⟨u1, u2, rfl⟩ := two2 hl
    rfl
theorem sc_law_divisor : FnScope ["_law_one", "_law_other", "_law_turn", "_law_rest"] ["_law_one", "_law_other"] (defScope s_law_divisor) := ⟨rfl, rfl, rfl, by decide +kernel, rfl, by decide +kernel, by decide +kernel⟩
theorem ok_law_divisor (T : Txt K mg)  : Dfn P w K mg base CX0 1 "_law_divisor" ["_law_one", "_law_other"] (sp2 sp_law_divisor) := by
  obtain ⟨fd, F⟩ := T.f_law_divisor
  refine ⟨T.g_law_divisor, F.kp, fd, fnok_of F sc_law_divisor (fun vs H Q E h => ?_) (fun vs H Q E h => ?_), F.binds (ps := ["_law_one", "_law_other"]) fun _ _ _ _ _ _ us hl => ?_⟩
  · obtain ⟨a1, a2, rfl, _⟩ := h
    rfl
  · obtain ⟨a1, a2, rfl, h⟩ := h
    intro cdv A outer s hr
    refine ⟨_, (pss_cons (ps_set (i := 0) sc_law_divisor.nd rfl (Or.inl rfl) (pe_callB call_abs (by rfl) T.b_abs (by decide +kernel) (pa_cons (pv 0) pa_nil)))
      (pss_cons (ps_set (i := 1) sc_law_divisor.nd rfl (Or.inl rfl) (pe_callB call_abs (by rfl) T.b_abs (by decide +kernel) (pa_cons (pv 1) pa_nil)))
      (pss_cons (ps_for PassesOwn.never rfl (pi_range1 rfl T.b_range (pa_cons (pe_op op_add (pe_op op_mul pe_int (pe_bits (pv 1))) pe_int) pa_nil)) (pg_name (i := 2) sc_law_divisor.nd rfl (Or.inl rfl)) (pss_cons (ps_if (pt_cmpR op_eq (pv 1) pe_int (nomark _)) (pss_one (ps_ret (pv 0))) pss_nil)
      (pss_cons (ps_set (i := 3) sc_law_divisor.nd rfl (Or.inl rfl) (pe_op op_mod (pe_callTy call_int1 (by rfl) T.b_int (by decide +kernel) (pa_cons (pv 0) pa_nil)) (pv 1)))
      (pss_cons (ps_set (i := 0) sc_law_divisor.nd rfl (Or.inl rfl) (pv 1))
      (pss_one (ps_set (i := 1) sc_law_divisor.nd rfl (Or.inl rfl) (pv 3)))))))
      (pss_one (ps_ret (pv 0)))))), ?_⟩
    obtain ⟨m, n, rfl, rfl, hn, hb, k⟩ := h
    have ab : ∀ i : Int, (if i < 0 then -i else i) = (i.natAbs : Int) := fun i => by split <;> omega
    refine ⟨_, rfl, _, rfl, _, rfl, _, rfl, ?_⟩
    rw [ab, ab]
    have hbits : Builtin.Int.intBits (n.natAbs : Int) ≤ 8500 := PySem.intBits_le_iff.mpr (by rw [Int.natAbs_natCast]; exact hb)
    have hlt : n.natAbs < 2 ^ Builtin.Int.intBits (n.natAbs : Int) := by have := PySem.intBits_le_iff.mp (Nat.le_refl (Builtin.Int.intBits (n.natAbs : Int))); rwa [Int.natAbs_natCast] at this
    obtain ⟨L, hL⟩ : ∃ L, Builtin.Int.intBits (n.natAbs : Int) = L := ⟨_, rfl⟩
    rw [hL] at hbits hlt
    refine ⟨_, rfl, _, rfl, _, _, rfl, rfl, .inl ⟨by decide, by decide⟩, _, _, rfl, rfl, _, rfl, by rw [hL]; omega, by rw [hL]; omega, ?_⟩
    rw [hL]
    refine for_range (fun i σ H' => ∃ (x y : Nat) (u v : Option V), σ = [some (.int x), some (.int y), u, v] ∧ H' = H ∧ Nat.gcd x y = Int.gcd m n ∧ ((∃ e, i = 2 * e ∧ 2 ^ e * y ≤ n.natAbs) ∨ ∃ e, i = 2 * e + 1 ∧ 2 ^ e * x ≤ n.natAbs ∧ y < x)) ⟨_, _, _, _, rfl, rfl, rfl, .inl ⟨0, rfl, by simp⟩⟩ ?_ ?_
    · rintro i σ H' hi ⟨x, y, u, v, rfl, rfl, e, hz⟩
      refine ⟨_, rfl, rfl, _, rfl, ite2 (fun hc => ?_) (fun hc => ?_)⟩
      · have hy0 : y = 0 := by
          have := of_decide_eq_true hc
          injection this with this
          omega
        subst hy0
        rw [Nat.gcd_zero_right] at e
        exact ⟨_, rfl, qint (by rw [e]) k⟩
      · have hy : 0 < y := by
          rcases Nat.eq_zero_or_pos y with h | h
          · subst h
            exact absurd (decide_eq_true rfl) hc
          · exact h
        refine ⟨_, rfl, .inl ⟨_, rfl, _, rfl, _, _, rfl, rfl, by omega, _, rfl, _, rfl, y, x % y, _, _, rfl, rfl, ?_, ?_⟩⟩
        · rw [← e, Nat.gcd_comm y, ← Nat.gcd_rec, Nat.gcd_comm]
        · rcases hz with ⟨e, rfl, he⟩ | ⟨e, rfl, he, hxy⟩
          · exact .inr ⟨e, rfl, he, Nat.mod_lt x hy⟩
          · refine .inl ⟨e + 1, by omega, Nat.le_trans ?_ he⟩
            have := mod_half hxy hy
            rw [Nat.pow_succ, Nat.mul_assoc]
            exact Nat.mul_le_mul_left _ (by omega)
    · rintro σ H' ⟨x, y, u, v, rfl, rfl, e, hz⟩
      have hy0 : y = 0 := by
        rcases hz with ⟨e, he, hle⟩ | ⟨e, he, _⟩
        · have e1 : e = L + 1 := by omega
          subst e1
          rcases Nat.eq_zero_or_pos y with h | h
          · exact h
          · have := Nat.mul_le_mul_left (2 ^ (L + 1)) h
            rw [Nat.pow_succ] at this hle
            generalize 2 ^ L = z at *
            omega
        · omega
      subst hy0
      rw [Nat.gcd_zero_right] at e
      exact ⟨_, rfl, qint (by rw [e]) k⟩
  · obtain ⟨u1, u2, rfl⟩ := two2 hl
    rfl
theorem sc_law_made : FnScope ["_law_top", "_law_bottom", "_law_divisor_here"] ["_law_top", "_law_bottom"] (defScope s_law_made) := ⟨rfl, rfl, rfl, by decide +kernel, rfl, by decide +kernel, by decide +kernel⟩
theorem ok_law_made (T : Txt K mg) (D_law_divisor : Dfn P w K mg base CX0 1 "_law_divisor" ["_law_one", "_law_other"] (sp2 sp_law_divisor)) : Dfn P w K mg base CX0 2 "_law_made" ["_law_top", "_law_bottom"] (sp2 sp_law_made) := by
  obtain ⟨fd, F⟩ := T.f_law_made
  refine ⟨T.g_law_made, F.kp, fd, fnok_of F sc_law_made (fun vs H Q E h => ?_) (fun vs H Q E h => ?_), F.binds (ps := ["_law_top", "_law_bottom"]) fun _ _ _ _ _ _ us hl => ?_⟩
  · obtain ⟨a1, a2, rfl, _⟩ := h
    rfl
  · obtain ⟨a1, a2, rfl, h⟩ := h
    intro cdv A outer s hr
    refine ⟨_, (pss_cons (ps_set (i := 2) sc_law_made.nd rfl (Or.inl rfl) (pe_callD D_law_divisor hr (pa_cons (pv 0) (pa_cons (pv 1) pa_nil))))
      (pss_one (ps_ret (pe_tup (pa_cons (pe_op op_fdivW (pv 0) (pv 2)) (pa_cons (pe_op op_fdivW (pv 1) (pv 2)) pa_nil)))))), ?_⟩
    obtain ⟨t, b, rfl, rfl, hb, hbb, k⟩ := h
    have gp : 0 < (Int.gcd t b : Int) := Int.natCast_pos.mpr (Int.gcd_pos_of_ne_zero_right _ (by omega))
    have gl : ((Int.gcd t b : Nat) : Int).natAbs < 2 ^ big := by
      rw [Int.natAbs_natCast]
      exact Nat.lt_of_le_of_lt (Nat.le_of_dvd (by omega) (by have := Int.gcd_dvd_natAbs_right t b; exact this)) hbb
    have cd : ∀ i : Int, CDivW i (Int.gcd t b : Int) := fun i => wide_div gp gl (by decide) (by decide)
    refine ⟨_, rfl, _, rfl, _, _, rfl, _, _, rfl, rfl, hb, hbb, _, rfl, _, rfl, _, _, rfl, rfl, cd _, _, rfl, _, rfl, _, _, rfl, rfl, cd _, (by show 2 ≤ sizeLine; decide), fun a ha => k _ _ (Same.new ha) ⟨a, rfl, ?_⟩⟩
    rw [upd_same, frac_num hb, frac_den hb]
  · obtain ⟨u1, u2, rfl⟩ := two2 hl
    rfl
theorem made_ok {t b : Int} {q : Rat} {Q : VK} {H : Hp} {E : XK} (hb : 0 < b) (h2 : b.natAbs < 2 ^ lim2) (e : Rat.divInt t b = q) (k : ∀ v H', Same H H' → IsF H' v q → Q v H') : sp2 sp_law_made ([.int t, .int b] ++ []) H Q E :=
  ⟨_, _, rfl, t, b, rfl, rfl, hb, to_big h2, fun v H' s h => k v H' s (e ▸ h)⟩
theorem sc_law_added : FnScope ["_law_one", "_law_other"] ["_law_one", "_law_other"] (defScope s_law_added) := ⟨rfl, rfl, rfl, by decide +kernel, rfl, by decide +kernel, by decide +kernel⟩
theorem ok_law_added (T : Txt K mg) (D_law_made : Dfn P w K mg base CX0 2 "_law_made" ["_law_top", "_law_bottom"] (sp2 sp_law_made)) : Dfn P w K mg base CX0 3 "_law_added" ["_law_one", "_law_other"] (sp2 sp_law_added) := by
  obtain ⟨fd, F⟩ := T.f_law_added
  refine ⟨T.g_law_added, F.kp, fd, fnok_of F sc_law_added (fun vs H Q E h => ?_) (fun vs H Q E h => ?_), F.binds (ps := ["_law_one", "_law_other"]) fun _ _ _ _ _ _ us hl => ?_⟩
  · obtain ⟨a1, a2, rfl, _⟩ := h
    rfl
  · obtain ⟨a1, a2, rfl, h⟩ := h
    intro cdv A outer s hr
    refine ⟨_, (pss_one (ps_ret (pe_callD D_law_made hr (pa_cons (pe_op op_add (pe_op op_mulW (pe_ix ix_tup (pv 0) pe_int (fun _ _ => rfl)) (pe_ix ix_tup (pv 1) pe_int (fun _ _ => rfl))) (pe_op op_mulW (pe_ix ix_tup (pv 1) pe_int (fun _ _ => rfl)) (pe_ix ix_tup (pv 0) pe_int (fun _ _ => rfl)))) (pa_cons (pe_op op_mulW (pe_ix ix_tup (pv 0) pe_int (fun _ _ => rfl)) (pe_ix ix_tup (pv 1) pe_int (fun _ _ => rfl))) pa_nil))))), ?_⟩
    obtain ⟨x, y, ⟨p, rfl, hp⟩, ⟨q, rfl, hq⟩, ox, oy, k⟩ := h
    exact ⟨_, rfl, _, _, _, _, rfl, rfl, .inl (.inl hp), rfl, _, rfl, _, _, _, _, rfl, rfl, .inl (.inl hq), rfl, _, _, rfl, rfl, cmul_ok ox.1 (den_abs y oy), _, rfl, _, _, _, _, rfl, rfl, .inl (.inl hq), rfl, _, rfl, _, _, _, _, rfl, rfl, .inl (.inl hp), rfl, _, _, rfl, rfl, cmul_ok oy.1 (den_abs x ox), _, _, rfl, rfl, _, rfl, _, _, _, _, rfl, rfl, .inl (.inl hp), rfl, _, rfl, _, _, _, _, rfl, rfl, .inl (.inl hq), rfl, _, _, rfl, rfl, cmul_ok (den_abs x ox) (den_abs y oy),
      made_ok (Int.mul_pos (den_pos x) (den_pos y)) (mul_lt_big (den_abs x ox) (den_abs y oy)) (frac_add x y) k⟩
  · obtain ⟨u1, u2, rfl⟩ := two2 hl
    rfl
theorem sc_law_taken : FnScope ["_law_one", "_law_other"] ["_law_one", "_law_other"] (defScope s_law_taken) := ⟨rfl, rfl, rfl, by decide +kernel, rfl, by decide +kernel, by decide +kernel⟩
theorem ok_law_taken (T : Txt K mg) (D_law_made : Dfn P w K mg base CX0 2 "_law_made" ["_law_top", "_law_bottom"] (sp2 sp_law_made)) : Dfn P w K mg base CX0 3 "_law_taken" ["_law_one", "_law_other"] (sp2 sp_law_taken) := by
  obtain ⟨fd, F⟩ := T.f_law_taken
  refine ⟨T.g_law_taken, F.kp, fd, fnok_of F sc_law_taken (fun vs H Q E h => ?_) (fun vs H Q E h => ?_), F.binds (ps := ["_law_one", "_law_other"]) fun _ _ _ _ _ _ us hl => ?_⟩
  · obtain ⟨a1, a2, rfl, _⟩ := h
    rfl
  · obtain ⟨a1, a2, rfl, h⟩ := h
    intro cdv A outer s hr
    refine ⟨_, (pss_one (ps_ret (pe_callD D_law_made hr (pa_cons (pe_op op_sub (pe_op op_mulW (pe_ix ix_tup (pv 0) pe_int (fun _ _ => rfl)) (pe_ix ix_tup (pv 1) pe_int (fun _ _ => rfl))) (pe_op op_mulW (pe_ix ix_tup (pv 1) pe_int (fun _ _ => rfl)) (pe_ix ix_tup (pv 0) pe_int (fun _ _ => rfl)))) (pa_cons (pe_op op_mulW (pe_ix ix_tup (pv 0) pe_int (fun _ _ => rfl)) (pe_ix ix_tup (pv 1) pe_int (fun _ _ => rfl))) pa_nil))))), ?_⟩
    obtain ⟨x, y, ⟨p, rfl, hp⟩, ⟨q, rfl, hq⟩, ox, oy, k⟩ := h
    exact ⟨_, rfl, _, _, _, _, rfl, rfl, .inl (.inl hp), rfl, _, rfl, _, _, _, _, rfl, rfl, .inl (.inl hq), rfl, _, _, rfl, rfl, cmul_ok ox.1 (den_abs y oy), _, rfl, _, _, _, _, rfl, rfl, .inl (.inl hq), rfl, _, rfl, _, _, _, _, rfl, rfl, .inl (.inl hp), rfl, _, _, rfl, rfl, cmul_ok oy.1 (den_abs x ox), _, _, rfl, rfl, _, rfl, _, _, _, _, rfl, rfl, .inl (.inl hp), rfl, _, rfl, _, _, _, _, rfl, rfl, .inl (.inl hq), rfl, _, _, rfl, rfl, cmul_ok (den_abs x ox) (den_abs y oy),
      made_ok (Int.mul_pos (den_pos x) (den_pos y)) (mul_lt_big (den_abs x ox) (den_abs y oy)) (frac_sub x y) k⟩
  · obtain ⟨u1, u2, rfl⟩ := two2 hl
    rfl
theorem sc_law_product : FnScope ["_law_one", "_law_other"] ["_law_one", "_law_other"] (defScope s_law_product) := ⟨rfl, rfl, rfl, by decide +kernel, rfl, by decide +kernel, by decide +kernel⟩
theorem ok_law_product (T : Txt K mg) (D_law_made : Dfn P w K mg base CX0 2 "_law_made" ["_law_top", "_law_bottom"] (sp2 sp_law_made)) : Dfn P w K mg base CX0 3 "_law_product" ["_law_one", "_law_other"] (sp2 sp_law_product) := by
  obtain ⟨fd, F⟩ := T.f_law_product
  refine ⟨T.g_law_product, F.kp, fd, fnok_of F sc_law_product (fun vs H Q E h => ?_) (fun vs H Q E h => ?_), F.binds (ps := ["_law_one", "_law_other"]) fun _ _ _ _ _ _ us hl => ?_⟩
  · obtain ⟨a1, a2, rfl, _⟩ := h
    rfl
  · obtain ⟨a1, a2, rfl, h⟩ := h
    intro cdv A outer s hr
    refine ⟨_, (pss_one (ps_ret (pe_callD D_law_made hr (pa_cons (pe_op op_mulW (pe_ix ix_tup (pv 0) pe_int (fun _ _ => rfl)) (pe_ix ix_tup (pv 1) pe_int (fun _ _ => rfl))) (pa_cons (pe_op op_mulW (pe_ix ix_tup (pv 0) pe_int (fun _ _ => rfl)) (pe_ix ix_tup (pv 1) pe_int (fun _ _ => rfl))) pa_nil))))), ?_⟩
    obtain ⟨x, y, ⟨p, rfl, hp⟩, ⟨q, rfl, hq⟩, ox, oy, k⟩ := h
    exact ⟨_, rfl, _, _, _, _, rfl, rfl, .inl (.inl hp), rfl, _, rfl, _, _, _, _, rfl, rfl, .inl (.inl hq), rfl, _, _, rfl, rfl, cmul_ok ox.1 oy.1, _, rfl, _, _, _, _, rfl, rfl, .inl (.inl hp), rfl, _, rfl, _, _, _, _, rfl, rfl, .inl (.inl hq), rfl, _, _, rfl, rfl, cmul_ok (den_abs x ox) (den_abs y oy),
      made_ok (Int.mul_pos (den_pos x) (den_pos y)) (mul_lt_big (den_abs x ox) (den_abs y oy)) (frac_mul x y) k⟩
  · obtain ⟨u1, u2, rfl⟩ := two2 hl
    rfl
end
end R25

set_option Elab.async false
set_option linter.all false
set_option maxRecDepth 100000
set_option maxHeartbeats 4000000
namespace R25
open PySem PySem.Spec PyProof.Rows L2
section
variable {P : Program} {w : World} {K : PySem.W.Frag} {mg : Str → Option Value} {base : Heap}
theorem sc_Web_init : FnScope ["self", "wares", "stalls", "index", "stall"] ["self", "wares", "stalls"] (defScope s_Web_init) := ⟨rfl, rfl, rfl, by decide +kernel, rfl, by decide +kernel, by decide +kernel⟩
theorem ok_Web_init (T : Txt K mg) (D_is_integer : Dfn P w K mg base CX0 1 "is_integer" ["thing"] (sp1 sp_is_integer)) (D_is_stall : Dfn P w K mg base CX0 5 "is_stall" ["thing", "wares"] (sp2 sp_is_stall)) : Mkd P w K mg base CX0 6 "Web" ["self", "wares", "stalls"] (sp3 (sp_Web_init K)) := by
  obtain ⟨fd, F⟩ := T.f_Web_init
  refine ⟨T.g_Web, T.k_Web, fd, fnok_of F sc_Web_init (fun vs H Q E h => ?_) (fun vs H Q E h => ?_), F.binds (ps := ["self", "wares", "stalls"]) fun _ _ _ _ _ _ us hl => ?_⟩
  · obtain ⟨a1, a2, a3, rfl, _⟩ := h
    rfl
  · obtain ⟨a1, a2, a3, rfl, h⟩ := h
    intro cdv A outer s hr
    refine ⟨_, (pss_cons (ps_if (PW.pt (pw_or (pt_not (pt_val (pe_callD D_is_integer hr (pa_cons (pv 1) pa_nil)))) (pw_or1 (pt_not (pt_chain op_le op_le pe_int (pv 1) (pe_gint T.i_MOST_WARES)))))) (pss_one ps_never) pss_nil)
      (pss_cons (ps_if (PW.pt (pw_or (pt_not (pt_val (pe_callB call_isiT (by rfl) T.b_isinstance (by decide +kernel) (pa_cons (pv 2) (pa_cons (pe_tup (pa_cons (pe_bltn (v := .ty "list") rfl T.b_list (by decide +kernel) rfl) (pa_cons (pe_bltn (v := .ty "tuple") rfl T.b_tuple (by decide +kernel) rfl) pa_nil))) pa_nil))))) (pw_or1 (pt_cmpR op_gt (pe_callB call_len_seq (by rfl) T.b_len (by decide +kernel) (pa_cons (pv 2) pa_nil)) (pe_gint T.i_MOST_STALLS) (nomark _))))) (pss_one ps_never) pss_nil)
      (pss_cons (ps_for PassesOwn.never rfl (pi_enum rfl T.b_enumerate (pa_cons (pv 2) pa_nil)) (pg_tup rfl (pgs_cons (pg_name (i := 3) sc_Web_init.nd rfl (Or.inl rfl)) (pgs_cons (pg_name (i := 4) sc_Web_init.nd rfl (Or.inl rfl)) pgs_nil))) (pss_one (ps_if (pt_not (pt_val (pe_callD D_is_stall hr (pa_cons (pv 4) (pa_cons (pv 1) pa_nil))))) (pss_one ps_never) pss_nil)))
      (pss_cons (ps_fld (pv 0) (pv 1) rfl)
      (pss_one (ps_fld (pv 0) (pe_callTy call_tuple_of (by rfl) T.b_tuple (by decide +kernel) (pa_cons (pv 2) pa_nil)) rfl)))))), ?_⟩
    obtain ⟨p, dx, q, vs, n, l, rfl, hp, rfl, rfl, hq, hl, ok, k⟩ := h
    have hn8 := ok.n8
    have hn1 := ok.n1
    have hl16 := ok.l16
    have hlen := hl.len
    refine ⟨_, rfl, _, rfl, ⟨_, rfl⟩, _, rfl, iteN rfl ⟨_, rfl, _, _, rfl, rfl, _, rfl, iteP (decide_eq_true (by omega)) ⟨_, _, rfl, rfl, _, rfl, iteN (by rw [decide_eq_true (show (n : Int) ≤ 8 by omega)]; rfl) ?_⟩⟩⟩
    refine ⟨_, rfl, (by show 2 ≤ sizeLine; decide), fun t1 f1 => ⟨_, t1, _, _, [.type "list", .type "tuple"], true, rfl, upd_same, .cons (.ty _) (.cons (.ty _) .nil), .base (.lst (Same.new f1 _ _ hq)), kitL, _, rfl, iteN rfl ?_⟩⟩
    have s1 : Same H (upd H t1 (.tup [.ty "list", .ty "tuple"])) := Same.new f1
    refine ⟨_, rfl, _, _, rfl, .inl (.inl (.inl (s1 _ _ hq))), _, _, rfl, rfl, _, rfl, iteN (decide_eq_false (by omega)) ?_⟩
    refine ⟨_, rfl, _, _, rfl, .inl (.inl (s1 _ _ hq)), ?_⟩
    refine for_it walk_enum (fun _ σ H' => ∃ u v, σ = [some (.ref p), some (.int n), some (.ref q), u, v] ∧ Same H H') ⟨_, _, rfl, s1⟩ (fun i σ H' _ ⟨_, _, _, s⟩ => .inl (.inl (s _ _ hq))) ?_ ?_
    · rintro i x σ H1 H2 hi ⟨u, v, rfl, s⟩ ⟨T1, a, b, rfl, fT, rfl, ha, hb⟩
      cases ha
      have s2 := Same.trans s (Same.new (o := .tup [.int (i : Nat), b]) fT)
      obtain ⟨t, ht, hS⟩ := hl.2 i b hb
      exact ⟨_, _, rfl, .inl (.inl upd_same), rfl, _, _, rfl, _, _, rfl, rfl, _, rfl, _, rfl, _, _, rfl, t, n, hS.keep (Keeps.of s2), ok.ok t (List.mem_of_getElem? ht), rfl, fun H3 s3 => ⟨_, rfl, iteN rfl ⟨_, _, rfl, Same.trans s2 s3⟩⟩⟩
    · rintro σ H1 ⟨u, v, rfl, s⟩
      refine ⟨_, rfl, _, rfl, _, _, _, _, rfl, s _ _ hp, T.c_Web, T.n_wares, (by show 0 < 1000; decide), _, rfl, _, vs, rfl, .inl ⟨.inl (.inl ?_), fun q' fq => ⟨_, rfl, p, CW K, dx, putF "wares" (.int n) [], rfl, ?_, T.c_Web, T.n_stalls, ?_, ?_⟩⟩⟩
      · rw [upd_ne (ne_of hq hp (by rintro ⟨⟩))]
        exact s _ _ hq
      · rw [upd_ne (fun e => by rw [← e, upd_same] at fq; cases fq)]
        exact upd_same
      · show 1 < 1000
        decide
      · have hne : q' ≠ p := fun e => by rw [e, upd_same] at fq; cases fq
        refine k q' _ upd_same ?_ fun c o hc hcp => ?_
        · rw [upd_ne hne]
          exact upd_same
        · have h1 := s _ _ hc
          rw [upd_ne hcp, upd_ne (fun e => by subst e; rw [upd_ne hcp] at fq; rw [fq] at h1; cases h1), upd_ne hcp]
          exact h1
  · obtain ⟨u1, u2, u3, rfl⟩ := three3 hl
    rfl
theorem sc_is_amounts : FnScope ["thing", "many", "item"] ["thing", "many"] (defScope s_is_amounts) := ⟨rfl, rfl, rfl, by decide +kernel, rfl, by decide +kernel, by decide +kernel⟩
theorem ok_is_amounts (T : Txt K mg) (D_is_amount : Dfn P w K mg base CX0 3 "is_amount" ["thing"] (sp1 sp_is_amount)) : Dfn P w K mg base CX0 4 "is_amounts" ["thing", "many"] (sp2 sp_is_amounts) := by
  obtain ⟨fd, F⟩ := T.f_is_amounts
  refine ⟨T.g_is_amounts, F.kp, fd, fnok_of F sc_is_amounts (fun vs H Q E h => ?_) (fun vs H Q E h => ?_), F.binds (ps := ["thing", "many"]) fun _ _ _ _ _ _ us hl => ?_⟩
  · obtain ⟨a1, a2, rfl, _⟩ := h
    rfl
  · obtain ⟨a1, a2, rfl, h⟩ := h
    intro cdv A outer s hr
    refine ⟨_, (pss_one (ps_ret (pe_and (pe_callB call_isiT (by rfl) T.b_isinstance (by decide +kernel) (pa_cons (pv 0) (pa_cons (pe_tup (pa_cons (pe_bltn (v := .ty "list") rfl T.b_list (by decide +kernel) rfl) (pa_cons (pe_bltn (v := .ty "tuple") rfl T.b_tuple (by decide +kernel) rfl) pa_nil))) pa_nil))) (pe_and (pe_cmpR op_eq (pe_callB call_len_seq (by rfl) T.b_len (by decide +kernel) (pa_cons (pv 0) pa_nil)) (pv 1) (nomark _)) (pe_one (pe_callB (cr_all rfl) (by rfl) T.b_all (by decide +kernel) (pa_cons (pe_lc (own := [("item", 2)]) (g := gName 2) rfl sc_is_amounts.nd (pi_list (pv 0)) (blkOk_by (N := ["thing", "many", "item"]) (sc := defScope s_is_amounts) (by decide +kernel)) (fun _ _ _ _ _ => (pg_name (i := 2) sc_is_amounts.nd rfl (Or.inl rfl))) (fun _ _ _ _ _ => pts_nil) (fun _ _ _ _ _ => (pe_callD D_is_amount hr (pa_cons (pv 2) pa_nil)))) pa_nil))))))), ?_⟩
    obtain ⟨n, rfl, h⟩ := h
    rcases h with ⟨f, ⟨p, vs, rfl, hp, hlen, hf⟩, h0, n8, k⟩ | ⟨p, vs, rfl, hp, hne, k⟩
    · refine ⟨_, rfl, (by show 2 ≤ sizeLine; decide), fun t1 f1 => ⟨_, t1, _, _, [.type "list", .type "tuple"], true, rfl, upd_same, .cons (.ty _) (.cons (.ty _) .nil), .base (.lst (Same.new f1 _ _ hp)), kitL, _, rfl, iteT ?_⟩⟩
      have s1 : Same H (upd H t1 (.tup [.ty "list", .ty "tuple"])) := Same.new f1
      refine ⟨_, rfl, _, _, rfl, .inl (.inl (.inl (s1 _ _ hp))), _, rfl, rfl, _, rfl, iteP (decide_eq_true (by rw [hlen])) ?_⟩
      refine ⟨_, rfl, _, rfl, ⟨_, .inl (.inl (s1 _ _ hp))⟩, fun D fD => ?_⟩
      refine lcm_list (xs := vs) (fun _ H' => Same (upd H t1 (.tup [.ty "list", .ty "tuple"])) H') (fun _ y _ => y = .bl true) (by rw [hlen]; exact Nat.lt_of_le_of_lt n8 (by decide)) (fun _ _ _ _ _ h => h) (Same.new fD) (fun _ _ _ s => .inl (.inl (s _ _ (s1 _ _ hp)))) (fun _ _ _ _ s _ => Same.mut s fD) ?_ ?_
      · rintro i x H' acc hx s hD hl C hC
        exact ⟨rfl, _, rfl, _, rfl, f i, (hf i x hx).up (Same.trans s1 s), h0 i, hC _ _ hD Keeps.rfl' s rfl⟩
      · rintro H2 acc s hD hl hR
        exact ⟨D, _, rfl, allL hD hR, qbl (allT _) (k _ (Same.trans s1 s))⟩
    · refine ⟨_, rfl, (by show 2 ≤ sizeLine; decide), fun t1 f1 => ⟨_, t1, _, _, [.type "list", .type "tuple"], true, rfl, upd_same, .cons (.ty _) (.cons (.ty _) .nil), .base (.lst (Same.new f1 _ _ hp)), kitL, _, rfl, iteT ?_⟩⟩
      have s1 : Same H (upd H t1 (.tup [.ty "list", .ty "tuple"])) := Same.new f1
      exact ⟨_, rfl, _, _, rfl, .inl (.inl (.inl (s1 _ _ hp))), _, rfl, rfl, _, rfl, iteN (decide_eq_false fun e => by injection e with e; exact hne (by omega)) (k _ s1)⟩
  · obtain ⟨u1, u2, rfl⟩ := two2 hl
    rfl
theorem sc_check_purse : FnScope ["web", "purse", "amount"] ["web", "purse"] (defScope s_check_purse) := ⟨rfl, rfl, rfl, by decide +kernel, rfl, by decide +kernel, by decide +kernel⟩
theorem ok_check_purse (T : Txt K mg) (D_is_amounts : Dfn P w K mg base CX0 4 "is_amounts" ["thing", "many"] (sp2 sp_is_amounts)) (D_exact : Dfn P w K mg base CX0 4 "exact" ["pair"] (sp1 (sp_exact K))) : Dfn P w K mg base CX0 5 "check_purse" ["web", "purse"] (sp2 (sp_check K)) := by
  obtain ⟨fd, F⟩ := T.f_check_purse
  refine ⟨T.g_check_purse, F.kp, fd, fnok_of F sc_check_purse (fun vs H Q E h => ?_) (fun vs H Q E h => ?_), F.binds (ps := ["web", "purse"]) fun _ _ _ _ _ _ us hl => ?_⟩
  · obtain ⟨a1, a2, rfl, _⟩ := h
    rfl
  · obtain ⟨a1, a2, rfl, h⟩ := h
    intro cdv A outer s hr
    refine ⟨_, (pss_cons (ps_if (pt_not (pt_val (pe_callD D_is_amounts hr (pa_cons (pv 1) (pa_cons (pe_fld (pv 0) rfl) pa_nil))))) (pss_one ps_never) pss_nil)
      (pss_one (ps_ret (pe_lc (own := [("amount", 2)]) (g := gName 2) rfl sc_check_purse.nd (pi_list (pv 1)) (blkOk_by (N := ["web", "purse", "amount"]) (sc := defScope s_check_purse) (by decide +kernel)) (fun _ _ _ _ _ => (pg_name (i := 2) sc_check_purse.nd rfl (Or.inl rfl))) (fun _ _ _ _ _ => pts_nil) (fun _ _ _ _ _ => (pe_callD D_exact hr (pa_cons (pv 2) pa_nil))))))), ?_⟩
    obtain ⟨n, l, f, ⟨ok, p, dx, q, vs, rfl, hp, hq, hs⟩, ⟨p2, vs2, rfl, hp2, hlen, hif⟩, am, k⟩ := h
    have n8 := ok.n8
    refine ⟨_, rfl, _, rfl, _, _, _, _, _, rfl, hp, T.c_Web, T.n_wares, (wF_wares n q), _, _, rfl, n, rfl, .inl ⟨f, ⟨_, _, rfl, hp2, hlen, hif⟩, fun k => (am k).2, ok.n8, fun H' s => ⟨_, rfl, iteN rfl ?_⟩⟩⟩
    refine ⟨_, rfl, _, rfl, ⟨_, .inl (.inl (s _ _ hp2))⟩, fun D fD => ?_⟩
    refine lcm_list (xs := vs2) (fun _ H2 => Same H' H2) (fun k y H => IsE K H y (f k)) (by rw [hlen]; exact Nat.lt_of_le_of_lt n8 (by decide)) (fun _ _ _ _ s h => h.keep s) (Same.new fD) (fun _ _ _ s2 => .inl (.inl (s2 _ _ (s _ _ hp2)))) (fun _ _ _ _ s _ => Same.mut s fD) ?_ ?_
    · rintro i x H2 acc hx s2 hD hl C hC
      exact ⟨rfl, _, rfl, _, rfl, f i, (hif i x hx).up (Same.trans s s2), (am i).1.ok0 (by decide), fun v H4 s4 h4 => hC v H4 (s4 _ _ hD) (Keeps.of s4) (Same.trans s2 s4) h4⟩
    · rintro H2 acc s2 hD hl hR
      exact k D acc H2 (Same.free s fD) (Same.trans s s2) hD (by rw [hl, hlen]) hR
  · obtain ⟨u1, u2, rfl⟩ := two2 hl
    rfl
theorem sc_check_wish : FnScope ["web", "wish", "amount"] ["web", "wish"] (defScope s_check_wish) := ⟨rfl, rfl, rfl, by decide +kernel, rfl, by decide +kernel, by decide +kernel⟩
theorem ok_check_wish (T : Txt K mg) (D_is_amounts : Dfn P w K mg base CX0 4 "is_amounts" ["thing", "many"] (sp2 sp_is_amounts)) (D_exact : Dfn P w K mg base CX0 4 "exact" ["pair"] (sp1 (sp_exact K))) : Dfn P w K mg base CX0 5 "check_wish" ["web", "wish"] (sp2 (sp_check K)) := by
  obtain ⟨fd, F⟩ := T.f_check_wish
  refine ⟨T.g_check_wish, F.kp, fd, fnok_of F sc_check_wish (fun vs H Q E h => ?_) (fun vs H Q E h => ?_), F.binds (ps := ["web", "wish"]) fun _ _ _ _ _ _ us hl => ?_⟩
  · obtain ⟨a1, a2, rfl, _⟩ := h
    rfl
  · obtain ⟨a1, a2, rfl, h⟩ := h
    intro cdv A outer s hr
    refine ⟨_, (pss_cons (ps_if (pt_not (pt_val (pe_callD D_is_amounts hr (pa_cons (pv 1) (pa_cons (pe_fld (pv 0) rfl) pa_nil))))) (pss_one ps_never) pss_nil)
      (pss_one (ps_ret (pe_lc (own := [("amount", 2)]) (g := gName 2) rfl sc_check_wish.nd (pi_list (pv 1)) (blkOk_by (N := ["web", "wish", "amount"]) (sc := defScope s_check_wish) (by decide +kernel)) (fun _ _ _ _ _ => (pg_name (i := 2) sc_check_wish.nd rfl (Or.inl rfl))) (fun _ _ _ _ _ => pts_nil) (fun _ _ _ _ _ => (pe_callD D_exact hr (pa_cons (pv 2) pa_nil))))))), ?_⟩
    obtain ⟨n, l, f, ⟨ok, p, dx, q, vs, rfl, hp, hq, hs⟩, ⟨p2, vs2, rfl, hp2, hlen, hif⟩, am, k⟩ := h
    have n8 := ok.n8
    refine ⟨_, rfl, _, rfl, _, _, _, _, _, rfl, hp, T.c_Web, T.n_wares, (wF_wares n q), _, _, rfl, n, rfl, .inl ⟨f, ⟨_, _, rfl, hp2, hlen, hif⟩, fun k => (am k).2, ok.n8, fun H' s => ⟨_, rfl, iteN rfl ?_⟩⟩⟩
    refine ⟨_, rfl, _, rfl, ⟨_, .inl (.inl (s _ _ hp2))⟩, fun D fD => ?_⟩
    refine lcm_list (xs := vs2) (fun _ H2 => Same H' H2) (fun k y H => IsE K H y (f k)) (by rw [hlen]; exact Nat.lt_of_le_of_lt n8 (by decide)) (fun _ _ _ _ s h => h.keep s) (Same.new fD) (fun _ _ _ s2 => .inl (.inl (s2 _ _ (s _ _ hp2)))) (fun _ _ _ _ s _ => Same.mut s fD) ?_ ?_
    · rintro i x H2 acc hx s2 hD hl C hC
      exact ⟨rfl, _, rfl, _, rfl, f i, (hif i x hx).up (Same.trans s s2), (am i).1.ok0 (by decide), fun v H4 s4 h4 => hC v H4 (s4 _ _ hD) (Keeps.of s4) (Same.trans s2 s4) h4⟩
    · rintro H2 acc s2 hD hl hR
      exact k D acc H2 (Same.free s fD) (Same.trans s s2) hD (by rw [hl, hlen]) hR
  · obtain ⟨u1, u2, rfl⟩ := two2 hl
    rfl
theorem sc_empty : FnScope ["web", "ware"] ["web"] (defScope s_empty) := ⟨rfl, rfl, rfl, by decide +kernel, rfl, by decide +kernel, by decide +kernel⟩
theorem ok_empty (T : Txt K mg) (K_Exact : Mkd P w K mg base CX0 2 "Exact" ["self", "top", "bottom"] (sp3 (sp_Exact_init K))) : Dfn P w K mg base CX0 4 "empty" ["web"] (sp1 (sp_empty K)) := by
  obtain ⟨fd, F⟩ := T.f_empty
  refine ⟨T.g_empty, F.kp, fd, fnok_of F sc_empty (fun vs H Q E h => ?_) (fun vs H Q E h => ?_), F.binds (ps := ["web"]) fun _ _ _ _ _ _ us hl => ?_⟩
  · obtain ⟨a1, rfl, _⟩ := h
    rfl
  · obtain ⟨a1, rfl, h⟩ := h
    intro cdv A outer s hr
    refine ⟨_, (pss_one (ps_ret (pe_lc (own := [("ware", 1)]) (g := gName 1) rfl sc_empty.nd (pi_range1 rfl T.b_range (pa_cons (pe_fld (pv 0) rfl) pa_nil)) (blkOk_by (N := ["web", "ware"]) (sc := defScope s_empty) (by decide +kernel)) (fun _ _ _ _ _ => (pg_name (i := 1) sc_empty.nd rfl (Or.inl rfl))) (fun _ _ _ _ _ => pts_nil) (fun _ _ _ _ _ => (pe_makeD K_Exact hr (pa_cons pe_int (pa_cons pe_int pa_nil))))))), ?_⟩
    obtain ⟨n, l, ⟨ok, p, dx, q, vs, rfl, hp, hq, hs⟩, k⟩ := h
    have n8 := ok.n8
    refine ⟨_, rfl, _, _, _, _, _, rfl, hp, T.c_Web, T.n_wares, (wF_wares n q), _, rfl, by omega, by omega, fun D fD => ?_⟩
    refine lcm_range (n := n) (fun _ H2 => Same H H2) (fun k y H => IsE K H y 0) (Nat.lt_of_le_of_lt n8 (by decide)) (fun _ _ _ _ s h => h.keep s) (Same.new fD) (fun _ _ _ _ s _ => Same.mut s fD) ?_ ?_
    · rintro i H2 acc hi s2 hD hl C hC
      exact ⟨rfl, make_zero fun v H4 s4 h4 => hC v H4 (s4 _ _ hD) (Keeps.of s4) (Same.trans s2 s4) h4⟩
    · rintro H2 acc s2 hD hl hR
      exact k D acc H2 fD s2 hD hl hR
  · obtain ⟨u1, rfl⟩ := one1 hl
    rfl
theorem sc_held_exact : FnScope ["web", "found", "one", "other", "amount", "second", "root"] ["web"] (defScope s_held_exact) := ⟨rfl, rfl, rfl, by decide +kernel, rfl, by decide +kernel, by decide +kernel⟩
theorem ok_held_exact (T : Txt K mg) (D_empty : Dfn P w K mg base CX0 4 "empty" ["web"] (sp1 (sp_empty K))) (D_exact : Dfn P w K mg base CX0 4 "exact" ["pair"] (sp1 (sp_exact K))) (M_Exact_add : Mtd P w K mg base CX0 4 "Exact" "__add__" ["self", "other"] (sp2 (sp_add K))) : Dfn P w K mg base CX0 5 "held_exact" ["web"] (sp1 (sp_held_exact K)) := by
  obtain ⟨fd, F⟩ := T.f_held_exact
  refine ⟨T.g_held_exact, F.kp, fd, fnok_of F sc_held_exact (fun vs H Q E h => ?_) (fun vs H Q E h => ?_), F.binds (ps := ["web"]) fun _ _ _ _ _ _ us hl => ?_⟩
  · obtain ⟨a1, rfl, _⟩ := h
    rfl
  · obtain ⟨a1, rfl, h⟩ := h
    intro cdv A outer s hr
    refine ⟨_, (pss_cons (ps_set (i := 1) sc_held_exact.nd rfl (Or.inl rfl) (pe_callD D_empty hr (pa_cons (pv 0) pa_nil)))
      (pss_cons (ps_for PassesOwn.never rfl (pi_tup (pe_fld (pv 0) rfl)) (pg_tup rfl (pgs_cons (pg_name (i := 2) sc_held_exact.nd rfl (Or.inl rfl)) (pgs_cons (pg_name (i := 3) sc_held_exact.nd rfl (Or.inl rfl)) (pgs_cons (pg_name (i := 4) sc_held_exact.nd rfl (Or.inl rfl)) (pgs_cons (pg_name (i := 5) sc_held_exact.nd rfl (Or.inl rfl)) (pgs_cons (pg_name (i := 6) sc_held_exact.nd rfl (Or.inl rfl)) pgs_nil)))))) (pss_cons (ps_asg (pe_op (op_ownD T.sf M_Exact_add hr) (pe_ix ix_list (pv 1) (pv 2) (fun _ _ => rfl)) (pe_callD D_exact hr (pa_cons (pv 4) pa_nil))) (pg_sub (pv 1) (pv 2) set_list))
      (pss_one (ps_asg (pe_op (op_ownD T.sf M_Exact_add hr) (pe_ix ix_list (pv 1) (pv 3) (fun _ _ => rfl)) (pe_callD D_exact hr (pa_cons (pv 5) pa_nil))) (pg_sub (pv 1) (pv 3) set_list)))))
      (pss_one (ps_ret (pv 1))))), ?_⟩
    obtain ⟨n, l, ⟨ok, p, dx, q, vs, rfl, hp, hq, hs⟩, k⟩ := h
    have n8 := ok.n8
    refine ⟨_, rfl, _, rfl, n, l, ⟨ok, p, dx, q, vs, rfl, hp, hq, hs⟩, fun fp fs H1 ffp s1 hfp hfl hfe => ?_⟩
    refine ⟨_, rfl, _, _, _, _, _, rfl, (s1 _ _ hp), T.c_Web, T.n_stalls, (wF_stalls n q), _, rfl, ⟨_, SqT.keep (Keeps.of s1) hq⟩, ?_⟩
    refine for_tup (xs := vs) (fun i σ H' => ∃ u1 u2 u3 u4 u5 fs, σ = [some (.ref p), some (.ref fp), u1, u2, u3, u4, u5] ∧ Same H H' ∧ H' fp = some (.lst fs) ∧ fs.length = n ∧ ItE K H' fs (heldS (l.take i))) ⟨_, _, _, _, _, fs, rfl, s1, hfp, hfl, hfe⟩ (fun i σ H' _ ⟨_, _, _, _, _, _, _, s, _⟩ => SqT.keep (Keeps.of s) hq) ?_ ?_
    · rintro i x σ H2 hx ⟨u1, u2, u3, u4, u5, fs, rfl, s2, h2, hl2, he2⟩
      obtain ⟨t, ht, hS⟩ := hs.2 i x hx
      obtain ⟨pt, xa, xb, xr, rfl, hpt, hxa, hxb, hxr⟩ := hS.keep (Keeps.of s2)
      have okt := ok.ok t (List.mem_of_getElem? ht)
      have okh : ∀ w, Ok (heldS (l.take i) w) := ok_held (fun t h => ok.ok t (List.mem_of_mem_take h)) (by rw [List.length_take]; exact Nat.le_trans (Nat.min_le_right _ _) ok.l16)
      have hti : t.i < fs.length := by rw [hl2]; exact okt.i
      obtain ⟨pe, de, ey, hpe⟩ := he2 t.i _ (List.getElem?_eq_getElem hti)
      refine ⟨_, _, rfl, .inl (.inl hpt), rfl, _, _, rfl, _, _, rfl, _, _, rfl, _, _, rfl, _, _, rfl, rfl, _, rfl, _, rfl, _, _, _, _, rfl, rfl, .inl (.inl h2), (by rw [atI_nat (List.getElem?_eq_getElem hti), ey]), _, rfl, _, rfl, t.a, hxa, okt.a.ok0 (by decide), fun va H3 s3 ⟨pa, da, ea, ha⟩ => ?_⟩
      subst ea
      refine ⟨_, _, _, _, _, _, rfl, rfl, (s3 _ _ hpe), ha, _, _, rfl, _, _, ⟨_, _, rfl, (s3 _ _ hpe)⟩, ⟨_, _, rfl, ha⟩, (okh _), (okt.a.ok0 (by decide)), fun vm H4 s4 hm => ?_⟩
      have s34 := Same.trans s3 s4
      refine ⟨_, rfl, _, rfl, _, _, _, _, rfl, rfl, (s34 _ _ h2), Evl.ixN_nat hti, ?_⟩
      have kp := Keeps.upd (o := .lst (fs.set t.i vm)) (s34 _ _ h2) rfl
      have he5 := ((he2.keep (Keeps.of s34)).set (i := t.i) hm).keep kp
      have s5 : Same H (upd H4 fp (.lst (fs.set t.i vm))) := Same.mut (Same.trans s2 s34) ffp
      have htj : t.j < (fs.set t.i vm).length := by rw [List.length_set, hl2]; exact okt.j
      have hj := he5 t.j _ (List.getElem?_eq_getElem htj)
      simp only [if_neg (fun e => okt.ne e.symm : ¬ t.j = t.i)] at hj
      obtain ⟨pe2, de2, ey2, hpe2⟩ := hj
      refine ⟨_, rfl, _, rfl, _, _, _, _, rfl, rfl, .inl (.inl upd_same), (by rw [atI_nat (List.getElem?_eq_getElem htj), ey2]), _, rfl, _, rfl, t.b, (hxb.up s34).keep kp, okt.b.ok0 (by decide), fun vb H6 s6 ⟨pb, db, eb, hb⟩ => ?_⟩
      subst eb
      refine ⟨_, _, _, _, _, _, rfl, rfl, (s6 _ _ hpe2), hb, _, _, rfl, _, _, ⟨_, _, rfl, (s6 _ _ hpe2)⟩, ⟨_, _, rfl, hb⟩, (okh _), (okt.b.ok0 (by decide)), fun vm2 H7 s7 hm2 => ?_⟩
      have s67 := Same.trans s6 s7
      refine ⟨_, rfl, _, rfl, _, _, _, _, rfl, rfl, (s67 _ _ upd_same), Evl.ixN_nat htj, ?_⟩
      have kp2 := Keeps.upd (o := .lst ((fs.set t.i vm).set t.j vm2)) (s67 _ _ upd_same) rfl
      refine ⟨_, _, _, _, _, _, rfl, Same.mut (Same.trans s5 s67) ffp, upd_same, by simp [hl2], ?_⟩
      have he8 := ((he5.keep (Keeps.of s67)).set (i := t.j) hm2).keep kp2
      rw [take_snoc ht, held_snoc, ← bring_step _ _ okt.ne]
      exact he8
    · rintro σ H2 ⟨u1, u2, u3, u4, u5, fs, rfl, s2, h2, hl2, he2⟩
      rw [hs.len, List.take_length] at he2
      exact ⟨_, rfl, k fp fs H2 ffp s2 h2 hl2 he2⟩
  · obtain ⟨u1, rfl⟩ := one1 hl
    rfl
theorem sc_roots_exact : FnScope ["web", "found", "one", "other", "amount", "second", "root", "here", "there", "ware"] ["web"] (defScope s_roots_exact) := ⟨rfl, rfl, rfl, by decide +kernel, rfl, by decide +kernel, by decide +kernel⟩
theorem ok_roots_exact (T : Txt K mg) (K_Exact : Mkd P w K mg base CX0 2 "Exact" ["self", "top", "bottom"] (sp3 (sp_Exact_init K))) (D_exact : Dfn P w K mg base CX0 4 "exact" ["pair"] (sp1 (sp_exact K))) (M_Exact_add : Mtd P w K mg base CX0 4 "Exact" "__add__" ["self", "other"] (sp2 (sp_add K))) : Dfn P w K mg base CX0 5 "roots_exact" ["web"] (sp1 (sp_roots_exact K)) := by
  obtain ⟨fd, F⟩ := T.f_roots_exact
  refine ⟨T.g_roots_exact, F.kp, fd, fnok_of F sc_roots_exact (fun vs H Q E h => ?_) (fun vs H Q E h => ?_), F.binds (ps := ["web"]) fun _ _ _ _ _ _ us hl => ?_⟩
  · obtain ⟨a1, rfl, _⟩ := h
    rfl
  · obtain ⟨a1, rfl, h⟩ := h
    intro cdv A outer s hr
    refine ⟨_, (pss_cons (ps_setLc (i := 1) (own := [("ware", 9)]) (g := gName 9) rfl sc_roots_exact.nd rfl rfl (sw_true rfl rfl rfl (by decide +kernel)) (pi_range1 rfl T.b_range (pa_cons (pe_fld (pv 0) rfl) pa_nil)) (blkOk_by (N := ["web", "found", "one", "other", "amount", "second", "root", "here", "there", "ware"]) (sc := defScope s_roots_exact) (by decide +kernel)) (fun _ _ _ _ _ => (pg_name (i := 9) sc_roots_exact.nd rfl (Or.inl rfl))) (fun _ _ _ _ _ => pts_nil) (fun _ _ _ _ _ => pe_dnewK))
      (pss_cons (ps_for PassesOwn.never rfl (pi_tup (pe_fld (pv 0) rfl)) (pg_tup rfl (pgs_cons (pg_name (i := 2) sc_roots_exact.nd rfl (Or.inl rfl)) (pgs_cons (pg_name (i := 3) sc_roots_exact.nd rfl (Or.inl rfl)) (pgs_cons (pg_name (i := 4) sc_roots_exact.nd rfl (Or.inl rfl)) (pgs_cons (pg_name (i := 5) sc_roots_exact.nd rfl (Or.inl rfl)) (pgs_cons (pg_name (i := 6) sc_roots_exact.nd rfl (Or.inl rfl)) pgs_nil)))))) (pss_one (ps_for PassesOwn.never rfl (pi_tup (pe_tup (pa_cons (pe_tup (pa_cons (pv 2) (pa_cons (pv 3) pa_nil))) (pa_cons (pe_tup (pa_cons (pv 3) (pa_cons (pv 2) pa_nil))) pa_nil)))) (pg_tup rfl (pgs_cons (pg_name (i := 7) sc_roots_exact.nd rfl (Or.inl rfl)) (pgs_cons (pg_name (i := 8) sc_roots_exact.nd rfl (Or.inl rfl)) pgs_nil))) (pss_one (ps_dput (hu_of hr) (pe_ix ix_list (pv 1) (pv 7) (fun _ _ => rfl)) (pv 8) (pe_op (op_ownD T.sf M_Exact_add hr) (pe_dget2 (hu_of hr) (pe_ix ix_list (pv 1) (pv 7) (fun _ _ => rfl)) (pv 8) (pe_makeD K_Exact hr (pa_cons pe_int (pa_cons pe_int pa_nil))) ⟨rfl, rfl, rfl, rfl⟩) (pe_callD D_exact hr (pa_cons (pv 6) pa_nil))) rfl)))))
      (pss_one (ps_ret (pv 1))))), ?_⟩
    obtain ⟨n, l, ⟨ok, p, dx, q, vs, rfl, hp, hq, hs⟩, k⟩ := h
    have n8 := ok.n8
    refine ⟨_, rfl, _, _, _, _, _, rfl, hp, T.c_Web, T.n_wares, (wF_wares n q), _, rfl, by omega, by omega, fun D fD => ?_⟩
    refine lc_range (n := n) (fun i H' => ∃ rl : List Addr, rl.length = i ∧ rl.Nodup ∧ (∀ r ∈ rl, H r = none ∧ H' r = some (.dK [])) ∧ H' D = some (.lst (rl.map V.ref)) ∧ Same H H' ∧ D ∉ rl) ⟨[], rfl, List.nodup_nil, (fun r h => by cases h), upd_same, Same.new fD, by simp⟩ ?_ ?_
    · rintro i H2 hi ⟨rl, h1, h2, h3, h4, h5, h6⟩
      refine ⟨rfl, fun r fr => ⟨_, by rw [upd_ne (ne_of_none h4 fr)]; exact h4, by simp [h1]; exact Nat.lt_of_lt_of_le hi (Nat.le_trans n8 (by decide)), rl ++ [r], by simp [h1], ?_, ?_, by rw [upd_same, List.map_append]; rfl, ?_, ?_⟩⟩
      · rw [List.nodup_append]
        refine ⟨h2, by simp, fun a ha b hb e => ?_⟩
        rw [List.mem_singleton] at hb
        subst hb e
        rw [(h3 a ha).2] at fr
        cases fr
      · intro a ha
        have hD : r ≠ D := fun e => by rw [e, h4] at fr; cases fr
        rcases List.mem_append.mp ha with ha | ha
        · have hne : a ≠ D := fun e => h6 (e ▸ ha)
          refine ⟨(h3 a ha).1, ?_⟩
          rw [upd_ne hne, upd_ne (ne_of_none (h3 a ha).2 fr)]
          exact (h3 a ha).2
        · rw [List.mem_singleton] at ha
          subst ha
          refine ⟨Same.free h5 fr, ?_⟩
          rw [upd_ne hD]
          exact upd_same
      · exact Same.mut (Same.trans h5 (Same.new fr)) fD
      · intro hm
        rcases List.mem_append.mp hm with hm | hm
        · exact h6 hm
        · rw [List.mem_singleton] at hm
          rw [← hm, h4] at fr
          cases fr
    · rintro H1 ⟨rl, hrl, hnd, hrows, hfp, s1, hDn⟩
      have hR : Rows K H1 rl (fun _ => True) (Dn 0 n (tieS (l.take 0))) (tieS (l.take 0)) := ⟨hnd, fun i r _ e => ⟨[], (hrows r (List.mem_of_getElem? e)).2, (Row.nil (f := tieS (l.take 0) i)).congr (fun j => ⟨fun h => h.elim, fun h => absurd h.2.2.2 (Rat.lt_irrefl)⟩) fun j h => h.elim⟩⟩
      have hfresh : ∀ r ∈ rl, H r = none := fun r h => (hrows r h).1
      clear hrows
      refine ⟨_, rfl, _, _, _, _, _, rfl, (s1 _ _ hp), T.c_Web, T.n_stalls, (wF_stalls n q), _, rfl, ⟨_, SqT.keep (Keeps.of s1) hq⟩, ?_⟩
      refine for_tup (xs := vs) (fun i σ H' => ∃ u1 u2 u3 u4 u5 u6 u7 u8, σ = [some (.ref p), some (.ref D), u1, u2, u3, u4, u5, u6, u7, u8] ∧ Same H H' ∧ H' D = some (.lst (rl.map V.ref)) ∧ Rows K H' rl (fun _ => True) (Dn 0 n (tieS (l.take i))) (tieS (l.take i))) ⟨_, _, _, _, _, _, _, _, rfl, s1, hfp, hR⟩ (fun i σ H' _ ⟨_, _, _, _, _, _, _, _, _, s, _⟩ => SqT.keep (Keeps.of s) hq) ?_ ?_
      · rintro i x σ H2 hx ⟨u1, u2, u3, u4, u5, u6, u7, u8, rfl, s2, h2, hr2⟩
        obtain ⟨t, ht, hS⟩ := hs.2 i x hx
        obtain ⟨pt, xa, xb, xr, rfl, hpt, hxa, hxb, hxr⟩ := hS.keep (Keeps.of s2)
        have okt := ok.ok t (List.mem_of_getElem? ht)
        have okl : ∀ t ∈ l.take i, OkS n t := fun t h => ok.ok t (List.mem_of_mem_take h)
        have l16 : (l.take i).length ≤ 16 := by rw [List.length_take]; exact Nat.le_trans (Nat.min_le_right _ _) ok.l16
        have hnn := tie_nn okl
        refine ⟨_, _, rfl, .inl (.inl hpt), rfl, _, _, rfl, _, _, rfl, _, _, rfl, _, _, rfl, _, _, rfl, rfl, _, rfl, _, rfl, (by show 2 ≤ sizeLine; decide), fun t1 f1 => ⟨_, rfl, _, rfl, (by show 2 ≤ sizeLine; decide), fun t2 f2 => ⟨(by show 2 ≤ sizeLine; decide), fun t3 f3 => ⟨_, rfl, ⟨_, .inl (.inl upd_same)⟩, ?_⟩⟩⟩⟩
        generalize hH3 : upd (upd (upd H2 t1 (.tup [.int t.i, .int t.j])) t2 (.tup [.int t.j, .int t.i])) t3 (.tup [.ref t1, .ref t2]) = H3
        have s23 : Same H2 H3 := by rw [← hH3]; exact Same.trans (Same.new f1) (Same.trans (Same.new f2) (Same.new f3))
        have e3 : H3 t3 = some (.tup [.ref t1, .ref t2]) := by rw [← hH3]; exact upd_same
        have e2 : H3 t2 = some (.tup [.int t.j, .int t.i]) := by rw [← hH3]; exact Same.new f3 _ _ upd_same
        have e1 : H3 t1 = some (.tup [.int t.i, .int t.j]) := by rw [← hH3]; exact Same.trans (Same.new f2) (Same.new f3) _ _ upd_same
        clear hH3 f1 f2 f3
        refine for_tup (xs := [.ref t1, .ref t2]) (fun m σ H' => ∃ w7 w8, σ = [some (.ref p), some (.ref D), some (.int t.i), some (.int t.j), some xa, some xb, some xr, w7, w8, u8] ∧ Keeps H3 H' ∧ Same H H' ∧ H' D = some (.lst (rl.map V.ref)) ∧ (m = 0 ∧ Rows K H' rl (fun _ => True) (Dn 0 n (tieS (l.take i))) (tieS (l.take i)) ∨
            m = 1 ∧ Rows K H' rl (fun _ => True) (Dn 0 n fun a b => tieS (l.take i) a b + if a = t.i ∧ b = t.j then t.r else 0) (fun a b => tieS (l.take i) a b + if a = t.i ∧ b = t.j then t.r else 0) ∨
            m = 2 ∧ Rows K H' rl (fun _ => True) (Dn 0 n fun a b => (tieS (l.take i) a b + if a = t.i ∧ b = t.j then t.r else 0) + if a = t.j ∧ b = t.i then t.r else 0) (fun a b => (tieS (l.take i) a b + if a = t.i ∧ b = t.j then t.r else 0) + if a = t.j ∧ b = t.i then t.r else 0)))
            ⟨_, _, rfl, Keeps.rfl', Same.trans s2 s23, s23 _ _ h2, .inl ⟨rfl, hr2.up s23⟩⟩ (fun _ σ H' _ ⟨_, _, _, kp, _⟩ => .inl (.inl (kp _ _ e3 rfl))) ?_ ?_
        · rintro m x σ H4 hx ⟨w7, w8, rfl, kp, s4, hD4, hm⟩
          rcases hm with ⟨rfl, hr4⟩ | ⟨rfl, hr4⟩ | ⟨rfl, _⟩
          · cases hx
            obtain ⟨r, hru⟩ : ∃ r, rl[t.i]? = some r := ⟨_, List.getElem?_eq_getElem (by rw [hrl]; exact okt.i)⟩
            obtain ⟨kvs, hk, hrow⟩ := hr4.row t.i r trivial hru
            refine ⟨_, _, rfl, .inl (.inl (kp _ _ e1 rfl)), rfl, _, _, rfl, _, _, rfl, rfl, _, rfl, _, rfl, _, _, _, _, rfl, rfl, .inl (.inl hD4), (atI_nat (by rw [List.getElem?_map, hru]; rfl)), _, rfl, hr4.isD trivial hru, _, rfl, fun x dx nx ndx hne => ⟨_, _, _, rfl, x, dx, 0, 1, rfl, upd_same, rfl, rfl, by decide, big0, big1, fun H5 em kk => ⟨rfl, ?_⟩⟩⟩
            obtain ⟨s5, hz⟩ := made_E (q' := 0) nx ndx em rfl kk
            obtain ⟨o, ho, hoe⟩ := (hr4.up s5).getD (u := t.i) (w := t.j) trivial hru (fun hd => Dn.zero hd (Nat.zero_le _) okt.j (fun e => okt.ne e.symm) (hnn _ _)) hz
            refine ⟨o, ho, _, rfl, _, rfl, t.r, (hxr.up s23).keep (Keeps.trans kp (Keeps.of s5)), okt.r.ok0 (by decide), fun ve H6 s6 ⟨pe, de, ee, hee⟩ => ?_⟩
            subst ee
            obtain ⟨po, dox, eo, hpo⟩ := hoe.up s6
            refine ⟨_, _, _, _, _, _, eo, rfl, hpo, hee, _, _, rfl, _, _, ⟨_, _, rfl, hpo⟩, ⟨_, _, rfl, hee⟩, ok_tie okl l16 _ _, okt.r.ok0 (by decide), fun v7 H7 s7 hv7 => ?_⟩
            have s57 := Same.trans s5 (Same.trans s6 s7)
            have hk7 := s57 _ _ hk
            have hln : kvs.length ≤ n := hrow.len fun j hj => hj.2.1
            refine ⟨_, rfl, _, rfl, _, _, _, _, rfl, rfl, .inl (.inl (s57 _ _ hD4)), (atI_nat (by rw [List.getElem?_map, hru]; rfl)), _, rfl, _, _, rfl, DPut.k (k := .inl (t.j : Int)) hk7 (Nat.lt_of_le_of_lt (Nat.le_trans hln n8) (by decide)), _, _, rfl, Keeps.trans kp (Keeps.trans (Keeps.of s57) (Keeps.upd hk7 rfl)), Same.mut (Same.trans s4 s57) (hfresh r (List.mem_of_getElem? hru)), ?_, .inr (.inl ⟨rfl, (hr4.up s57).raise trivial hru hk7 hv7 (hnn _ _) okt.r0 (Nat.zero_le _) okt.j (fun e => okt.ne e.symm)⟩)⟩
            rw [upd_ne (ne_of (s57 _ _ hD4) hk7 (by rintro ⟨⟩))]
            exact s57 _ _ hD4
          · cases hx
            have hnn1 : ∀ a b, 0 ≤ tieS (l.take i) a b + if a = t.i ∧ b = t.j then t.r else 0 := fun a b => Rat.add_nonneg (hnn a b) (ite_nn (Rat.le_of_lt okt.r0))
            obtain ⟨r, hru⟩ : ∃ r, rl[t.j]? = some r := ⟨_, List.getElem?_eq_getElem (by rw [hrl]; exact okt.j)⟩
            obtain ⟨kvs, hk, hrow⟩ := hr4.row t.j r trivial hru
            refine ⟨_, _, rfl, .inl (.inl (kp _ _ e2 rfl)), rfl, _, _, rfl, _, _, rfl, rfl, _, rfl, _, rfl, _, _, _, _, rfl, rfl, .inl (.inl hD4), (atI_nat (by rw [List.getElem?_map, hru]; rfl)), _, rfl, hr4.isD trivial hru, _, rfl, fun x dx nx ndx hne => ⟨_, _, _, rfl, x, dx, 0, 1, rfl, upd_same, rfl, rfl, by decide, big0, big1, fun H5 em kk => ⟨rfl, ?_⟩⟩⟩
            obtain ⟨s5, hz⟩ := made_E (q' := 0) nx ndx em rfl kk
            obtain ⟨o, ho, hoe⟩ := (hr4.up s5).getD (u := t.j) (w := t.i) trivial hru (fun hd => Dn.zero hd (Nat.zero_le _) okt.i okt.ne (hnn1 _ _)) hz
            refine ⟨o, ho, _, rfl, _, rfl, t.r, (hxr.up s23).keep (Keeps.trans kp (Keeps.of s5)), okt.r.ok0 (by decide), fun ve H6 s6 ⟨pe, de, ee, hee⟩ => ?_⟩
            subst ee
            obtain ⟨po, dox, eo, hpo⟩ := hoe.up s6
            refine ⟨_, _, _, _, _, _, eo, rfl, hpo, hee, _, _, rfl, _, _, ⟨_, _, rfl, hpo⟩, ⟨_, _, rfl, hee⟩, ok_tie2 okl l16 _ _ okt.r, okt.r.ok0 (by decide), fun v7 H7 s7 hv7 => ?_⟩
            have s57 := Same.trans s5 (Same.trans s6 s7)
            have hk7 := s57 _ _ hk
            have hln : kvs.length ≤ n := hrow.len fun j hj => hj.2.1
            refine ⟨_, rfl, _, rfl, _, _, _, _, rfl, rfl, .inl (.inl (s57 _ _ hD4)), (atI_nat (by rw [List.getElem?_map, hru]; rfl)), _, rfl, _, _, rfl, DPut.k (k := .inl (t.i : Int)) hk7 (Nat.lt_of_le_of_lt (Nat.le_trans hln n8) (by decide)), _, _, rfl, Keeps.trans kp (Keeps.trans (Keeps.of s57) (Keeps.upd hk7 rfl)), Same.mut (Same.trans s4 s57) (hfresh r (List.mem_of_getElem? hru)), ?_, .inr (.inr ⟨rfl, (hr4.up s57).raise trivial hru hk7 hv7 (hnn1 _ _) okt.r0 (Nat.zero_le _) okt.i okt.ne⟩)⟩
            rw [upd_ne (ne_of (s57 _ _ hD4) hk7 (by rintro ⟨⟩))]
            exact s57 _ _ hD4
          · cases hx
        · rintro σ H4 ⟨w7, w8, rfl, kp, s4, hD4, hm⟩
          rcases hm with ⟨h, _⟩ | ⟨h, _⟩ | ⟨_, hr4⟩
          · cases h
          · cases h
          · refine ⟨_, _, _, _, _, _, _, _, rfl, s4, hD4, ?_⟩
            have e : tieS (l.take (i + 1)) = fun a b => (tieS (l.take i) a b + if a = t.i ∧ b = t.j then t.r else 0) + if a = t.j ∧ b = t.i then t.r else 0 := by
              funext a b
              rw [take_snoc ht, tie_snoc, Rat.add_assoc]
              unfold tieOf
              simp only [eq_comm]
            rw [e]
            exact hr4
      · rintro σ H2 ⟨u1, u2, u3, u4, u5, u6, u7, u8, rfl, s2, h2, hr2⟩
        rw [hs.len, List.take_length] at hr2
        exact ⟨_, rfl, k D rl H2 fD hfresh s2 h2 hrl hr2⟩
  · obtain ⟨u1, rfl⟩ := one1 hl
    rfl
end
end R25

set_option Elab.async false
set_option linter.all false
set_option maxRecDepth 100000
set_option maxHeartbeats 4000000
namespace R25
open PySem PySem.Spec PyProof.Rows L2
/-! ### tables -/
structure Tw where
  p : Addr
  dx : Addr
  a : Addr
  b : Addr
  c : Addr
  rs : List Addr
def tF (a b c : Addr) : List (Str × V) := putF "gone" (.ref c) (putF "beside" (.ref b) (putF "slants" (.ref a) []))
theorem tF_slants (a b c : Addr) : (tF a b c).lookup ("slants" : Str) = some (V.ref a) := by
  unfold tF
  rw [lookup_putF, if_neg (sne (by decide +kernel)), lookup_putF, if_neg (sne (by decide +kernel)), lookup_putF, if_pos rfl]
theorem tF_beside (a b c : Addr) : (tF a b c).lookup ("beside" : Str) = some (V.ref b) := by
  unfold tF
  rw [lookup_putF, if_neg (sne (by decide +kernel)), lookup_putF, if_pos rfl]
theorem tF_gone (a b c : Addr) : (tF a b c).lookup ("gone" : Str) = some (V.ref c) := by
  unfold tF
  rw [lookup_putF, if_pos rfl]
theorem tF_no (a b c : Addr) {x : Str} (h1 : ¬ x = "slants") (h2 : ¬ x = "beside") (h3 : ¬ x = "gone") : (tF a b c).lookup x = none := by
  unfold tF
  rw [lookup_putF, if_neg h3, lookup_putF, if_neg h2, lookup_putF, if_neg h1]
  rfl
structure Tab (K : PySem.W.Frag) (H : Hp) (W : Tw) (n k : Nat) (S : Nat → Rat) (D : Nat → Nat → Prop) (T : Nat → Nat → Rat) : Prop where
  ins : H W.p = some (.ins (CTb K) W.dx (tF W.a W.b W.c))
  ab : W.a ≠ W.b
  ac : W.a ≠ W.c
  bc : W.b ≠ W.c
  sl : ∃ L, H W.a = some (.lst L) ∧ L.length = n ∧ ∀ (i : Nat) (v : V), k ≤ i → L[i]? = some v → IsE K H v (S i)
  bs : ∃ L, H W.b = some (.lst L) ∧ L.length = n ∧ ∀ (i : Nat) (r : Addr), k ≤ i → W.rs[i]? = some r → L[i]? = some (.ref r)
  cs : ∃ L, H W.c = some (.lst L)
  rl : W.rs.length = n
  rows : Rows K H W.rs (fun i => k ≤ i) D T
  dk : ∀ r ∈ W.rs, ∃ kvs, H r = some (.dK kvs)
structure Gone (K : PySem.W.Frag) (H : Hp) (W : Tw) (n k : Nat) (m : Tb) : Prop where
  gs : ∃ L, H W.c = some (.lst L) ∧ L.length = k ∧ ∀ (i : Nat), i < k → ∃ q sv r kvs, L[i]? = some (V.ref q) ∧ H q = some (.tup [.int (i : Int), sv, .ref r]) ∧ IsE K H sv ((st m i).s i) ∧ W.rs[i]? = some r ∧ H r = some (.dK kvs) ∧
    Row K H kvs (fun j => i < j ∧ j < n ∧ 0 < (st m i).t i j) ((st m i).t i)
/-- all but the table's own things are as they were -/
def Fr (W : Tw) (H H' : Hp) : Prop := ∀ x o, H x = some o → x ≠ W.a → x ≠ W.b → x ≠ W.c → x ∉ W.rs → H' x = some o
theorem Fr.rfl' {W : Tw} {H : Hp} : Fr W H H := fun _ _ h _ _ _ _ => h
theorem Fr.trans {W : Tw} {H H1 H2 : Hp} (a : Fr W H H1) (b : Fr W H1 H2) : Fr W H H2 := fun x o h h1 h2 h3 h4 => b x o (a x o h h1 h2 h3 h4) h1 h2 h3 h4
theorem Fr.of {W : Tw} {H H' : Hp} (s : Same H H') : Fr W H H' := fun x o h _ _ _ _ => s x o h
/-- one of its own things changed -/
theorem Fr.own {W : Tw} {H : Hp} {x : Addr} {o : HO} (h : x = W.a ∨ x = W.b ∨ x = W.c ∨ x ∈ W.rs) : Fr W H (upd H x o) := fun y u hy h1 h2 h3 h4 => by
  have hne : y ≠ x := fun e => by
    subst e
    rcases h with h | h | h | h
    · exact h1 h
    · exact h2 h
    · exact h3 h
    · exact h4 h
  rw [upd_ne hne]
  exact hy
section
variable {K : PySem.W.Frag} {H H' : Hp} {W : Tw} {n k k' : Nat} {S S' : Nat → Rat} {D D' : Nat → Nat → Prop} {T T' : Nat → Nat → Rat} {m : Tb}
theorem Tab.up (s : Same H H') (t : Tab K H W n k S D T) : Tab K H' W n k S D T :=
  ⟨s _ _ t.ins, t.ab, t.ac, t.bc, let ⟨L, a, b, c⟩ := t.sl; ⟨L, s _ _ a, b, fun i v h e => (c i v h e).up s⟩, let ⟨L, a, b, c⟩ := t.bs; ⟨L, s _ _ a, b, c⟩, let ⟨L, a⟩ := t.cs; ⟨L, s _ _ a⟩, t.rl, t.rows.up s, fun r h => let ⟨kvs, e⟩ := t.dk r h; ⟨kvs, s _ _ e⟩⟩
theorem Gone.up (s : Same H H') (g : Gone K H W n k m) : Gone K H' W n k m :=
  let ⟨L, a, b, c⟩ := g.gs
  ⟨L, s _ _ a, b, fun i hi => let ⟨q, sv, r, kvs, e1, e2, e3, e4, e5, e6⟩ := c i hi; ⟨q, sv, r, kvs, e1, s _ _ e2, e3.up s, e4, s _ _ e5, e6.keep (Keeps.of s)⟩⟩
/-- something changes that no entry names -/
theorem Gone.frame {x : Addr} {o u : HO} (g : Gone K H W n k m) (hx : H x = some u) (hu : Mutb u = true) (hc : x ≠ W.c) (hr : ∀ (i : Nat) r, i < k → W.rs[i]? = some r → x ≠ r) : Gone K (upd H x o) W n k m := by
  obtain ⟨L, a, b, c⟩ := g.gs
  have kp : Keeps H (upd H x o) := Keeps.upd hx hu
  refine ⟨L, by rw [upd_ne hc.symm]; exact a, b, fun i hi => ?_⟩
  obtain ⟨q, sv, r, kvs, e1, e2, e3, e4, e5, e6⟩ := c i hi
  exact ⟨q, sv, r, kvs, e1, kp _ _ e2 rfl, e3.keep kp, e4, by rw [upd_ne (hr i r hi e4).symm]; exact e5, e6.keep kp⟩
theorem Tab.congr (t : Tab K H W n k S D T) (hk : k ≤ k') (hS : ∀ i, k' ≤ i → i < n → S i = S' i) (hD : ∀ i j, k' ≤ i → i < n → (D i j ↔ D' i j)) (hT : ∀ i j, k' ≤ i → i < n → D i j → T i j = T' i j) : Tab K H W n k' S' D' T' := by
  obtain ⟨L, a, b, c⟩ := t.sl
  obtain ⟨L2, a2, b2, c2⟩ := t.bs
  refine ⟨t.ins, t.ab, t.ac, t.bc, ⟨L, a, b, fun i v h e => ?_⟩, ⟨L2, a2, b2, fun i r h e => c2 i r (by omega) e⟩, t.cs, t.rl, ⟨t.rows.nd, fun i r h e => ?_⟩, t.dk⟩
  · have hi : i < n := by rw [← b]; exact (List.getElem?_eq_some_iff.mp e).1
    rw [← hS i h hi]
    exact c i v (by omega) e
  · have hi : i < n := by rw [← t.rl]; exact (List.getElem?_eq_some_iff.mp e).1
    obtain ⟨kvs, x, y⟩ := t.rows.row i r (by show k ≤ i; have : k' ≤ i := h; omega) e
    exact ⟨kvs, x, y.congr (fun j => hD i j h hi) fun j => hT i j h hi⟩
theorem Tab.slant (t : Tab K H W n k S D T) {i : Nat} (hk : k ≤ i) (hi : i < n) : ∃ L v, H W.a = some (.lst L) ∧ L.length = n ∧ L[i]? = some v ∧ IsE K H v (S i) := by
  obtain ⟨L, a, b, c⟩ := t.sl
  have e := List.getElem?_eq_getElem (l := L) (by rw [b]; exact hi)
  exact ⟨L, _, a, b, e, c i _ hk e⟩
theorem Tab.row (t : Tab K H W n k S D T) {i : Nat} (hk : k ≤ i) (hi : i < n) : ∃ L r kvs, H W.b = some (.lst L) ∧ L.length = n ∧ L[i]? = some (V.ref r) ∧ W.rs[i]? = some r ∧ H r = some (.dK kvs) ∧ Row K H kvs (D i) (T i) := by
  obtain ⟨L, a, b, c⟩ := t.bs
  have e := List.getElem?_eq_getElem (l := W.rs) (by rw [t.rl]; exact hi)
  obtain ⟨kvs, x, y⟩ := t.rows.row i _ hk e
  exact ⟨L, _, kvs, a, b, c i _ hk e, e, x, y⟩
theorem Tab.not_a (t : Tab K H W n k S D T) : W.a ∉ W.rs := fun h => by
  obtain ⟨kvs, e⟩ := t.dk _ h
  obtain ⟨L, a, _⟩ := t.sl
  rw [a] at e
  cases e
theorem Tab.not_b (t : Tab K H W n k S D T) : W.b ∉ W.rs := fun h => by
  obtain ⟨kvs, e⟩ := t.dk _ h
  obtain ⟨L, a, _⟩ := t.bs
  rw [a] at e
  cases e
theorem Tab.not_c (t : Tab K H W n k S D T) : W.c ∉ W.rs := fun h => by
  obtain ⟨kvs, e⟩ := t.dk _ h
  obtain ⟨L, a⟩ := t.cs
  rw [a] at e
  cases e
theorem ne_ins {x y C dx : Addr} {fs : List (Str × V)} {u : HO} (hx : H x = some (.ins C dx fs)) (hy : H y = some u) (hu : Mutb u = true) : x ≠ y := fun e => by
  subst e
  rw [hx] at hy
  cases hy
  cases hu
theorem Tab.setS (t : Tab K H W n k S D T) {L : List V} (hL : H W.a = some (.lst L)) {i : Nat} {v : V} {q : Rat} (hv : IsE K H v q) : Tab K (upd H W.a (.lst (L.set i v))) W n k (fun j => if j = i then q else S j) D T := by
  have kp : Keeps H (upd H W.a (.lst (L.set i v))) := Keeps.upd hL rfl
  obtain ⟨L', a, b, c⟩ := t.sl
  rw [hL] at a
  cases a
  obtain ⟨L2, a2, b2, c2⟩ := t.bs
  obtain ⟨L3, a3⟩ := t.cs
  refine ⟨kp _ _ t.ins rfl, t.ab, t.ac, t.bc, ⟨_, upd_same, by simp [b], fun j x h e => ?_⟩, ⟨L2, by rw [upd_ne t.ab.symm]; exact a2, b2, c2⟩, ⟨L3, by rw [upd_ne t.ac.symm]; exact a3⟩, t.rl, t.rows.frame hL rfl t.not_a, fun r hr => ?_⟩
  · rw [List.getElem?_set] at e
    by_cases hj : i = j
    · subst hj
      rw [if_pos rfl] at e
      by_cases hl : i < L.length
      · rw [if_pos hl] at e
        cases e
        simpa using hv.keep kp
      · rw [if_neg hl] at e
        cases e
    · rw [if_neg hj] at e
      show IsE K _ x (if j = i then q else S j)
      rw [if_neg (fun z => hj z.symm)]
      exact (c j x h e).keep kp
  · obtain ⟨kvs, e⟩ := t.dk r hr
    have hne : r ≠ W.a := fun z => t.not_a (z ▸ hr)
    exact ⟨kvs, by rw [upd_ne hne]; exact e⟩
/-- a row has changed -/
theorem Tab.setR (t : Tab K H W n k S D T) {r : Addr} {kvs kvs' : KVs} (hr : r ∈ W.rs) (hk : H r = some (.dK kvs)) (h : Rows K (upd H r (.dK kvs')) W.rs (fun i => k ≤ i) D' T') : Tab K (upd H r (.dK kvs')) W n k S D' T' := by
  have kp : Keeps H (upd H r (.dK kvs')) := Keeps.upd hk rfl
  obtain ⟨L1, a1, b1, c1⟩ := t.sl
  obtain ⟨L2, a2, b2, c2⟩ := t.bs
  obtain ⟨L3, a3⟩ := t.cs
  have na : W.a ≠ r := fun e => t.not_a (e ▸ hr)
  have nb : W.b ≠ r := fun e => t.not_b (e ▸ hr)
  have nc : W.c ≠ r := fun e => t.not_c (e ▸ hr)
  refine ⟨kp _ _ t.ins rfl, t.ab, t.ac, t.bc, ⟨L1, by rw [upd_ne na]; exact a1, b1, fun i v hi e => (c1 i v hi e).keep kp⟩, ⟨L2, by rw [upd_ne nb]; exact a2, b2, c2⟩, ⟨L3, by rw [upd_ne nc]; exact a3⟩, t.rl, h, fun x hx => ?_⟩
  by_cases e : x = r
  · subst e
    exact ⟨kvs', upd_same⟩
  · obtain ⟨q, z⟩ := t.dk x hx
    exact ⟨q, by rw [upd_ne e]; exact z⟩
/-- the row k is taken out of the list -/
theorem Tab.setB (t : Tab K H W n k S D T) {L : List V} (hL : H W.b = some (.lst L)) {v : V} : Tab K (upd H W.b (.lst (L.set k v))) W n (k + 1) S D T := by
  have kp : Keeps H (upd H W.b (.lst (L.set k v))) := Keeps.upd hL rfl
  obtain ⟨L1, a1, b1, c1⟩ := t.sl
  obtain ⟨L2, a2, b2, c2⟩ := t.bs
  rw [hL] at a2
  cases a2
  obtain ⟨L3, a3⟩ := t.cs
  refine ⟨kp _ _ t.ins rfl, t.ab, t.ac, t.bc, ⟨L1, by rw [upd_ne t.ab]; exact a1, b1, fun i v hi e => (c1 i v (by omega) e).keep kp⟩, ⟨_, upd_same, by simp [b2], fun i r hi e => ?_⟩, ⟨L3, by rw [upd_ne t.bc.symm]; exact a3⟩, t.rl, (t.rows.frame hL rfl t.not_b).congr (fun i (h : k + 1 ≤ i) => (by show k ≤ i; omega)) (fun _ _ _ => Iff.rfl) fun _ _ _ _ => rfl, fun r hr => ?_⟩
  · rw [List.getElem?_set, if_neg (by omega)]
    exact c2 i r (by omega) e
  · obtain ⟨kvs, e⟩ := t.dk r hr
    have hne : r ≠ W.b := fun z => t.not_b (z ▸ hr)
    exact ⟨kvs, by rw [upd_ne hne]; exact e⟩
/-- the list of what is gone has changed -/
theorem Tab.setC (t : Tab K H W n k S D T) {L L' : List V} (hL : H W.c = some (.lst L)) : Tab K (upd H W.c (.lst L')) W n k S D T := by
  have kp : Keeps H (upd H W.c (.lst L')) := Keeps.upd hL rfl
  obtain ⟨L1, a1, b1, c1⟩ := t.sl
  obtain ⟨L2, a2, b2, c2⟩ := t.bs
  refine ⟨kp _ _ t.ins rfl, t.ab, t.ac, t.bc, ⟨L1, by rw [upd_ne t.ac]; exact a1, b1, fun i v hi e => (c1 i v hi e).keep kp⟩, ⟨L2, by rw [upd_ne t.bc]; exact a2, b2, c2⟩, ⟨L', upd_same⟩, t.rl, t.rows.frame hL rfl t.not_c, fun r hr => ?_⟩
  obtain ⟨kvs, e⟩ := t.dk r hr
  have hne : r ≠ W.c := fun z => t.not_c (z ▸ hr)
  exact ⟨kvs, by rw [upd_ne hne]; exact e⟩
end
/-! ### what is struck is good -/
structure Fit (n : Nat) (m : Tb) : Prop where
  n8 : n ≤ 8
  fine : Fine 0 m
  good : Good m
def badAt (n : Nat) (m : Tb) (i : Nat) : Bool := bad i (List.range' (i + 1) (n - (i + 1))) (st m i)
theorem Fit.nn {n : Nat} {m : Tb} {k : Nat} (h : ∀ i, i < k → badAt n m i = false) : ∀ i, i < k → 0 ≤ (st m i).s i := fun i hi => (bad_false (h i hi)).1
theorem sgn_neg (q : Rat) : decide (sgn q < 0) = decide (q < 0) := by
  unfold sgn
  by_cases h : q.num < 0
  · rw [decide_eq_true (num_neg.mp h)]
    have h2 : ¬ 0 < q.num := by omega
    simp [h, h2]
  · rw [decide_eq_false (fun e => h (num_neg.mpr e))]
    by_cases h2 : 0 < q.num <;> simp [h, h2]
theorem sgn_zero (q : Rat) : sgn q = 0 ↔ q = 0 := by
  unfold sgn
  rw [← num_zero]
  simp only [decide_eq_true_eq]
  split <;> split <;> omega
/-! ### promises -/
section
variable (K : PySem.W.Frag)
def sp_Table_init : F3 := fun s a b H Q _ => ∃ (p dx q f : Addr) (vs : List V) (rl : List Addr) (n : Nat) (S : Nat → Rat) (D : Nat → Nat → Prop) (T : Nat → Nat → Rat), s = .ref p ∧ H p = some (.ins (CTb K) dx []) ∧ a = .ref q ∧ H q = some (.lst vs) ∧ vs.length = n ∧ ItE K H vs S ∧
  b = .ref f ∧ H f = some (.lst (rl.map V.ref)) ∧ rl.length = n ∧ n ≤ 8 ∧ Rows K H rl (fun _ => True) D T ∧
  ∀ W H', W.p = p → W.dx = dx → H W.a = none → H W.b = none → H W.c = none → (∀ r ∈ W.rs, H r = none) → (∀ c o, H c = some o → c ≠ p → H' c = some o) → Tab K H' W n 0 S D T → H' W.c = some (.lst []) → Q .non H'
def sp_is_wrong : F2 := fun a b H Q _ => ∃ (W : Tw) (n k : Nat) (m : Tb), a = .ref W.p ∧ b = .int (k : Int) ∧ k < n ∧ Tab K H W n k m.s (Dn k n m.t) m.t ∧ Q (.bl (bad k (List.range' (k + 1) (n - (k + 1))) m)) H
def sp_raise_root : F4 := fun a b c d H Q _ => ∃ (W : Tw) (n k u v : Nat) (S : Nat → Rat) (T : Nat → Nat → Rat) (x : Rat) (ru rv : Addr), a = .ref W.p ∧ b = .int (u : Int) ∧ c = .int (v : Int) ∧ IsE K H d x ∧ Tab K H W n k S (Dn k n T) T ∧ n ≤ 8 ∧ k ≤ u ∧ u < n ∧ k ≤ v ∧ v < n ∧ u ≠ v ∧
  W.rs[u]? = some ru ∧ W.rs[v]? = some rv ∧ 0 < x ∧ 0 ≤ T u v ∧ 0 ≤ T v u ∧ Ok x ∧ Ok (T u v) ∧ Ok (T v u) ∧
  ∀ H', (∀ y o, H y = some o → y ≠ ru → y ≠ rv → H' y = some o) → (∀ kvs, H ru = some (.dK kvs) → ∃ kvs', H' ru = some (.dK kvs')) → Tab K H' W n k S (Dn k n fun i j => T i j + (if (i = u ∧ j = v) ∨ (i = v ∧ j = u) then x else 0)) (fun i j => T i j + (if (i = u ∧ j = v) ∨ (i = v ∧ j = u) then x else 0)) → Q .non H'
def sp_strike : F2 := fun a b H Q _ => ∃ (W : Tw) (n k : Nat) (m : Tb), a = .ref W.p ∧ b = .int (k : Int) ∧ k < n ∧ Fit n m ∧ (∀ i, i ≤ k → badAt n m i = false) ∧ Tab K H W n k (st m k).s (Dn k n (st m k).t) (st m k).t ∧ Gone K H W n k m ∧
  ∀ H', Fr W H H' → Tab K H' W n (k + 1) (st m (k + 1)).s (Dn (k + 1) n (st m (k + 1)).t) (st m (k + 1)).t → Gone K H' W n (k + 1) m → Q .non H'
def Start (H : Hp) (W : Tw) (n : Nat) (m : Tb) : Prop := Tab K H W n 0 m.s (Dn 0 n m.t) m.t ∧ H W.c = some (.lst []) ∧ Fit n m
def natsV (l : List Nat) : List V := l.map fun (i : Nat) => V.int (i : Int)
def sp_strike_all : F2 := fun a b H Q _ => ∃ (W : Tw) (n q : Nat) (m : Tb), a = .ref W.p ∧ b = .ref q ∧ Start K H W n m ∧ H q = some (.lst (natsV (List.range n))) ∧ q ≠ W.a ∧ q ≠ W.b ∧ q ≠ W.c ∧
  ∀ H', Fr W H H' → (run (List.range n) m = true → Tab K H' W n n (st m n).s (Dn n n (st m n).t) (st m n).t → Gone K H' W n n m → (∀ i, i < n → badAt n m i = false) → Q .non H') ∧ (run (List.range n) m = false → ∀ i : Nat, Q (.int (i : Int)) H')
def sp_is_struck : F1 := fun a H Q _ => ∃ (W : Tw) (n : Nat) (m : Tb), a = .ref W.p ∧ Start K H W n m ∧ ∀ H', Fr W H H' → Q (.bl (run (List.range n) m)) H'
def sp_go_back : F3 := fun a b c H Q _ => ∃ (W : Tw) (n : Nat) (m : Tb) (fp : Addr), a = .ref W.p ∧ H W.p = some (.ins (CTb K) W.dx (tF W.a W.b W.c)) ∧ Gone K H W n n m ∧ Fit n m ∧ (∀ i, i < n → badAt n m i = false) ∧ b = .ref fp ∧ H fp = some (.dK []) ∧ fp ∉ W.rs ∧ IsE K H c 1 ∧
  ∀ H' kvs f, (∀ y o, H y = some o → y ≠ fp → H' y = some o) → H' fp = some (.dK kvs) → Row K H' kvs (fun j => j < n) f → Q (.ref fp) H'
end
end R25

set_option Elab.async false
set_option linter.all false
set_option maxRecDepth 100000
set_option maxHeartbeats 4000000
namespace R25
open PySem PySem.Spec PyProof.Rows L2
section
variable {P : Program} {w : World} {K : PySem.W.Frag} {mg : Str → Option Value} {base : Heap}
theorem sc_Table_init : FnScope ["self", "slants", "beside", "row"] ["self", "slants", "beside"] (defScope s_Table_init) := ⟨rfl, rfl, rfl, by decide +kernel, rfl, by decide +kernel, by decide +kernel⟩
theorem ok_Table_init (T : Txt K mg)  : Mkd P w K mg base CX0 1 "Table" ["self", "slants", "beside"] (sp3 (sp_Table_init K)) := by
  obtain ⟨fd, F⟩ := T.f_Table_init
  refine ⟨T.g_Table, T.k_Table, fd, fnok_of F sc_Table_init (fun vs H Q E h => ?_) (fun vs H Q E h => ?_), F.binds (ps := ["self", "slants", "beside"]) fun _ _ _ _ _ _ us hl => ?_⟩
  · obtain ⟨a1, a2, a3, rfl, _⟩ := h
    rfl
  · obtain ⟨a1, a2, a3, rfl, h⟩ := h
    intro cdv A outer s hr
    refine ⟨_, (pss_cons (ps_fld (pv 0) (pe_callTy call_list_of (by rfl) T.b_list (by decide +kernel) (pa_cons (pv 1) pa_nil)) rfl)
      (pss_cons (ps_fld (pv 0) (pe_lc (own := [("row", 3)]) (g := gName 3) rfl sc_Table_init.nd (pi_list (pv 2)) (blkOk_by (N := ["self", "slants", "beside", "row"]) (sc := defScope s_Table_init) (by decide +kernel)) (fun _ _ _ _ _ => (pg_name (i := 3) sc_Table_init.nd rfl (Or.inl rfl))) (fun _ _ _ _ _ => pts_nil) (fun _ _ _ _ _ => (pe_callTy call_dictD (by rfl) T.b_dict (by decide +kernel) (pa_cons (pv 3) pa_nil)))) rfl)
      (pss_one (ps_fld (pv 0) (pe_lst pa_nil) rfl)))), ?_⟩
    obtain ⟨p, dx, q, f, vs, rl, n, S, D, TT, rfl, hp, rfl, hq, hlen, hS, rfl, hf, hrl, n8, hR, k⟩ := h
    refine ⟨_, rfl, _, vs, rfl, .inl (.inl (.inl hq)), fun a fa => ⟨_, rfl, p, CTb K, dx, [], rfl, Same.new fa _ _ hp, T.c_Table, T.n_slants, (by show 0 < 1000; decide), ?_⟩⟩
    have hap : a ≠ p := fun e => by rw [e, hp] at fa; cases fa
    generalize hH2 : upd (upd H a (.lst vs)) p (.ins (CTb K) dx (putF "slants" (.ref a) [])) = H2
    have s2 : ∀ c o, H c = some o → c ≠ p → H2 c = some o := fun c o h hc => by rw [← hH2, upd_ne hc]; exact Same.new fa _ _ h
    have p2 : H2 p = some (.ins (CTb K) dx (putF "slants" (.ref a) [])) := by rw [← hH2]; exact upd_same
    have a2 : H2 a = some (.lst vs) := by rw [← hH2, upd_ne hap]; exact upd_same
    have fr2 : ∀ x, H2 x = none → H x = none := fun x hx => by
      have h1 : x ≠ p := fun e => by rw [e, p2] at hx; cases hx
      cases e : H x with
      | none => rfl
      | some o => rw [s2 x o e h1] at hx; cases hx
    clear hH2
    have hfp : f ≠ p := fun e => by rw [e, hp] at hf; cases hf
    refine ⟨_, rfl, _, rfl, ⟨_, .inl (.inl (s2 _ _ hf hfp))⟩, fun b fb => ?_⟩
    refine lc_list (xs := rl.map V.ref) (fun i H' => ∃ rs : List Addr, rs.length = i ∧ rs.Nodup ∧ (∀ r ∈ rs, H2 r = none) ∧ b ∉ rs ∧ H' b = some (.lst (rs.map V.ref)) ∧ Same H2 H' ∧ ∀ (j : Nat) r r0, rs[j]? = some r → rl[j]? = some r0 → ∃ kvs, H2 r0 = some (.dK kvs) ∧ H' r = some (.dK kvs))
      ⟨[], rfl, List.nodup_nil, (fun r h => by cases h), by simp, upd_same, Same.new fb, fun j r r0 h => by simp at h⟩ (fun i H' _ ⟨_, _, _, _, _, _, s, _⟩ => .inl (.inl (s _ _ (s2 _ _ hf hfp)))) ?_ ?_
    · rintro i x H3 hx ⟨rs, h1, h2, h3, h4, h5, h6, h7⟩
      rw [List.getElem?_map] at hx
      obtain ⟨r0, hr0, rfl⟩ := Option.map_eq_some_iff.mp hx
      obtain ⟨kvs, hk, _⟩ := hR.row i r0 trivial hr0
      have hk2 := s2 _ _ hk (fun e => by rw [e, hp] at hk; cases hk)
      have hi : i < rl.length := (List.getElem?_eq_some_iff.mp hr0).1
      refine ⟨rfl, _, rfl, _, kvs, rfl, .inl (h6 _ _ hk2), fun r fr => ⟨rs.map V.ref, by rw [upd_ne (ne_of_none h5 fr)]; exact h5, by rw [List.length_map, h1]; exact Nat.lt_of_lt_of_le hi (by rw [hrl]; exact Nat.le_trans n8 (by decide)), rs ++ [r], by simp [h1], ?_, ?_, ?_, by rw [upd_same, List.map_append]; rfl, Same.mut (Same.trans h6 (Same.new fr)) fb, ?_⟩⟩
      · rw [List.nodup_append]
        refine ⟨h2, by simp, fun a ha b hb e => ?_⟩
        rw [List.mem_singleton] at hb
        subst hb
        obtain ⟨j, hj, ej⟩ := List.getElem_of_mem ha
        have ej : rs[j]? = some a := by rw [List.getElem?_eq_getElem hj, ej]
        obtain ⟨kv, _, z⟩ := h7 j a rl[j] ej (List.getElem?_eq_getElem (by omega))
        rw [e, fr] at z
        cases z
      · intro r' hr'
        rcases List.mem_append.mp hr' with hm | hm
        · exact h3 r' hm
        · rw [List.mem_singleton] at hm
          rw [hm]
          exact Same.free h6 fr
      · intro hm
        rcases List.mem_append.mp hm with hm | hm
        · exact h4 hm
        · rw [List.mem_singleton] at hm
          rw [← hm, h5] at fr
          cases fr
      · intro j r' r0' e1 e2
        by_cases hj : j < rs.length
        · rw [List.getElem?_append_left hj] at e1
          obtain ⟨kv, z1, z2⟩ := h7 j r' r0' e1 e2
          refine ⟨kv, z1, ?_⟩
          have hb : r' ≠ b := fun e => h4 (e ▸ List.mem_of_getElem? e1)
          rw [upd_ne hb, upd_ne (ne_of_none z2 fr)]
          exact z2
        · have hj2 : j = i := by
            have := (List.getElem?_eq_some_iff.mp e1).1
            simp at this
            omega
          subst hj2
          rw [← h1] at e1
          simp at e1
          subst e1
          rw [hr0] at e2
          cases e2
          have hb : r ≠ b := fun e => by rw [← e, fr] at h5; cases h5
          exact ⟨kvs, hk2, by rw [upd_ne hb]; exact upd_same⟩
    · rintro H3 ⟨rs, h1, h2, h3, h4, h5, h6, h7⟩
      rw [List.length_map] at h1
      refine ⟨_, rfl, p, CTb K, dx, _, rfl, h6 _ _ p2, T.c_Table, T.n_beside, (by show 1 < 1000; decide), ?_⟩
      refine ⟨(by decide), fun c fc => ⟨_, rfl, p, CTb K, dx, putF "beside" (.ref b) (putF "slants" (.ref a) []), rfl, ?_, T.c_Table, T.n_gone, (by show 2 < 1000; decide), ?_⟩⟩
      · rw [upd_ne (fun e => by rw [← e, upd_same] at fc; cases fc)]
        exact upd_same
      · have hcp : c ≠ p := fun e => by rw [e, upd_same] at fc; cases fc
        have hbp : b ≠ p := fun e => by rw [e, p2] at fb; cases fb
        have fc3 : H3 c = none := by rw [upd_ne hcp] at fc; exact fc
        have hca : c ≠ a := fun e => by rw [e, h6 _ _ a2] at fc3; cases fc3
        have hcb : c ≠ b := fun e => by rw [e, h5] at fc3; cases fc3
        have hab : a ≠ b := fun e => by rw [← e, a2] at fb; cases fb
        generalize hH6 : upd (upd (upd H3 p (.ins (CTb K) dx (putF "beside" (.ref b) (putF "slants" (.ref a) [])))) c (.lst [])) p (.ins (CTb K) dx (putF "gone" (.ref c) (putF "beside" (.ref b) (putF "slants" (.ref a) [])))) = H6
        have s6 : ∀ x o, H3 x = some o → x ≠ p → H6 x = some o := fun x o hx hn => by
          rw [← hH6, upd_ne hn, upd_ne (ne_of_none hx fc3), upd_ne hn]
          exact hx
        have sA : ∀ x o, H x = some o → x ≠ p → H6 x = some o := fun x o hx hn => s6 x o (h6 x o (s2 x o hx hn)) hn
        have kpA : ∀ v q, IsE K H v q → IsE K H6 v q := fun v q ⟨y, dy, e, hy⟩ => ⟨y, dy, e, sA _ _ hy (fun z => by
          rw [z, hp] at hy
          injection hy with hy
          injection hy with _ _ hy
          have := congrArg List.length hy
          simp [eF] at this)⟩
        refine k ⟨p, dx, a, b, c, rs⟩ H6 rfl rfl fa (fr2 _ fb) (fr2 _ (Same.free h6 fc3)) (fun r hr => fr2 r (h3 r hr)) sA ?_ ?_
        · refine ⟨by rw [← hH6]; exact upd_same, hab, hca.symm, hcb.symm, ⟨vs, s6 _ _ (h6 _ _ a2) hap, hlen, fun i v _ e => kpA _ _ (hS i v e)⟩, ⟨_, s6 _ _ h5 hbp, by rw [List.length_map, h1, hrl], fun i r _ e => by rw [List.getElem?_map, e]; rfl⟩, ⟨[], by rw [← hH6, upd_ne hcp]; exact upd_same⟩, by rw [h1, hrl], ⟨h2, fun i r _ e => ?_⟩, fun r hr => ?_⟩
          · have hi : i < rl.length := by rw [← h1]; exact (List.getElem?_eq_some_iff.mp e).1
            obtain ⟨kvs, hk, hrow⟩ := hR.row i _ trivial (List.getElem?_eq_getElem hi)
            obtain ⟨kvs', z1, z2⟩ := h7 i r _ e (List.getElem?_eq_getElem hi)
            rw [s2 _ _ hk (fun e => by rw [e, hp] at hk; cases hk)] at z1
            cases z1
            refine ⟨kvs, s6 _ _ z2 (fun e => by rw [e, h6 _ _ p2] at z2; cases z2), hrow.nd, fun j d => ?_, hrow.non⟩
            obtain ⟨v, x1, x2⟩ := hrow.has j d
            exact ⟨v, x1, kpA _ _ x2⟩
          · obtain ⟨i, hi, e⟩ := List.getElem_of_mem hr
            have e : rs[i]? = some r := by rw [List.getElem?_eq_getElem hi, e]
            have hi' : i < rs.length := hi
            obtain ⟨kvs', z1, z2⟩ := h7 i r _ e (List.getElem?_eq_getElem (by omega))
            exact ⟨_, s6 _ _ z2 (fun e => by rw [e, h6 _ _ p2] at z2; cases z2)⟩
        · rw [← hH6, upd_ne hcp]
          exact upd_same
  · obtain ⟨u1, u2, u3, rfl⟩ := three3 hl
    rfl
theorem sc_Table_is_wrong : FnScope ["self", "ware", "sign"] ["self", "ware"] (defScope s_Table_is_wrong) := ⟨rfl, rfl, rfl, by decide +kernel, rfl, by decide +kernel, by decide +kernel⟩
theorem ok_Table_is_wrong (T : Txt K mg) (M_Exact_sign : Mtd P w K mg base CX0 1 "Exact" "sign" ["self"] (sp1 (sp_sign K))) : Mtd P w K mg base CX0 2 "Table" "is_wrong" ["self", "ware"] (sp2 (sp_is_wrong K)) := by
  obtain ⟨fd, F⟩ := T.f_Table_is_wrong
  refine ⟨T.c_Table, T.m_Table_is_wrong, fd, fnok_of F sc_Table_is_wrong (fun vs H Q E h => ?_) (fun vs H Q E h => ?_), F.binds (ps := ["self", "ware"]) fun _ _ _ _ _ _ us hl => ?_⟩
  · obtain ⟨a1, a2, rfl, _⟩ := h
    rfl
  · obtain ⟨a1, a2, rfl, h⟩ := h
    intro cdv A outer s hr
    refine ⟨_, (pss_cons (ps_set (i := 2) sc_Table_is_wrong.nd rfl (Or.inl rfl) (pe_methD0 M_Exact_sign hr (pe_ix ix_list (pe_fld (pv 0) rfl) (pv 1) (fun _ _ => rfl))))
      (pss_one (ps_ret (pe_or (pe_cmpR op_lt (pv 2) pe_int (nomark _)) (pe_one (pe_and (pe_cmpR op_eq (pv 2) pe_int (nomark _)) (pe_one (pe_cmpR op_gt (pe_callB call_lenD (by rfl) T.b_len (by decide +kernel) (pa_cons (pe_ix ix_list (pe_fld (pv 0) rfl) (pv 1) (fun _ _ => rfl)) pa_nil)) pe_int (nomark _))))))))), ?_⟩
    obtain ⟨W, n, k, m, rfl, rfl, hk, t, q⟩ := h
    obtain ⟨L, v, hL, hLn, hLe, pe, de, rfl, hpe⟩ := t.slant (Nat.le_refl _) hk
    obtain ⟨L2, r, kvs, hb, hbn, hbe, hr', hkv, row⟩ := t.row (Nat.le_refl _) hk
    refine ⟨_, rfl, _, _, _, _, _, rfl, t.ins, T.c_Table, T.n_slants, (tF_slants _ _ _), _, rfl, _, _, _, _, rfl, rfl, .inl (.inl hL), (atI_nat hLe), _, _, _, rfl, hpe, eF_no _ (sne (by decide +kernel)) (sne (by decide +kernel)), _, rfl, m.s k, ⟨_, _, rfl, hpe⟩, _, rfl, _, _, rfl, rfl, _, rfl, ite2 (fun hc => ?_) (fun hc => ?_)⟩
    · rw [sgn_neg] at hc
      have e : bad k (List.range' (k + 1) (n - (k + 1))) m = true := by unfold bad; rw [hc]; rfl
      rw [e] at q
      exact q
    · have hc := Bool.eq_false_iff.mpr hc
      rw [sgn_neg] at hc
      refine ⟨_, rfl, rfl, _, rfl, ite2 (fun hd => ?_) (fun hd => ?_)⟩
      · have hz : m.s k = 0 := (sgn_zero _).mp (by have := of_decide_eq_true hd; injection this)
        refine ⟨_, rfl, _, _, _, _, _, rfl, t.ins, T.c_Table, T.n_beside, (tF_beside _ _ _), _, rfl, _, _, _, _, rfl, rfl, .inl (.inl hb), (atI_nat hbe), _, _, rfl, hkv, _, _, rfl, rfl, ?_⟩
        have e : bad k (List.range' (k + 1) (n - (k + 1))) m = decide ((0 : Int) < kvs.length) := by
          unfold bad
          rw [hc, decide_eq_true hz, Bool.false_or, Bool.true_and]
          have hl : (0 : Int) < kvs.length ↔ 0 < kvs.length := by omega
          rw [decide_eq_decide.mpr hl]
          by_cases h : 0 < kvs.length
          · obtain ⟨j, h1, h2, h3, h4⟩ := row.pos.mp h
            rw [decide_eq_true h]
            exact List.any_eq_true.mpr ⟨j, by rw [List.mem_range'_1]; omega, decide_eq_true h4⟩
          · rw [decide_eq_false h]
            refine Bool.eq_false_iff.mpr fun ha => h (row.pos.mpr ?_)
            obtain ⟨j, hj, hp⟩ := List.any_eq_true.mp ha
            rw [List.mem_range'_1] at hj
            exact ⟨j, by omega, by omega, by omega, of_decide_eq_true hp⟩
        rw [e] at q
        exact q
      · have hz : ¬ m.s k = 0 := fun e => hd (decide_eq_true (by rw [(sgn_zero _).mpr e]))
        have e : bad k (List.range' (k + 1) (n - (k + 1))) m = false := by unfold bad; rw [hc, decide_eq_false hz]; rfl
        rw [e] at q
        exact q
  · obtain ⟨u1, u2, rfl⟩ := two2 hl
    rfl
theorem sc_Table_raise_root : FnScope ["self", "one", "other", "amount"] ["self", "one", "other", "amount"] (defScope s_Table_raise_root) := ⟨rfl, rfl, rfl, by decide +kernel, rfl, by decide +kernel, by decide +kernel⟩
theorem ok_Table_raise_root (T : Txt K mg) (K_Exact : Mkd P w K mg base CX0 2 "Exact" ["self", "top", "bottom"] (sp3 (sp_Exact_init K))) (M_Exact_add : Mtd P w K mg base CX0 4 "Exact" "__add__" ["self", "other"] (sp2 (sp_add K))) : Mtd P w K mg base CX0 5 "Table" "raise_root" ["self", "one", "other", "amount"] (sp4 (sp_raise_root K)) := by
  obtain ⟨fd, F⟩ := T.f_Table_raise_root
  refine ⟨T.c_Table, T.m_Table_raise_root, fd, fnok_of F sc_Table_raise_root (fun vs H Q E h => ?_) (fun vs H Q E h => ?_), F.binds (ps := ["self", "one", "other", "amount"]) fun _ _ _ _ _ _ us hl => ?_⟩
  · obtain ⟨a1, a2, a3, a4, rfl, _⟩ := h
    rfl
  · obtain ⟨a1, a2, a3, a4, rfl, h⟩ := h
    intro cdv A outer s hr
    refine ⟨_, (pss_cons (ps_dput (hu_of hr) (pe_ix ix_list (pe_fld (pv 0) rfl) (pv 1) (fun _ _ => rfl)) (pv 2) (pe_op (op_ownD T.sf M_Exact_add hr) (pe_dget2 (hu_of hr) (pe_ix ix_list (pe_fld (pv 0) rfl) (pv 1) (fun _ _ => rfl)) (pv 2) (pe_makeD K_Exact hr (pa_cons pe_int (pa_cons pe_int pa_nil))) ⟨rfl, rfl, rfl, rfl⟩) (pv 3)) rfl)
      (pss_one (ps_dput (hu_of hr) (pe_ix ix_list (pe_fld (pv 0) rfl) (pv 2) (fun _ _ => rfl)) (pv 1) (pe_op (op_ownD T.sf M_Exact_add hr) (pe_dget2 (hu_of hr) (pe_ix ix_list (pe_fld (pv 0) rfl) (pv 2) (fun _ _ => rfl)) (pv 1) (pe_makeD K_Exact hr (pa_cons pe_int (pa_cons pe_int pa_nil))) ⟨rfl, rfl, rfl, rfl⟩) (pv 3)) rfl))), ?_⟩
    obtain ⟨W, n, k, u, v, S, TT, amt, ru, rv, rfl, rfl, rfl, hx, t, n8, ku, un, kv, vn, huv, hru, hrv, x0, nnu, nnv, okx, oku, okv, q⟩ := h
    obtain ⟨pa0, da0, rfl, hpa0⟩ := hx
    have hx0 : IsE K H (.ref pa0) amt := ⟨_, _, rfl, hpa0⟩
    have nuv : ru ≠ rv := fun e => huv (nodup_at t.rows.nd hru (e ▸ hrv))
    obtain ⟨L, r, kvs, hb, hbn, hbe, hr, hk, row⟩ := t.row (i := u) ku un
    rw [hru] at hr
    cases hr
    refine ⟨_, rfl, _, _, _, _, _, rfl, t.ins, T.c_Table, T.n_beside, (tF_beside _ _ _), _, rfl, _, _, _, _, rfl, rfl, .inl (.inl hb), (atI_nat hbe), _, rfl, t.rows.isD ku hru, _, rfl, fun x dx nx ndx hne => ⟨_, _, _, rfl, x, dx, 0, 1, rfl, upd_same, rfl, rfl, by decide, big0, big1, fun H5 em kk => ⟨rfl, ?_⟩⟩⟩
    obtain ⟨s5, hz⟩ := made_E (q' := 0) nx ndx em rfl kk
    clear em kk nx ndx hne
    obtain ⟨o, ho, hoe⟩ := (t.rows.up s5).getD (u := u) (w := v) ku hru (fun hd => Dn.zero hd kv vn huv.symm nnu) hz
    obtain ⟨po, dox, eo, hpo⟩ := hoe
    obtain ⟨pa, da, ea, hpa⟩ := IsE.up s5 hx0
    cases ea
    refine ⟨o, ho, _, rfl, _, _, _, _, _, _, eo, rfl, hpo, hpa, _, _, rfl, _, _, ⟨_, _, rfl, hpo⟩, ⟨_, _, rfl, hpa⟩, oku, okx, fun v7 H7 s7 hv7 => ?_⟩
    have s57 := Same.trans s5 s7
    have t7 := t.up s57
    have hk7 := s57 _ _ hk
    have hln : kvs.length ≤ n := row.len fun j hj => hj.2.1
    refine ⟨_, rfl, _, _, _, _, _, rfl, t7.ins, T.c_Table, T.n_beside, (tF_beside _ _ _), _, rfl, _, _, _, _, rfl, rfl, .inl (.inl (s57 _ _ hb)), (atI_nat hbe), _, rfl, _, _, rfl, DPut.k (k := .inl (v : Int)) hk7 (Nat.lt_of_le_of_lt (Nat.le_trans hln n8) (by decide)), ?_⟩
    have t8 := t7.setR (List.mem_of_getElem? hru) hk7 (t7.rows.raise (u := u) (v := v) ku hru hk7 hv7 nnu x0 kv vn huv.symm)
    have t9 := t8.congr (Nat.le_refl _) (fun _ _ _ => rfl) (fun _ _ _ _ => Iff.rfl) (fun _ _ _ _ _ => rfl)
    have hpa8 : IsE K (upd H7 ru (.dK (putK kvs (.inl (v : Int)) v7))) (.ref pa0) amt := (hx0.up s57).keep (Keeps.upd hk7 rfl)
    have e1 : (TT v u + if v = u ∧ u = v then amt else 0) = TT v u := by rw [if_neg (fun e => huv e.2), Rat.add_zero]
    have nn1 : 0 ≤ TT v u + if v = u ∧ u = v then amt else 0 := by rw [e1]; exact nnv
    have ok1 : Ok (TT v u + if v = u ∧ u = v then amt else 0) := by rw [e1]; exact okv
    generalize hH8 : upd H7 ru (.dK (putK kvs (.inl (v : Int)) v7)) = H8
    rw [hH8] at t8 t9 hpa8
    obtain ⟨Lb, rb, kvsb, hbb, hbnb, hbeb, hrb, hkb, rowb⟩ := t8.row (i := v) kv vn
    rw [hrv] at hrb
    cases hrb
    refine ⟨_, rfl, _, _, _, _, _, rfl, t8.ins, T.c_Table, T.n_beside, (tF_beside _ _ _), _, rfl, _, _, _, _, rfl, rfl, .inl (.inl hbb), (atI_nat hbeb), _, rfl, t8.rows.isD kv hrv, _, rfl, fun x dx nx ndx hne => ⟨_, _, _, rfl, x, dx, 0, 1, rfl, upd_same, rfl, rfl, by decide, big0, big1, fun H9 em kk => ⟨rfl, ?_⟩⟩⟩
    obtain ⟨s5b, hzb⟩ := made_E (q' := 0) nx ndx em rfl kk
    clear em kk nx ndx hne
    obtain ⟨ob, hob, hoeb⟩ := (t8.rows.up s5b).getD (u := v) (w := u) kv hrv (fun hd => Dn.zero hd ku un huv nn1) hzb
    obtain ⟨pob, doxb, eob, hpob⟩ := hoeb
    obtain ⟨pab, dab, eab, hpab⟩ := (hpa8).up s5b
    cases eab
    refine ⟨ob, hob, _, rfl, _, _, _, _, _, _, eob, rfl, hpob, hpab, _, _, rfl, _, _, ⟨_, _, rfl, hpob⟩, ⟨_, _, rfl, hpab⟩, ok1, okx, fun v7b H7b s7b hv7b => ?_⟩
    have s57b := Same.trans s5b s7b
    have t7b := t8.up s57b
    have hk7b := s57b _ _ hkb
    have hlnb : kvsb.length ≤ n := rowb.len fun j hj => hj.2.1
    refine ⟨_, rfl, _, _, _, _, _, rfl, t7b.ins, T.c_Table, T.n_beside, (tF_beside _ _ _), _, rfl, _, _, _, _, rfl, rfl, .inl (.inl (s57b _ _ hbb)), (atI_nat hbeb), _, rfl, _, _, rfl, DPut.k (k := .inl (u : Int)) hk7b (Nat.lt_of_le_of_lt (Nat.le_trans hlnb n8) (by decide)), ?_⟩
    have t8b := t7b.setR (List.mem_of_getElem? hrv) hk7b (t7b.rows.raise (u := v) (v := u) kv hrv hk7b hv7b nn1 x0 ku un huv)
    refine q _ (fun y o hy h1 h2 => ?_) (fun kv0 hkv0 => ?_) ?_
    · rw [upd_ne h2]
      refine s57b _ _ ?_
      rw [← hH8, upd_ne h1]
      exact s57 _ _ hy
    · refine ⟨putK kvs (.inl (v : Int)) v7, ?_⟩
      rw [upd_ne nuv]
      refine s57b _ _ ?_
      rw [← hH8]
      exact upd_same
    · rw [← raise_eq TT amt huv]
      exact t8b
  · obtain ⟨u1, u2, u3, u4, rfl⟩ := four4 hl
    rfl
theorem sc_Table_strike_all : FnScope ["self", "wares", "ware"] ["self", "wares"] (defScope s_Table_strike_all) := ⟨rfl, rfl, rfl, by decide +kernel, rfl, by decide +kernel, by decide +kernel⟩
theorem ok_Table_strike_all (T : Txt K mg) (M_Table_is_wrong : Mtd P w K mg base CX0 2 "Table" "is_wrong" ["self", "ware"] (sp2 (sp_is_wrong K))) (M_Table_strike : Mtd P w K mg base CX0 6 "Table" "strike" ["self", "ware"] (sp2 (sp_strike K))) : Mtd P w K mg base CX0 7 "Table" "strike_all" ["self", "wares"] (sp2 (sp_strike_all K)) := by
  obtain ⟨fd, F⟩ := T.f_Table_strike_all
  refine ⟨T.c_Table, T.m_Table_strike_all, fd, fnok_of F sc_Table_strike_all (fun vs H Q E h => ?_) (fun vs H Q E h => ?_), F.binds (ps := ["self", "wares"]) fun _ _ _ _ _ _ us hl => ?_⟩
  · obtain ⟨a1, a2, rfl, _⟩ := h
    rfl
  · obtain ⟨a1, a2, rfl, h⟩ := h
    intro cdv A outer s hr
    refine ⟨_, (pss_cons (ps_for PassesOwn.never rfl (pi_list (pv 1)) (pg_name (i := 2) sc_Table_strike_all.nd rfl (Or.inl rfl)) (pss_cons (ps_if (pt_val (pe_methD M_Table_is_wrong hr (pv 0) (pa_cons (pv 2) pa_nil))) (pss_one (ps_ret (pv 2))) pss_nil)
      (pss_one (ps_expr (pe_methD M_Table_strike hr (pv 0) (pa_cons (pv 2) pa_nil))))))
      (pss_one (ps_ret pe_non))), ?_⟩
    obtain ⟨W, n, q, m, rfl, rfl, ⟨t, hc, fit⟩, hq, qa, qb, qc, k⟩ := h
    have qr : q ∉ W.rs := fun h => by
      obtain ⟨kvs, e⟩ := t.dk _ h
      rw [hq] at e
      cases e
    have hln : (natsV (List.range n)).length = n := by unfold natsV; rw [List.length_map, List.length_range]
    have hit : ∀ (i : Nat) (x : V), (natsV (List.range n))[i]? = some x → x = .int (i : Int) ∧ i < n := fun i x h => by
      unfold natsV at h
      rw [List.getElem?_map] at h
      obtain ⟨y, hy, rfl⟩ := Option.map_eq_some_iff.mp h
      obtain ⟨h1, h2⟩ := List.getElem?_eq_some_iff.mp hy
      rw [List.length_range] at h1
      rw [List.getElem_range] at h2
      subst h2
      exact ⟨rfl, h1⟩
    refine ⟨_, rfl, _, rfl, ⟨_, .inl (.inl hq)⟩, ?_⟩
    refine for_list (xs := natsV (List.range n)) (fun i σ H' => ∃ u2, σ = [some (.ref W.p), some (.ref q), u2] ∧ Fr W H H' ∧ Tab K H' W n i (st m i).s (Dn i n (st m i).t) (st m i).t ∧ Gone K H' W n i m ∧ ∀ j, j < i → badAt n m j = false) ⟨_, rfl, Fr.rfl', t, ⟨[], hc, rfl, fun i hi => absurd hi (by omega)⟩, fun j hj => absurd hj (by omega)⟩ (fun i σ H' _ ⟨_, _, fr, _⟩ => .inl (.inl (fr _ _ hq qa qb qc qr))) ?_ ?_
    · rintro i x σ H2 hx ⟨u2, rfl, fr, t2, g2, hb⟩
      obtain ⟨rfl, hi⟩ := hit i x hx
      refine ⟨_, rfl, _, _, _, rfl, t2.ins, tF_no _ _ _ (sne (by decide +kernel)) (sne (by decide +kernel)) (sne (by decide +kernel)), _, rfl, _, _, rfl, W, n, i, st m i, rfl, rfl, hi, t2, _, rfl, ite2 (fun hc => ?_) (fun hc => ?_)⟩
      · refine ⟨_, rfl, ((k H2 fr).2 ?_ i)⟩
        rw [List.range_eq_range']
        exact run_stop hi hb hc
      · refine ⟨_, rfl, _, _, _, rfl, t2.ins, tF_no _ _ _ (sne (by decide +kernel)) (sne (by decide +kernel)) (sne (by decide +kernel)), _, rfl, _, _, rfl, W, n, i, m, rfl, rfl, hi, fit, fun j hj => ?_, t2, g2, fun H3 fr3 t3 g3 => ⟨_, rfl, Fr.trans fr fr3, t3, g3, fun j hj => ?_⟩⟩
        · by_cases e : j = i
          · rw [e]
            exact Bool.eq_false_iff.mpr hc
          · exact hb j (by omega)
        · by_cases e : j = i
          · rw [e]
            exact Bool.eq_false_iff.mpr hc
          · exact hb j (by omega)
    · rintro σ H2 ⟨u2, rfl, fr, t2, g2, hb⟩
      rw [hln] at t2 g2 hb
      refine (k H2 fr).1 ?_ t2 g2 hb
      rw [List.range_eq_range']
      exact run_end hb
  · obtain ⟨u1, u2, rfl⟩ := two2 hl
    rfl
theorem sc_is_struck : FnScope ["table"] ["table"] (defScope s_is_struck) := ⟨rfl, rfl, rfl, by decide +kernel, rfl, by decide +kernel, by decide +kernel⟩
theorem ok_is_struck (T : Txt K mg) (M_Table_strike_all : Mtd P w K mg base CX0 7 "Table" "strike_all" ["self", "wares"] (sp2 (sp_strike_all K))) : Dfn P w K mg base CX0 8 "is_struck" ["table"] (sp1 (sp_is_struck K)) := by
  obtain ⟨fd, F⟩ := T.f_is_struck
  refine ⟨T.g_is_struck, F.kp, fd, fnok_of F sc_is_struck (fun vs H Q E h => ?_) (fun vs H Q E h => ?_), F.binds (ps := ["table"]) fun _ _ _ _ _ _ us hl => ?_⟩
  · obtain ⟨a1, rfl, _⟩ := h
    rfl
  · obtain ⟨a1, rfl, h⟩ := h
    intro cdv A outer s hr
    refine ⟨_, (pss_one (ps_ret (pe_cmpR op_isN (pe_methD M_Table_strike_all hr (pv 0) (pa_cons (pe_listRg rfl rfl T.b_list (prg_1 rfl T.b_range (pe_callB call_len_seq (by rfl) T.b_len (by decide +kernel) (pa_cons (pe_fld (pv 0) rfl) pa_nil)))) pa_nil)) pe_non (nomark _)))), ?_⟩
    obtain ⟨W, n, m, rfl, ⟨t, hc, fit⟩, k⟩ := h
    obtain ⟨L, hL, hLn, _⟩ := t.sl
    have n8 := fit.n8
    refine ⟨_, rfl, _, _, _, rfl, t.ins, tF_no _ _ _ (sne (by decide +kernel)) (sne (by decide +kernel)) (sne (by decide +kernel)), _, rfl, _, _, _, _, _, rfl, t.ins, T.c_Table, T.n_slants, (tF_slants _ _ _), _, _, rfl, .inl (.inl (.inl hL)), _, rfl, RgOk.of_le (by omega) (by omega) (by omega) (by omega), fun q fq => ?_⟩
    have e : rgV 0 (L.length : Int) = natsV (List.range n) := by
      unfold rgV natsV
      rw [hLn]
      refine List.map_congr_left fun i _ => ?_
      simp
    rw [e]
    have s := Same.new (o := .lst (natsV (List.range n))) fq
    refine ⟨_, _, rfl, W, n, q, m, rfl, rfl, ⟨t.up s, s _ _ hc, fit⟩, upd_same, ?_, ?_, ?_, fun H' fr => ⟨fun hr t2 g2 hb => ⟨rfl, ?_⟩, fun hr i => ⟨rfl, ?_⟩⟩⟩
    · rintro rfl
      rw [hL] at fq
      cases fq
    · rintro rfl
      obtain ⟨L2, h2, _⟩ := t.bs
      rw [h2] at fq
      cases fq
    · rintro rfl
      rw [hc] at fq
      cases fq
    · have := k H' (Fr.trans (Fr.of s) fr)
      rw [hr] at this
      exact this
    · have := k H' (Fr.trans (Fr.of s) fr)
      rw [hr] at this
      exact this
  · obtain ⟨u1, rfl⟩ := one1 hl
    rfl
end
end R25

set_option Elab.async false
set_option linter.all false
set_option maxRecDepth 100000
set_option maxHeartbeats 4000000
namespace R25
open PySem PySem.Spec PyProof.Rows L2
/-! ### striking: the steps' words -/
theorem natsV_len (l : List Nat) : (natsV l).length = l.length := by unfold natsV; rw [List.length_map]
theorem natsV_at {l : List Nat} {i : Nat} {x : V} (h : (natsV l)[i]? = some x) : ∃ u, l[i]? = some u ∧ x = .int (u : Int) := by
  unfold natsV at h
  rw [List.getElem?_map] at h
  obtain ⟨y, hy, rfl⟩ := Option.map_eq_some_iff.mp h
  exact ⟨y, hy, rfl⟩
theorem perm_nat {ys : List Int} {js : List Nat} (h : ys.Perm (js.map fun (j : Nat) => (j : Int))) : ∃ yn : List Nat, ys.map V.int = natsV yn ∧ yn.Perm js := by
  have h1 : (ys.map Int.toNat).Perm js := by
    have := h.map Int.toNat
    rw [List.map_map] at this
    have e : js.map (Int.toNat ∘ fun (j : Nat) => (j : Int)) = js := by
      rw [List.map_congr_left (g := id) (fun j _ => by simp), List.map_id]
    rwa [e] at this
  refine ⟨ys.map Int.toNat, ?_, h1⟩
  unfold natsV
  rw [List.map_map]
  refine List.map_congr_left fun y hy => ?_
  obtain ⟨j, _, rfl⟩ := List.mem_map.mp (h.mem_iff.mp hy)
  simp
theorem cutV_drop (xs : List V) (j : Nat) : cutV xs (some (j : Int)) none = xs.drop j := by
  unfold cutV
  rw [HT.sIx_none, HT.sIx_nat]
  by_cases h : j ≤ xs.length
  · rw [Nat.min_eq_left h]
    exact List.take_of_length_le (by simp)
  · rw [Nat.min_eq_right (by omega), List.drop_of_length_le (Nat.le_refl _), List.drop_of_length_le (by omega)]
    simp
theorem natsV_drop (l : List Nat) (j : Nat) : (natsV l).drop j = natsV (l.drop j) := by unfold natsV; rw [List.map_drop]
section
variable {K : PySem.W.Frag} {H H' : Hp} {W : Tw} {n k : Nat} {m : Tb}
/-- two rows have changed that no entry names -/
theorem Gone.fr2 {r1 r2 : Addr} {k1 k2 : KVs} (g : Gone K H W n k m) (h1 : H r1 = some (.dK k1)) (h2 : H r2 = some (.dK k2)) (h : ∀ y o, H y = some o → y ≠ r1 → y ≠ r2 → H' y = some o)
    (hr : ∀ (i : Nat) r, i < k → W.rs[i]? = some r → r ≠ r1 ∧ r ≠ r2) : Gone K H' W n k m := by
  obtain ⟨L, a, b, c⟩ := g.gs
  have kp : Keeps H H' := fun y o hy hm => h y o hy (fun e => by subst e; rw [h1] at hy; cases hy; cases hm) (fun e => by subst e; rw [h2] at hy; cases hy; cases hm)
  have hc1 : W.c ≠ r1 := fun e => by rw [e, h1] at a; cases a
  have hc2 : W.c ≠ r2 := fun e => by rw [e, h2] at a; cases a
  refine ⟨L, h _ _ a hc1 hc2, b, fun i hi => ?_⟩
  obtain ⟨q, sv, r, kvs, e1, e2, e3, e4, e5, e6⟩ := c i hi
  exact ⟨q, sv, r, kvs, e1, kp _ _ e2 rfl, e3.keep kp, e4, h _ _ e5 (hr i r hi e4).1 (hr i r hi e4).2, e6.keep kp⟩
theorem Gone.snoc {L : List V} {q pe r0 : Addr} {kvs : KVs} (g : Gone K H W n k m) (hc : H W.c = some (.lst L)) (hq : H q = some (.tup [.int (k : Int), .ref pe, .ref r0])) (hs : IsE K H (.ref pe) ((st m k).s k)) (hr : W.rs[k]? = some r0) (nc : W.c ∉ W.rs)
    (hk : H r0 = some (.dK kvs)) (row : Row K H kvs (Dn k n (st m k).t k) ((st m k).t k)) : Gone K (upd H W.c (.lst (L ++ [V.ref q]))) W n (k + 1) m := by
  obtain ⟨L', a, b, c⟩ := g.gs
  rw [hc] at a
  cases a
  have kp : Keeps H (upd H W.c (.lst (L ++ [V.ref q]))) := Keeps.upd hc rfl
  have nr : ∀ (i : Nat) (r : Addr), W.rs[i]? = some r → r ≠ W.c := fun i r e z => nc (z ▸ List.mem_of_getElem? e)
  refine ⟨_, upd_same, by simp [b], fun i hi => ?_⟩
  by_cases e : i < k
  · obtain ⟨q', sv, r, kvs, e1, e2, e3, e4, e5, e6⟩ := c i e
    exact ⟨q', sv, r, kvs, by rw [List.getElem?_append_left (by omega)]; exact e1, kp _ _ e2 rfl, e3.keep kp, e4, by rw [upd_ne (nr i r e4)]; exact e5, e6.keep kp⟩
  · have e : i = k := by omega
    subst e
    refine ⟨q, .ref pe, r0, kvs, by rw [← b]; simp, kp _ _ hq rfl, hs.keep kp, hr, by rw [upd_ne (nr i r0 hr)]; exact hk, (row.keep kp).congr (fun j => ⟨fun h => ⟨?_, h.2.1, h.2.2.2⟩, fun h => ⟨by omega, h.2.1, by omega, h.2.2⟩⟩) fun _ _ => rfl⟩
    have := h.1
    have := h.2.2.1
    omega
end
/-- pairs of near wares that are done: all with one of the first q -/
def gq (yn : List Nat) (q : Nat) (i j : Nat) : Bool := decide (i ≠ j ∧ i ∈ yn ∧ j ∈ yn ∧ (i ∈ yn.take q ∨ j ∈ yn.take q))
def gqr (yn : List Nat) (q r u : Nat) (i j : Nat) : Bool := gq yn q i j || decide ((i = u ∧ j ∈ (yn.drop (q + 1)).take r) ∨ (j = u ∧ i ∈ (yn.drop (q + 1)).take r))
def TG (M : Tb) (k : Nat) (G : Nat → Nat → Bool) : Nat → Nat → Rat := fun i j => M.t i j + if G i j = true then M.t k i * M.t k j / M.s k else 0
theorem gq_zero (yn : List Nat) : gq yn 0 = fun _ _ => false := by
  funext i j
  unfold gq
  simp
theorem gqr_zero (yn : List Nat) (q u : Nat) : gqr yn q 0 u = gq yn q := by
  funext i j
  unfold gqr
  simp
theorem gqr_end {yn : List Nat} {q u : Nat} (nd : yn.Nodup) (hu : yn[q]? = some u) : gqr yn q (yn.drop (q + 1)).length u = gq yn (q + 1) := by
  funext i j
  unfold gqr gq
  rw [List.take_length, take_snoc hu, Bool.eq_iff_iff]
  simp only [Bool.or_eq_true, decide_eq_true_eq, List.mem_append, List.mem_singleton]
  have hm : ∀ x, x ∈ yn ↔ x ∈ yn.take q ∨ x = u ∨ x ∈ yn.drop (q + 1) := fun x => by
    conv => lhs; rw [take_drop_at hu]
    simp
  have nd2 := nd
  rw [take_drop_at hu, List.nodup_append] at nd2
  obtain ⟨_, n2, _⟩ := nd2
  rw [List.nodup_cons] at n2
  have hne : ∀ x, x ∈ yn.drop (q + 1) → x ≠ u := fun x hx e => n2.1 (e ▸ hx)
  constructor
  · rintro (⟨h1, h2, h3, h4⟩ | ⟨rfl, h⟩ | ⟨rfl, h⟩)
    · exact ⟨h1, h2, h3, h4.elim (fun h => .inl (.inl h)) fun h => .inr (.inl h)⟩
    · exact ⟨fun e => hne j h e.symm, (hm i).mpr (.inr (.inl rfl)), (hm j).mpr (.inr (.inr h)), .inl (.inr rfl)⟩
    · exact ⟨fun e => hne i h e, (hm i).mpr (.inr (.inr h)), (hm j).mpr (.inr (.inl rfl)), .inr (.inr rfl)⟩
  · rintro ⟨h1, h2, h3, (h | h) | (h | h)⟩
    · exact .inl ⟨h1, h2, h3, .inl h⟩
    · subst h
      rcases (hm j).mp h3 with h | h | h
      · exact .inl ⟨h1, h2, h3, .inr h⟩
      · exact absurd h.symm h1
      · exact .inr (.inl ⟨rfl, h⟩)
    · exact .inl ⟨h1, h2, h3, .inr h⟩
    · subst h
      rcases (hm i).mp h2 with h | h | h
      · exact .inl ⟨h1, h2, h3, .inl h⟩
      · exact absurd h h1
      · exact .inr (.inr ⟨rfl, h⟩)
theorem gqr_not {yn : List Nat} {q r u v : Nat} (nd : yn.Nodup) (hu : yn[q]? = some u) (hv : (yn.drop (q + 1))[r]? = some v) : u ≠ v ∧ gqr yn q r u u v = false ∧ gqr yn q r u v u = false := by
  have nd2 := nd
  rw [take_drop_at hu, List.nodup_append] at nd2
  obtain ⟨_, n2, n3⟩ := nd2
  rw [List.nodup_cons] at n2
  have hvm := List.mem_of_getElem? hv
  have huv : u ≠ v := fun e => n2.1 (e ▸ hvm)
  have hut : u ∉ yn.take q := fun h => n3 u h u (List.mem_cons_self) rfl
  have hvt : v ∉ yn.take q := fun h => n3 v h v (List.mem_cons_of_mem _ hvm) rfl
  have hvr : v ∉ (yn.drop (q + 1)).take r := fun h => by
    have n4 := n2.2
    rw [take_drop_at hv, List.nodup_append] at n4
    exact n4.2.2 v h v (List.mem_cons_self) rfl
  have hur : u ∉ (yn.drop (q + 1)).take r := fun h => n2.1 (List.mem_of_mem_take h)
  refine ⟨huv, ?_, ?_⟩
  · unfold gqr gq
    simp [hut, hvt, hvr, hur]
  · unfold gqr gq
    simp [hut, hvt, hvr, hur]
theorem TG_step {M : Tb} {k : Nat} {yn : List Nat} {q r u v : Nat} (nd : yn.Nodup) (hu : yn[q]? = some u) (hv : (yn.drop (q + 1))[r]? = some v) :
    (fun i j => TG M k (gqr yn q r u) i j + if (i = u ∧ j = v) ∨ (i = v ∧ j = u) then M.t k u * M.t k v / M.s k else 0) = TG M k (gqr yn q (r + 1) u) := by
  obtain ⟨huv, n1, n2⟩ := gqr_not nd hu hv
  have step : ∀ i j, gqr yn q (r + 1) u i j = (gqr yn q r u i j || decide ((i = u ∧ j = v) ∨ (i = v ∧ j = u))) := fun i j => by
    unfold gqr
    rw [take_snoc hv, Bool.eq_iff_iff]
    simp only [Bool.or_eq_true, decide_eq_true_eq, List.mem_append, List.mem_singleton]
    constructor
    · rintro (h | ⟨rfl, h | h⟩ | ⟨rfl, h | h⟩)
      · exact .inl (.inl h)
      · exact .inl (.inr (.inl ⟨rfl, h⟩))
      · exact .inr (.inl ⟨rfl, h⟩)
      · exact .inl (.inr (.inr ⟨rfl, h⟩))
      · exact .inr (.inr ⟨h, rfl⟩)
    · rintro ((h | ⟨rfl, h⟩ | ⟨rfl, h⟩) | ⟨rfl, rfl⟩ | ⟨rfl, rfl⟩)
      · exact .inl h
      · exact .inr (.inl ⟨rfl, .inl h⟩)
      · exact .inr (.inr ⟨rfl, .inl h⟩)
      · exact .inr (.inl ⟨rfl, .inr rfl⟩)
      · exact .inr (.inr ⟨rfl, .inr rfl⟩)
  funext i j
  unfold TG
  rw [step]
  by_cases h1 : i = u ∧ j = v
  · obtain ⟨rfl, rfl⟩ := h1
    simp [n1, Rat.add_zero]
  · by_cases h2 : i = v ∧ j = u
    · obtain ⟨rfl, rfl⟩ := h2
      simp [n2, Rat.add_zero, Rat.mul_comm]
    · simp [h1, h2, Rat.add_zero]
theorem TG_none (M : Tb) (k : Nat) : TG M k (fun _ _ => false) = M.t := by
  funext i j
  unfold TG
  simp [Rat.add_zero]
theorem TG_not {M : Tb} {k : Nat} {G : Nat → Nat → Bool} {i j : Nat} (h : G i j = false) : TG M k G i j = M.t i j := by
  unfold TG
  rw [h]
  simp [Rat.add_zero]
/-- who is near: all wares with a tie -/
theorem tie_zero {M : Tb} {k n : Nat} (gd : Good M) {yn : List Nat} (hy : ∀ j, j ∈ yn ↔ Dn k n M.t k j) {i : Nat} (h1 : k + 1 ≤ i) (h2 : i < n) (h : i ∉ yn) : M.t k i = 0 := by
  have hn : ¬ 0 < M.t k i := fun hp => h ((hy i).mpr ⟨by omega, h2, by omega, hp⟩)
  exact Rat.le_antisymm (Rat.not_lt.mp hn) (gd.nn k i)
theorem TG_end {M : Tb} {k n : Nat} (gd : Good M) {yn : List Nat} (hy : ∀ j, j ∈ yn ↔ Dn k n M.t k j) {i j : Nat} (h1 : k + 1 ≤ i) (h2 : i < n) (h3 : k + 1 ≤ j) (h4 : j < n) (hne : j ≠ i) : TG M k (gq yn yn.length) i j = (elim k M).t i j := by
  show M.t i j + _ = M.t i j + M.t k i * M.t k j / M.s k
  congr 1
  unfold gq
  by_cases hi : i ∈ yn
  · by_cases hj : j ∈ yn
    · rw [if_pos (decide_eq_true ⟨fun e => hne e.symm, hi, hj, .inl (by rw [List.take_length]; exact hi)⟩)]
    · rw [if_neg (by simp [hj]), tie_zero gd hy h3 h4 hj, Rat.mul_zero, zero_div']
  · rw [if_neg (by simp [hi]), tie_zero gd hy h1 h2 hi, Rat.zero_mul, zero_div']
theorem elim_s_near {M : Tb} {k n : Nat} (gd : Good M) {yn : List Nat} (hy : ∀ j, j ∈ yn ↔ Dn k n M.t k j) {i : Nat} (h1 : k + 1 ≤ i) (h2 : i < n) : (if i ∈ yn then (elim k M).s i else M.s i) = (elim k M).s i := by
  by_cases hi : i ∈ yn
  · rw [if_pos hi]
  · rw [if_neg hi]
    show M.s i = M.s i - M.t k i * M.t k i / M.s k
    rw [tie_zero gd hy h1 h2 hi, Rat.zero_mul, zero_div', sub_zero']
theorem s_pos {n k : Nat} {M : Tb} (hs : 0 ≤ M.s k) (hb : M.s k = 0 → ∀ j ∈ List.range' (k + 1) (n - (k + 1)), ¬ 0 < M.t k j) {j : Nat} (h : Dn k n M.t k j) : 0 < M.s k := by
  by_cases h0 : M.s k = 0
  · refine absurd h.2.2.2 (hb h0 j ?_)
    rw [List.mem_range'_1]
    have := h.1
    have := h.2.1
    have := h.2.2.1
    omega
  · exact Rat.not_le.mp fun hle => h0 (Rat.le_antisymm hle hs)
end R25

set_option Elab.async false
set_option linter.all false
set_option maxRecDepth 100000
set_option maxHeartbeats 4000000
namespace R25
open PySem PySem.Spec PyProof.Rows L2
section
variable {P : Program} {w : World} {K : PySem.W.Frag} {mg : Str → Option Value} {base : Heap}
theorem sc_Table_strike : FnScope ["self", "ware", "slant", "row", "near", "one", "at", "other"] ["self", "ware"] (defScope s_Table_strike) := ⟨rfl, rfl, rfl, by decide +kernel, rfl, by decide +kernel, by decide +kernel⟩
theorem ok_Table_strike (T : Txt K mg) (M_Exact_sub : Mtd P w K mg base CX0 4 "Exact" "__sub__" ["self", "other"] (sp2 (sp_sub K))) (M_Exact_mul : Mtd P w K mg base CX0 4 "Exact" "__mul__" ["self", "other"] (sp2 (sp_mul K))) (M_Exact_over : Mtd P w K mg base CX0 4 "Exact" "over" ["self", "other"] (sp2 (sp_over K))) (M_Exact_square : Mtd P w K mg base CX0 4 "Exact" "square" ["self"] (sp1 (sp_square K))) (M_Table_raise_root : Mtd P w K mg base CX0 5 "Table" "raise_root" ["self", "one", "other", "amount"] (sp4 (sp_raise_root K))) : Mtd P w K mg base CX0 6 "Table" "strike" ["self", "ware"] (sp2 (sp_strike K)) := by
  obtain ⟨fd, F⟩ := T.f_Table_strike
  refine ⟨T.c_Table, T.m_Table_strike, fd, fnok_of F sc_Table_strike (fun vs H Q E h => ?_) (fun vs H Q E h => ?_), F.binds (ps := ["self", "ware"]) fun _ _ _ _ _ _ us hl => ?_⟩
  · obtain ⟨a1, a2, rfl, _⟩ := h
    rfl
  · obtain ⟨a1, a2, rfl, h⟩ := h
    intro cdv A outer s hr
    refine ⟨_, (pss_cons (ps_set (i := 2) sc_Table_strike.nd rfl (Or.inl rfl) (pe_ix ix_list (pe_fld (pv 0) rfl) (pv 1) (fun _ _ => rfl)))
      (pss_cons (ps_set (i := 3) sc_Table_strike.nd rfl (Or.inl rfl) (pe_ix ix_list (pe_fld (pv 0) rfl) (pv 1) (fun _ _ => rfl)))
      (pss_cons (ps_asg pe_dnewK (pg_sub (pe_fld (pv 0) rfl) (pv 1) set_list))
      (pss_cons (ps_set (i := 4) sc_Table_strike.nd rfl (Or.inl rfl) (pe_callB (call_sortedDI rfl) (by rfl) T.b_sorted (by decide +kernel) (pa_cons (pv 3) pa_nil)))
      (pss_cons (ps_for PassesOwn.never rfl (pi_list (pv 4)) (pg_name (i := 5) sc_Table_strike.nd rfl (Or.inl rfl)) (pss_cons (ps_ddel (pe_ix ix_list (pe_fld (pv 0) rfl) (pv 5) (fun _ _ => rfl)) (pv 1))
      (pss_one (ps_asg (pe_op (op_ownD T.sf M_Exact_sub hr) (pe_ix ix_list (pe_fld (pv 0) rfl) (pv 5) (fun _ _ => rfl)) (pe_methD M_Exact_over hr (pe_methD0 M_Exact_square hr (pe_dget (hu_of hr) (pv 3) (pv 5) (fun _ _ => rfl))) (pa_cons (pv 2) pa_nil))) (pg_sub (pe_fld (pv 0) rfl) (pv 5) set_list)))))
      (pss_cons (ps_for PassesOwn.never rfl (pi_enum rfl T.b_enumerate (pa_cons (pv 4) pa_nil)) (pg_tup rfl (pgs_cons (pg_name (i := 6) sc_Table_strike.nd rfl (Or.inl rfl)) (pgs_cons (pg_name (i := 5) sc_Table_strike.nd rfl (Or.inl rfl)) pgs_nil))) (pss_one (ps_for PassesOwn.never rfl (pi_list (pe_slice sl_list (pv 4) (po_some (pe_op op_add (pv 6) pe_int)) po_none)) (pg_name (i := 7) sc_Table_strike.nd rfl (Or.inl rfl)) (pss_one (ps_expr (pe_methD M_Table_raise_root hr (pv 0) (pa_cons (pv 5) (pa_cons (pv 7) (pa_cons (pe_methD M_Exact_over hr (pe_op (op_ownD T.sf M_Exact_mul hr) (pe_dget (hu_of hr) (pv 3) (pv 5) (fun _ _ => rfl)) (pe_dget (hu_of hr) (pv 3) (pv 7) (fun _ _ => rfl))) (pa_cons (pv 2) pa_nil)) pa_nil)))))))))
      (pss_one (ps_expr (pe_bm PySem.F.plainAttrs_list PySem.F.slot_list_append PySem.F.type_list_append mt_append (pe_fld (pv 0) rfl) (pa_cons (pe_tup (pa_cons (pv 1) (pa_cons (pv 2) (pa_cons (pv 3) pa_nil)))) pa_nil)))))))))), ?_⟩
    obtain ⟨W, n, k, m, rfl, rfl, hk, fit, hb, t, g, q⟩ := h
    have n8 := fit.n8
    have hnn : ∀ i, i < k → 0 ≤ (st m i).s i := Fit.nn (n := n) (fun i hi => hb i (by omega))
    have hbk := bad_false (hb k (Nat.le_refl _))
    have gd := st_good fit.good k hnn
    have fn := st_fine fit.fine k hnn
    have e1 : st m (k + 1) = elim k (st m k) := rfl
    rw [e1] at q
    obtain ⟨M, hM⟩ : ∃ M, st m k = M := ⟨_, rfl⟩
    rw [hM] at t gd fn hbk q
    obtain ⟨L, v, hL, hLn, hLe, pe, de, rfl, hpe⟩ := t.slant (Nat.le_refl _) hk
    obtain ⟨Lb, r0, kvs, hLb, hLbn, hLbe, hr0, hkv, row⟩ := t.row (Nat.le_refl _) hk
    refine ⟨_, rfl, _, _, _, _, _, rfl, t.ins, T.c_Table, T.n_slants, (tF_slants _ _ _), _, rfl, _, _, _, _, rfl, rfl, .inl (.inl hL), (atI_nat hLe), _, rfl, _, _, _, _, _, rfl, t.ins, T.c_Table, T.n_beside, (tF_beside _ _ _), _, rfl, _, _, _, _, rfl, rfl, .inl (.inl hLb), (atI_nat hLbe), fun d fd => ⟨_, rfl, _, _, _, _, _, rfl, ((Same.new fd) _ _ t.ins), T.c_Table, T.n_beside, (tF_beside _ _ _), _, rfl, _, _, _, _, rfl, rfl, ((Same.new fd) _ _ hLb), Evl.ixN_nat (by omega), ?_⟩⟩
    have sd : Same H (upd H d (.dK [])) := Same.new fd
    have kpb : Keeps (upd H d (.dK [])) (upd (upd H d (.dK [])) W.b (.lst (Lb.set k (.ref d)))) := Keeps.upd (sd _ _ hLb) rfl
    have t2 := (t.up sd).setB (v := .ref d) (sd _ _ hLb)
    have nbr : ∀ r, r ∈ W.rs → W.b ≠ r := fun r hr e => t.not_b (e ▸ hr)
    have g2 : Gone K (upd (upd H d (.dK [])) W.b (.lst (Lb.set k (.ref d)))) W n k m := (g.up sd).frame (sd _ _ hLb) rfl t.bc fun i r _ e => nbr r (List.mem_of_getElem? e)
    have fr2 : Fr W H (upd (upd H d (.dK [])) W.b (.lst (Lb.set k (.ref d)))) := Fr.trans (Fr.of sd) (Fr.own (.inr (.inl rfl)))
    have hkv2 : (upd (upd H d (.dK [])) W.b (.lst (Lb.set k (.ref d)))) r0 = some (.dK kvs) := by
      rw [upd_ne (nbr r0 (List.mem_of_getElem? hr0)).symm]
      exact sd _ _ hkv
    have row2 := (row.keep (Keeps.of sd)).keep kpb
    have hpe2 := kpb _ _ (sd _ _ hpe) rfl
    generalize hH2 : upd (upd H d (.dK [])) W.b (.lst (Lb.set k (.ref d))) = H2
    rw [hH2] at t2 g2 fr2 hkv2 row2 hpe2
    clear hH2 kpb sd fd d
    obtain ⟨js, hjs, jnd, jm, jl⟩ := row2.keys
    have hkl : kvs.length ≤ n := row2.len fun j hj => hj.2.1
    refine ⟨_, rfl, _, kvs, js.map (fun (j : Nat) => (j : Int)), rfl, .inl hkv2, by rw [hjs, List.map_map]; rfl, by rw [List.length_map, jl]; omega, fun ys np hperm _ fnp => ?_⟩
    obtain ⟨yn, hyn, hyp⟩ := perm_nat hperm
    have ynd : yn.Nodup := hyp.nodup_iff.mpr jnd
    have ym : ∀ j, j ∈ yn ↔ Dn k n M.t k j := fun j => hyp.mem_iff.trans (jm j)
    rw [hyn]
    clear hperm hyp jm jnd hjs jl
    have s3 : Same H2 (upd H2 np (.lst (natsV yn))) := Same.new fnp
    have t3 := t2.up s3
    have g3 := g2.up s3
    have fr3 := Fr.trans fr2 (Fr.of s3)
    have hkv3 := s3 _ _ hkv2
    have row3 := row2.keep (Keeps.of s3)
    have hpe3 := s3 _ _ hpe2
    have hnp : (upd H2 np (.lst (natsV yn))) np = some (.lst (natsV yn)) := upd_same
    have npa : np ≠ W.a := fun e => by
      obtain ⟨z, hz, _⟩ := t2.sl
      rw [e, hz] at fnp
      cases fnp
    have npc : np ≠ W.c := fun e => by
      obtain ⟨z, hz⟩ := t2.cs
      rw [e, hz] at fnp
      cases fnp
    have npr : np ∉ W.rs := fun e => by
      obtain ⟨z, hz⟩ := t2.dk _ e
      rw [hz] at fnp
      cases fnp
    generalize hH3 : upd H2 np (.lst (natsV yn)) = H3
    rw [hH3] at s3 t3 g3 fr3 hkv3 row3 hpe3 hnp
    clear hH3 s3 t2 g2 fr2 hkv2 row2 hpe2 fnp
    have hsl3 : IsE K H3 (.ref pe) (M.s k) := ⟨_, _, rfl, hpe3⟩
    have near : ∀ u, u ∈ yn → k + 1 ≤ u ∧ u < n ∧ 0 < M.t k u := fun u hu => by
      have h := (ym u).mp hu
      have h1 := h.1
      have h2 := h.2.2.1
      exact ⟨by omega, h.2.1, h.2.2.2⟩
    have spos : ∀ u, u ∈ yn → 0 < M.s k := fun u hu => s_pos hbk.1 hbk.2 ((ym u).mp hu)
    have k6 : ∀ u, u ∈ yn → k ≤ 6 := fun u hu => by
      have := near u hu
      omega
    have rne : ∀ (i j : Nat) (a b : Addr), W.rs[i]? = some a → W.rs[j]? = some b → i ≠ j → a ≠ b := fun i j a b h1 h2 h3 e => h3 (nodup_at t.rows.nd h1 (e ▸ h2))
    refine ⟨_, rfl, _, rfl, ⟨_, .inl (.inl hnp)⟩, ?_⟩
    refine for_list (xs := natsV yn) (fun i σ H' => ∃ u5 u6 u7, σ = [some (.ref W.p), some (.int k), some (.ref pe), some (.ref r0), some (.ref np), u5, u6, u7] ∧ Keeps H3 H' ∧ Fr W H H' ∧ H' np = some (.lst (natsV yn)) ∧ H' r0 = some (.dK kvs) ∧ Gone K H' W n k m ∧
        Tab K H' W n (k + 1) (fun j => if j ∈ yn.take i then (elim k M).s j else M.s j) (fun a b => Dn k n M.t a b ∧ ¬ (b = k ∧ a ∈ yn.take i)) M.t)
      ⟨_, _, _, rfl, Keeps.rfl', fr3, hnp, hkv3, g3, t3.congr (Nat.le_refl _) (fun j _ _ => by simp) (fun a b _ _ => by simp) fun _ _ _ _ _ => rfl⟩ (fun i σ H' _ ⟨_, _, _, _, _, _, h, _⟩ => .inl (.inl h)) ?_ ?_
    · rintro i x σ H4 hx ⟨u5, u6, u7, rfl, kp4, fr4, np4, r04, g4, t4⟩
      obtain ⟨u, hu, rfl⟩ := natsV_at hx
      have hum := List.mem_of_getElem? hu
      obtain ⟨uk, un, utp⟩ := near u hum
      have hut : u ∉ yn.take i := fun h => by
        have nd2 := ynd
        rw [take_drop_at hu, List.nodup_append] at nd2
        exact nd2.2.2 u h u (List.mem_cons_self) rfl
      obtain ⟨Lb4, ru, kvu, hLb4, _, hbe4, hru, hku, rowu⟩ := t4.row uk un
      obtain ⟨vk, evk, _⟩ := rowu.has k ⟨⟨Nat.le_refl _, hk, by omega, by rw [gd.sy]; exact utp⟩, fun h => hut h.2⟩
      refine ⟨_, rfl, _, _, _, _, _, rfl, t4.ins, T.c_Table, T.n_beside, (tF_beside _ _ _), _, rfl, _, _, _, _, rfl, rfl, .inl (.inl hLb4), (atI_nat hbe4), _, rfl, _, kvu, .inl (k : Int), rfl, hku, rfl, by rw [evk]; rfl, ?_⟩
      have hrm := List.mem_of_getElem? hru
      have t5 := t4.setR hrm hku (t4.rows.drop (u := u) (w := k) uk hru hku)
      have kp5 : Keeps H4 (upd H4 ru (.dK (dropK kvu (.inl (k : Int))))) := Keeps.upd hku rfl
      have g5 : Gone K (upd H4 ru (.dK (dropK kvu (.inl (k : Int))))) W n k m := g4.frame hku rfl (fun e => t4.not_c (e ▸ hrm)) fun j r hj e => rne u j ru r hru e (by omega)
      have fr5 : Fr W H (upd H4 ru (.dK (dropK kvu (.inl (k : Int))))) := Fr.trans fr4 (Fr.own (.inr (.inr (.inr hrm))))
      have np5 : (upd H4 ru (.dK (dropK kvu (.inl (k : Int))))) np = some (.lst (natsV yn)) := by
        rw [upd_ne (show np ≠ ru from fun e => npr (e ▸ hrm))]
        exact np4
      have r05 : (upd H4 ru (.dK (dropK kvu (.inl (k : Int))))) r0 = some (.dK kvs) := by
        rw [upd_ne (rne k u r0 ru hr0 hru (by omega))]
        exact r04
      have kp35 := Keeps.trans kp4 kp5
      generalize hH5 : upd H4 ru (.dK (dropK kvu (.inl (k : Int)))) = H5
      rw [hH5] at t5 g5 fr5 np5 r05 kp35
      clear hH5 kp5 t4 g4 fr4 np4 r04 hku rowu hLb4 hbe4 evk
      obtain ⟨La, vy, hLa, hLan, hLae, hvy⟩ := t5.slant uk un
      simp only [if_neg hut] at hvy
      obtain ⟨py, dy, rfl, hpy⟩ := hvy
      obtain ⟨vt, hget, pt, dt, rfl, hpt⟩ := (row3.keep kp35).get r05 ((ym u).mp hum)
      have hsl5 := hsl3.keep kp35
      refine ⟨_, rfl, _, _, _, _, _, rfl, t5.ins, T.c_Table, T.n_slants, (tF_slants _ _ _), _, rfl, _, _, _, _, rfl, rfl, .inl (.inl hLa), (atI_nat hLae), _, rfl, _, rfl, _, _, rfl, hget, _, _, _, rfl, hpt, eF_no _ (sne (by decide +kernel)) (sne (by decide +kernel)), _, rfl, M.t k u, ⟨_, _, rfl, hpt⟩, fn.okT (by omega) k u, fun vq H6 s6 hq6 => ?_⟩
      obtain ⟨pq, dq, rfl, hpq⟩ := hq6
      refine ⟨_, _, _, rfl, hpq, eF_no _ (sne (by decide +kernel)) (sne (by decide +kernel)), _, rfl, _, _, rfl, M.t k u * M.t k u, M.s k, ⟨_, _, rfl, hpq⟩, hsl5.up s6, fn.okTT (k6 u hum) _ _ _ _, fn.okS (by omega) _, spos u hum, fun vo H7 s7 ho7 => ?_⟩
      obtain ⟨po, dox, rfl, hpo⟩ := ho7
      have s57 := Same.trans s6 s7
      refine ⟨_, _, _, _, _, _, rfl, rfl, (s57 _ _ hpy), hpo, _, _, rfl, _, _, ⟨_, _, rfl, (s57 _ _ hpy)⟩, ⟨_, _, rfl, hpo⟩, (fn.okS (by omega) _), (fn.okTTS (k6 u hum) _ _ _ _ _ (spos u hum)), fun v8 H8 s8 hv8 => ?_⟩
      have s58 := Same.trans s57 s8
      have t8 := t5.up s58
      have hLa8 := s58 _ _ hLa
      refine ⟨_, rfl, _, _, _, _, _, rfl, t8.ins, T.c_Table, T.n_slants, (tF_slants _ _ _), _, rfl, _, _, _, _, rfl, rfl, hLa8, Evl.ixN_nat (by omega), ?_⟩
      have t9 := t8.setS (i := u) hLa8 hv8
      refine ⟨_, _, _, rfl, Keeps.trans kp35 (Keeps.trans (Keeps.of s58) (Keeps.upd hLa8 rfl)), Fr.trans fr5 (Fr.trans (Fr.of s58) (Fr.own (.inl rfl))), ?_, ?_, (g5.up s58).frame hLa8 rfl t8.ac (fun j r _ e => fun z => t8.not_a (z ▸ List.mem_of_getElem? e)), t9.congr (Nat.le_refl _) (fun j _ _ => ?_) (fun a b _ _ => ?_) fun _ _ _ _ _ => rfl⟩
      · rw [upd_ne npa]
        exact s58 _ _ np5
      · rw [upd_ne (show r0 ≠ W.a from fun e => t8.not_a (e ▸ List.mem_of_getElem? hr0))]
        exact s58 _ _ r05
      · rw [take_snoc hu]
        by_cases hj : j = u
        · subst hj
          simp
          rfl
        · simp [hj]
      · rw [take_snoc hu]
        simp only [List.mem_append, List.mem_singleton]
        constructor
        · rintro ⟨⟨h1, h2⟩, h3⟩
          exact ⟨h1, fun h => h.2.elim (fun h4 => h2 ⟨h.1, h4⟩) fun h4 => h3 ⟨h4, h.1⟩⟩
        · rintro ⟨h1, h2⟩
          exact ⟨⟨h1, fun h => h2 ⟨h.1, .inl h.2⟩⟩, fun h => h2 ⟨h.2, .inr h.1⟩⟩
    · rintro σ H4 ⟨u5, u6, u7, rfl, kp4, fr4, np4, r04, g4, t4⟩
      have t4 : Tab K H4 W n (k + 1) (elim k M).s (Dn (k + 1) n (TG M k (gq yn 0))) (TG M k (gq yn 0)) := by
        rw [gq_zero, TG_none]
        refine t4.congr (Nat.le_refl _) (fun j h1 h2 => ?_) (fun a b h1 h2 => ?_) fun _ _ _ _ _ => rfl
        · rw [natsV_len, List.take_length]
          exact elim_s_near gd ym h1 h2
        · rw [natsV_len, List.take_length]
          constructor
          · rintro ⟨⟨d1, d2, d3, d4⟩, d5⟩
            refine ⟨?_, d2, d3, d4⟩
            by_cases e : b = k
            · subst e
              refine absurd ⟨rfl, (ym a).mpr ⟨by omega, h2, by omega, ?_⟩⟩ d5
              rw [gd.sy]
              exact d4
            · omega
          · rintro ⟨d1, d2, d3, d4⟩
            exact ⟨⟨by omega, d2, d3, d4⟩, fun h => by omega⟩
      have hnn0 : 0 ≤ M.s k := hbk.1
      have tgn : ∀ (G : Nat → Nat → Bool) a b, 0 ≤ TG M k G a b := fun G a b => Rat.add_nonneg (gd.nn a b) (ite_nn (div_nonneg (Rat.mul_nonneg (gd.nn _ _) (gd.nn _ _)) hnn0))
      refine ⟨_, rfl, _, _, rfl, .inl (.inl np4), ?_⟩
      refine for_it walk_enum (fun i σ H' => ∃ u5 u6 u7, σ = [some (.ref W.p), some (.int k), some (.ref pe), some (.ref r0), some (.ref np), u5, u6, u7] ∧ Keeps H4 H' ∧ Fr W H H' ∧ H' np = some (.lst (natsV yn)) ∧ H' r0 = some (.dK kvs) ∧ Gone K H' W n k m ∧
          Tab K H' W n (k + 1) (elim k M).s (Dn (k + 1) n (TG M k (gq yn i))) (TG M k (gq yn i)))
        ⟨_, _, _, rfl, Keeps.rfl', fr4, np4, r04, g4, t4⟩ (fun i σ H' _ ⟨_, _, _, _, _, _, h, _⟩ => .inl (.inl h)) ?_ ?_
      · rintro i x σ H5 H6 hi ⟨u5, u6, u7, rfl, kp5, fr5, np5, r05, g5, t5⟩ ⟨T1, a, b, rfl, fT, rfl, ha, hb'⟩
        cases ha
        obtain ⟨u, hu, rfl⟩ := natsV_at hb'
        have hum := List.mem_of_getElem? hu
        obtain ⟨uk, un, utp⟩ := near u hum
        have s6 : Same H5 (upd H5 T1 (.tup [.int (i : Nat), .int (u : Int)])) := Same.new fT
        refine ⟨_, _, rfl, .inl (.inl upd_same), rfl, _, _, rfl, _, _, rfl, rfl, _, rfl, _, rfl, _, _, rfl, rfl, _, rfl, _, _, rfl, .inl (.inl (s6 _ _ np5)), fun p fp => ⟨_, rfl, ⟨_, .inl (.inl upd_same)⟩, ?_⟩⟩
        have ec : cutV (natsV yn) (some ((i : Int) + 1)) none = natsV (yn.drop (i + 1)) := by
          rw [show (i : Int) + 1 = ((i + 1 : Nat) : Int) by omega, cutV_drop, natsV_drop]
        have s7 := Same.trans s6 (Same.new (o := .lst (cutV (natsV yn) (some ((i : Int) + 1)) none)) fp)
        have hp7 : (upd (upd H5 T1 (.tup [.int (i : Nat), .int (u : Int)])) p (.lst (cutV (natsV yn) (some ((i : Int) + 1)) none))) p = some (.lst (natsV (yn.drop (i + 1)))) := by rw [upd_same, ec]
        have np_p : p ∉ W.rs ∧ p ≠ W.a ∧ p ≠ W.c ∧ p ≠ W.b := by
          have t6 := t5.up s6
          refine ⟨fun e => ?_, fun e => ?_, fun e => ?_, fun e => ?_⟩
          · obtain ⟨z, hz⟩ := t6.dk _ e
            rw [hz] at fp
            cases fp
          · obtain ⟨z, hz, _⟩ := t6.sl
            rw [e, hz] at fp
            cases fp
          · obtain ⟨z, hz⟩ := t6.cs
            rw [e, hz] at fp
            cases fp
          · obtain ⟨z, hz, _⟩ := t6.bs
            rw [e, hz] at fp
            cases fp
        generalize hH7 : upd (upd H5 T1 (.tup [.int (i : Nat), .int (u : Int)])) p (.lst (cutV (natsV yn) (some ((i : Int) + 1)) none)) = H7
        rw [hH7] at s7 hp7
        clear hH7 s6 fT fp
        refine for_list (xs := natsV (yn.drop (i + 1))) (fun r σ H' => ∃ w7, σ = [some (.ref W.p), some (.int k), some (.ref pe), some (.ref r0), some (.ref np), some (.int u), some (.int i), w7] ∧ Keeps H7 H' ∧ Fr W H H' ∧ H' p = some (.lst (natsV (yn.drop (i + 1)))) ∧ H' np = some (.lst (natsV yn)) ∧ H' r0 = some (.dK kvs) ∧ Gone K H' W n k m ∧
            Tab K H' W n (k + 1) (elim k M).s (Dn (k + 1) n (TG M k (gqr yn i r u))) (TG M k (gqr yn i r u)))
          ⟨_, rfl, Keeps.rfl', Fr.trans fr5 (Fr.of s7), hp7, s7 _ _ np5, s7 _ _ r05, g5.up s7, by rw [gqr_zero]; exact t5.up s7⟩ (fun r σ H' _ ⟨_, _, _, _, h, _⟩ => .inl (.inl h)) ?_ ?_
        · rintro r x σ H8 hx ⟨w7, rfl, kp8, fr8, p8, np8, r08, g8, t8⟩
          obtain ⟨v, hv, rfl⟩ := natsV_at hx
          have hvm := List.mem_of_mem_drop (List.mem_of_getElem? hv)
          obtain ⟨vk, vn, vtp⟩ := near v hvm
          obtain ⟨huv, no1, no2⟩ := gqr_not ynd hu hv
          have kp38 := Keeps.trans kp4 (Keeps.trans kp5 (Keeps.trans (Keeps.of s7) kp8))
          obtain ⟨vt, hget, pt, dt, rfl, hpt⟩ := (row3.keep kp38).get r08 ((ym u).mp hum)
          obtain ⟨vt2, hget2, pt2, dt2, rfl, hpt2⟩ := (row3.keep kp38).get r08 ((ym v).mp hvm)
          have hsl8 := hsl3.keep kp38
          have ok6 := k6 u hum
          refine ⟨_, rfl, _, _, _, rfl, t8.ins, tF_no _ _ _ (sne (by decide +kernel)) (sne (by decide +kernel)) (sne (by decide +kernel)), _, rfl, _, rfl, _, rfl, _, rfl, _, _, rfl, hget, _, rfl, _, rfl, _, _, rfl, hget2, _, _, _, _, _, _, rfl, rfl, hpt, hpt2, _, _, rfl, _, _, ⟨_, _, rfl, hpt⟩, ⟨_, _, rfl, hpt2⟩, (fn.okT (by omega) _ _), (fn.okT (by omega) _ _), fun vm H9 s9 hm9 => ?_⟩
          obtain ⟨pm, dm, rfl, hpm⟩ := hm9
          refine ⟨_, _, _, rfl, hpm, eF_no _ (sne (by decide +kernel)) (sne (by decide +kernel)), _, rfl, _, _, rfl, M.t k u * M.t k v, M.s k, ⟨_, _, rfl, hpm⟩, hsl8.up s9, fn.okTT ok6 _ _ _ _, fn.okS (by omega) _, spos u hum, fun vo H10 s10 ho10 => ?_⟩
          have s810 := Same.trans s9 s10
          have t10 := t8.up s810
          obtain ⟨_, ru, kvu, _, _, _, hru, hku, _⟩ := t10.row uk un
          obtain ⟨_, rv, kvv, _, _, _, hrv, hkv', _⟩ := t10.row vk vn
          have xpos : 0 < M.t k u * M.t k v / M.s k := div_pos (Rat.mul_pos utp vtp) (spos u hum)
          refine ⟨_, _, _, _, rfl, W, n, k + 1, u, v, _, _, M.t k u * M.t k v / M.s k, ru, rv, rfl, rfl, rfl, ho10, t10, n8, uk, un, vk, vn, huv, hru, hrv, xpos, tgn _ _ _, tgn _ _ _, fn.okTTS ok6 _ _ _ _ _ (spos u hum), by rw [TG_not no1]; exact fn.okT (by omega) _ _, by rw [TG_not no2]; exact fn.okT (by omega) _ _, fun H11 fr11 _ t11 => ?_⟩
          have kp11 : Keeps H10 H11 := fun y o hy hm => fr11 y o hy (fun e => by subst e; rw [hku] at hy; cases hy; cases hm) (fun e => by subst e; rw [hkv'] at hy; cases hy; cases hm)
          have mru := List.mem_of_getElem? hru
          have mrv := List.mem_of_getElem? hrv
          refine ⟨_, rfl, Keeps.trans kp8 (Keeps.trans (Keeps.of s810) kp11), Fr.trans fr8 (Fr.trans (Fr.of s810) fun y o hy h1 h2 h3 h4 => fr11 y o hy (fun e => h4 (e ▸ mru)) fun e => h4 (e ▸ mrv)), fr11 _ _ (s810 _ _ p8) (fun e => np_p.1 (e ▸ mru)) (fun e => np_p.1 (e ▸ mrv)), fr11 _ _ (s810 _ _ np8) (fun e => npr (e ▸ mru)) (fun e => npr (e ▸ mrv)),
            fr11 _ _ (s810 _ _ r08) (rne k u r0 ru hr0 hru (by omega)) (rne k v r0 rv hr0 hrv (by omega)), (g8.up s810).fr2 hku hkv' fr11 (fun j r hj e => ⟨rne j u r ru e hru (by omega), rne j v r rv e hrv (by omega)⟩), ?_⟩
          rw [← TG_step ynd hu hv]
          exact t11
        · rintro σ H8 ⟨w7, rfl, kp8, fr8, p8, np8, r08, g8, t8⟩
          rw [natsV_len, gqr_end ynd hu] at t8
          exact ⟨_, _, _, rfl, Keeps.trans kp5 (Keeps.trans (Keeps.of s7) kp8), fr8, np8, r08, g8, t8⟩
      · rintro σ H5 ⟨u5, u6, u7, rfl, kp5, fr5, np5, r05, g5, t5⟩
        rw [natsV_len] at t5
        have kp35 := Keeps.trans kp4 kp5
        have t6 : Tab K H5 W n (k + 1) (elim k M).s (Dn (k + 1) n (elim k M).t) (elim k M).t := by
          refine t5.congr (Nat.le_refl _) (fun _ _ _ => rfl) (fun a b h1 h2 => ?_) fun a b h1 h2 d => TG_end gd ym h1 h2 d.1 d.2.1 d.2.2.1
          constructor
          · rintro ⟨d1, d2, d3, d4⟩
            exact ⟨d1, d2, d3, by rw [← TG_end gd ym h1 h2 d1 d2 d3]; exact d4⟩
          · rintro ⟨d1, d2, d3, d4⟩
            exact ⟨d1, d2, d3, by rw [TG_end gd ym h1 h2 d1 d2 d3]; exact d4⟩
        obtain ⟨Lc, hLc, hLcn, _⟩ := g5.gs
        refine ⟨_, rfl, _, _, _, _, _, rfl, t6.ins, T.c_Table, T.n_gone, (tF_gone _ _ _), .inl ⟨rfl, _, .inl (.inl hLc)⟩, _, rfl, _, rfl, _, rfl, (by show 3 ≤ sizeLine; decide), fun T1 fT => ?_⟩
        have s6 : Same H5 (upd H5 T1 (.tup [.int (k : Int), .ref pe, .ref r0])) := Same.new fT
        refine ⟨_, Lc, _, rfl, rfl, s6 _ _ hLc, Nat.lt_of_lt_of_le (show Lc.length < 9 by omega) (by decide), ?_⟩
        refine q _ (Fr.trans fr5 (Fr.trans (Fr.of s6) (Fr.own (.inr (.inr (.inl rfl)))))) ((t6.up s6).setC (s6 _ _ hLc)) ((g5.up s6).snoc (s6 _ _ hLc) upd_same ?_ hr0 t6.not_c (s6 _ _ r05) ?_)
        · rw [hM]
          exact (hsl3.keep kp35).up s6
        · rw [hM]
          exact (row3.keep kp35).keep (Keeps.of s6)
  · obtain ⟨u1, u2, rfl⟩ := two2 hl
    rfl
end
end R25

set_option Elab.async false
set_option linter.all false
set_option maxRecDepth 100000
set_option maxHeartbeats 4000000
namespace R25
open PySem PySem.Spec PyProof.Rows L2
section
variable {P : Program} {w : World} {K : PySem.W.Frag} {mg : Str → Option Value} {base : Heap}
theorem sc_Table_go_back : FnScope ["self", "found", "untied", "ware", "slant", "row", "number", "other", "root"] ["self", "found", "untied"] (defScope s_Table_go_back) := ⟨rfl, rfl, rfl, by decide +kernel, rfl, by decide +kernel, by decide +kernel⟩
theorem ok_Table_go_back (T : Txt K mg) (K_Exact : Mkd P w K mg base CX0 2 "Exact" ["self", "top", "bottom"] (sp3 (sp_Exact_init K))) (M_Exact_add : Mtd P w K mg base CX0 4 "Exact" "__add__" ["self", "other"] (sp2 (sp_add K))) (M_Exact_mul : Mtd P w K mg base CX0 4 "Exact" "__mul__" ["self", "other"] (sp2 (sp_mul K))) (M_Exact_over : Mtd P w K mg base CX0 4 "Exact" "over" ["self", "other"] (sp2 (sp_over K))) : Mtd P w K mg base CX0 5 "Table" "go_back" ["self", "found", "untied"] (sp3 (sp_go_back K)) := by
  obtain ⟨fd, F⟩ := T.f_Table_go_back
  refine ⟨T.c_Table, T.m_Table_go_back, fd, fnok_of F sc_Table_go_back (fun vs H Q E h => ?_) (fun vs H Q E h => ?_), F.binds (ps := ["self", "found", "untied"]) fun _ _ _ _ _ _ us hl => ?_⟩
  · obtain ⟨a1, a2, a3, rfl, _⟩ := h
    rfl
  · obtain ⟨a1, a2, a3, rfl, h⟩ := h
    intro cdv A outer s hr
    refine ⟨_, (pss_cons (ps_for PassesOwn.never rfl (pi_list (pe_revL (pe_fld (pv 0) rfl))) (pg_tup rfl (pgs_cons (pg_name (i := 3) sc_Table_go_back.nd rfl (Or.inl rfl)) (pgs_cons (pg_name (i := 4) sc_Table_go_back.nd rfl (Or.inl rfl)) (pgs_cons (pg_name (i := 5) sc_Table_go_back.nd rfl (Or.inl rfl)) pgs_nil)))) (pss_cons (ps_set (i := 6) sc_Table_go_back.nd rfl (Or.inl rfl) (pv 2))
      (pss_cons (ps_if (pt_cmpR op_gt (pe_callB call_lenD (by rfl) T.b_len (by decide +kernel) (pa_cons (pv 5) pa_nil)) pe_int (nomark _)) (pss_cons (ps_set (i := 6) sc_Table_go_back.nd rfl (Or.inl rfl) (pe_makeD K_Exact hr (pa_cons pe_int (pa_cons pe_int pa_nil))))
      (pss_cons (ps_lock (ps_for PassesOwn.never rfl (pi_items (pv 5)) (pg_tup rfl (pgs_cons (pg_name (i := 7) sc_Table_go_back.nd rfl (Or.inl rfl)) (pgs_cons (pg_name (i := 8) sc_Table_go_back.nd rfl (Or.inl rfl)) pgs_nil))) (pss_one (ps_set (i := 6) sc_Table_go_back.nd rfl (Or.inl rfl) (pe_op (op_ownD T.sf M_Exact_add hr) (pv 6) (pe_op (op_ownD T.sf M_Exact_mul hr) (pv 8) (pe_dget (hu_of hr) (pv 1) (pv 7) (fun _ _ => rfl))))))))
      (pss_one (ps_set (i := 6) sc_Table_go_back.nd rfl (Or.inl rfl) (pe_methD M_Exact_over hr (pv 6) (pa_cons (pv 4) pa_nil)))))) pss_nil)
      (pss_one (ps_dput (hu_of hr) (pv 1) (pv 3) (pv 6) rfl)))))
      (pss_one (ps_ret (pv 1)))), ?_⟩
    obtain ⟨W, n, m, fp, rfl, hins, g, fit, hb, rfl, hfp, fpr, ⟨pc, dc, rfl, hpc⟩, k⟩ := h
    have n8 := fit.n8
    obtain ⟨L, hL, hLn, hLg⟩ := g.gs
    have nn := fun h => st_good fit.good h
    refine ⟨_, rfl, _, _, _, _, _, rfl, hins, T.c_Table, T.n_gone, (tF_gone _ _ _), _, L, rfl, .inl (.inl hL), fun p fpp => ⟨_, rfl, ⟨_, .inl (.inl upd_same)⟩, ?_⟩⟩
    have s1 : Same H (upd H p (.lst L.reverse)) := Same.new fpp
    have hp1 : (upd H p (.lst L.reverse)) p = some (.lst L.reverse) := upd_same
    have pfp : p ≠ fp := fun e => by rw [e, hfp] at fpp; cases fpp
    generalize hH1 : upd H p (.lst L.reverse) = H1
    rw [hH1] at s1 hp1
    clear hH1
    have hrl : L.reverse.length = n := by rw [List.length_reverse, hLn]
    refine for_list (xs := L.reverse) (fun i σ H' => ∃ u3 u4 u5 u6 u7 u8 kvs f, σ = [some (.ref W.p), some (.ref fp), some (.ref pc), u3, u4, u5, u6, u7, u8] ∧ (∀ y o, H1 y = some o → y ≠ fp → H' y = some o) ∧ H' fp = some (.dK kvs) ∧ Row K H' kvs (fun j => n - i ≤ j ∧ j < n) f ∧ FoundB (n - i) n f)
      ⟨_, _, _, _, _, _, [], fun _ => 0, rfl, fun y o h _ => h, s1 _ _ hfp, (Row.nil (f := fun _ => 0)).congr (fun j => ⟨fun h => h.elim, fun h => by omega⟩) (fun _ h => h.elim), 1, by decide, Nat.one_le_two_pow, fun j h1 h2 => by omega⟩ (fun i σ H' _ ⟨_, _, _, _, _, _, _, _, _, fr, _⟩ => .inl (.inl (fr _ _ hp1 pfp))) ?_ ?_
    · rintro i x σ H2 hx ⟨u3, u4, u5, u6, u7, u8, kvs, f, rfl, fr2, hf2, row2, fb2⟩
      have hi : i < n := by rw [← hrl]; exact (List.getElem?_eq_some_iff.mp hx).1
      rw [List.getElem?_reverse (by omega), hLn] at hx
      obtain ⟨q, sv, r, kvr, e1, e2, e3, e4, e5, e6⟩ := hLg (n - 1 - i) (by omega)
      rw [e1] at hx
      cases hx
      obtain ⟨ps, ds, rfl, hps⟩ := e3
      have eni : n - i = (n - 1 - i) + 1 := by omega
      rw [eni] at fb2
      have hkl : kvs.length ≤ n := row2.len fun j hj => hj.2
      have f1fp := s1 _ _ hfp
      have hq2 := fr2 _ _ (s1 _ _ e2) (fun e => by rw [e, hfp] at e2; cases e2)
      have rfp : r ≠ fp := fun e => fpr (e ▸ List.mem_of_getElem? e4)
      have hr2 := fr2 _ _ (s1 _ _ e5) rfp
      have hps2 := fr2 _ _ (s1 _ _ hps) (fun e => by rw [e, hfp] at hps; cases hps)
      have hpc2 := fr2 _ _ (s1 _ _ hpc) (fun e => by rw [e, hfp] at hpc; cases hpc)
      have kp2 : Keeps H H2 := fun y o hy hm => fr2 _ _ (s1 _ _ hy) (fun e => by subst e; rw [hfp] at hy; cases hy; cases hm)
      have hlr : kvr.length ≤ n := e6.len fun j hj => hj.2.1
      have fn := st_fine fit.fine (n - 1 - i) (Fit.nn (n := n) fun j hj => hb j (by omega))
      have gd := nn (n - 1 - i) (Fit.nn (n := n) fun j hj => hb j (by omega))
      have hbk := bad_false (hb (n - 1 - i) (by omega))
      refine ⟨_, _, rfl, .inl (.inl hq2), rfl, _, _, rfl, _, _, rfl, _, _, rfl, rfl, _, rfl, _, rfl, _, _, rfl, hr2, _, _, rfl, rfl, _, rfl, ite2 (fun hc => ?_) (fun hc => ?_)⟩
      · have hpos : 0 < kvr.length := by have := of_decide_eq_true hc; omega
        obtain ⟨j0, j1, j2, j3⟩ := e6.pos.mp hpos
        have h6 : n - 1 - i ≤ 6 := by omega
        have s0 := s_pos hbk.1 hbk.2 (j := j0) ⟨by omega, j2, by omega, j3⟩
        obtain ⟨DE, N, hDE, bT, bO, bE⟩ := fb2.step fn h6 s0
        refine fun x dx nx ndx hne => ⟨_, _, _, rfl, x, dx, 0, 1, rfl, upd_same, rfl, rfl, by decide, big0, big1, fun H3 em kk => ⟨rfl, ?_⟩⟩
        obtain ⟨s3, hz⟩ := made_E (q' := 0) nx ndx em rfl kk
        clear em kk nx ndx hne
        have hr3 := s3 _ _ hr2
        refine ⟨r, .dK kvr, hr3, True.intro, fun od => ?_⟩
        have hxr : x ≠ r := fun e => by
          obtain ⟨_, _, e', hz⟩ := hz
          cases e'
          rw [e, hr3] at hz
          cases hz
        have kpl : ∀ y o, H3 y = some o → y ≠ r → upd H3 r (.frz od (.dK kvr)) y = some o := fun y o hy hne => by rw [upd_ne hne]; exact hy
        generalize hHl : upd H3 r (.frz od (.dK kvr)) = Hl
        have hrl' : Hl r = some (.frz od (.dK kvr)) := by rw [← hHl]; exact upd_same
        rw [hHl] at kpl
        clear hHl
        have kpE : ∀ v q, IsE K H3 v q → IsE K Hl v q := fun v q ⟨y, dy, e, hy⟩ => ⟨y, dy, e, kpl _ _ hy (fun z => by rw [z, hr3] at hy; cases hy)⟩
        have row3 : Row K Hl kvs (fun j => n - i ≤ j ∧ j < n) f := ⟨row2.nd, fun j d => let ⟨v, a, b⟩ := row2.has j d; ⟨v, a, kpE _ _ (b.up s3)⟩, row2.non⟩
        have hfl : Hl fp = some (.dK kvs) := kpl _ _ (s3 _ _ hf2) rfp.symm
        have rowr : Row K Hl kvr (fun j => n - 1 - i < j ∧ j < n ∧ 0 < (st m (n - 1 - i)).t (n - 1 - i) j) ((st m (n - 1 - i)).t (n - 1 - i)) := ⟨e6.nd, fun j d => let ⟨v, a, b⟩ := e6.has j d; ⟨v, a, kpE _ _ ((b.keep kp2).up s3)⟩, e6.non⟩
        refine ⟨_, rfl, _, od, kvr, rfl, hrl', ?_⟩
        refine for_it walk_items (fun qq σ H' => ∃ vn x w7 w8, σ = [some (.ref W.p), some (.ref fp), some (.ref pc), some (.int ((n - 1 - i : Nat) : Int)), some (.ref ps), some (.ref r), some vn, w7, w8] ∧ Same Hl H' ∧ IsE K H' vn x ∧ Bd DE (qq * N) x)
          ⟨_, 0, _, _, rfl, (fun _ _ h => h), kpE _ _ hz, Bd.zero⟩ (fun _ _ H' _ ⟨_, _, _, _, _, s, _⟩ => s _ _ hrl') ?_ ?_
        · rintro qq y σ H4 H5 hqq ⟨vn, xx, w7, w8, rfl, s4, hvn, hbd⟩ ⟨T1, a, b, rfl, fT, rfl, ha, hb'⟩
          obtain ⟨kv, hkv, rfl⟩ := Option.map_eq_some_iff.mp ha
          obtain ⟨kv', hkv', rfl⟩ := Option.map_eq_some_iff.mp hb'
          rw [hkv] at hkv'
          cases hkv'
          obtain ⟨key, val⟩ := kv
          obtain ⟨j, rfl, jd, pv, dv, ev, hpv⟩ := rowr.at_ hkv
          cases ev
          have s5 : Same H4 (upd H4 T1 (.tup [kV (.inl (j : Int)), .ref pv])) := Same.new fT
          have s45 := Same.trans s4 s5
          obtain ⟨pn, dn, rfl, hpn⟩ := hvn.up s5
          obtain ⟨vf, hget, pf, df, rfl, hpf⟩ := (row3.keep (Keeps.of s45)).get (s45 _ _ hfl) (j := j) ⟨by omega, jd.2.1⟩
          refine ⟨_, _, rfl, .inl (.inl upd_same), rfl, _, _, rfl, _, _, rfl, rfl, _, rfl, _, rfl, _, rfl, _, rfl, _, _, rfl, hget, _, _, _, _, _, _, rfl, rfl, (s45 _ _ hpv), hpf, _, _, rfl, _, _, ⟨_, _, rfl, (s45 _ _ hpv)⟩, ⟨_, _, rfl, hpf⟩, (fn.okT (by omega) _ _), (fb2.ok (by omega) (by omega) jd.2.1), fun vm H6 s6 hm => ?_⟩
          obtain ⟨pm, dm, rfl, hpm⟩ := hm
          refine ⟨_, _, _, _, _, _, rfl, rfl, (s6 _ _ hpn), hpm, _, _, rfl, _, _, ⟨_, _, rfl, (s6 _ _ hpn)⟩, ⟨_, _, rfl, hpm⟩, (bO _ _ (by omega) hbd), ((bO _ 1 (by decide) (by rw [Nat.one_mul]; exact bT j (by omega) jd.2.1))), fun va H7 s7 ha7 => ?_⟩
          refine ⟨_, _, _, _, rfl, Same.trans s45 (Same.trans s6 s7), ha7, ?_⟩
          rw [Nat.succ_mul]
          exact hbd.add (bT j (by omega) jd.2.1)
        · rintro σ H4 ⟨vn, xx, w7, w8, rfl, s4, ⟨pn, dn, rfl, hpn⟩, hbd⟩
          refine ⟨s4 _ _ hrl', ?_⟩
          have pnr : pn ≠ r := fun e => by rw [e, s4 _ _ hrl'] at hpn; cases hpn
          have s35 : Same H3 (upd H4 r (.dK kvr)) := fun y o hy => by
            by_cases e : y = r
            · subst e
              rw [hr3] at hy
              cases hy
              exact upd_same
            · rw [upd_ne e]
              exact s4 _ _ (kpl _ _ hy e)
          have hpn5 : (upd H4 r (.dK kvr)) pn = some (.ins (CE K) dn (eF xx)) := by rw [upd_ne pnr]; exact hpn
          generalize hH5 : upd H4 r (.dK kvr) = H5
          rw [hH5] at s35 hpn5
          clear hH5
          have s25 := Same.trans s3 s35
          refine ⟨_, rfl, _, _, _, rfl, hpn5, eF_no _ (sne (by decide +kernel)) (sne (by decide +kernel)), _, rfl, _, _, rfl, xx, _, ⟨_, _, rfl, hpn5⟩, ⟨_, _, rfl, s25 _ _ hps2⟩, bO _ _ (by omega) hbd, fn.okS (by omega) _, s0, fun vo H6 s6 ho => ?_⟩
          have s26 := Same.trans s25 s6
          refine ⟨_, rfl, _, rfl, _, rfl, _, _, rfl, DPut.k (k := .inl ((n - 1 - i : Nat) : Int)) (s26 _ _ hf2) (Nat.lt_of_lt_of_le (show kvs.length < 9 by omega) (by decide)), _, _, _, _, _, _, _, _, rfl, fun y o hy hne => ?_, upd_same, (((row2.keep (Keeps.of s26)).put ho).keep (Keeps.upd (s26 _ _ hf2) rfl)).congr (fun j => ?_) (fun _ _ => rfl), ?_⟩
          · rw [upd_ne hne]
            exact s26 _ _ (fr2 _ _ hy hne)
          · omega
          · rw [show n - (i + 1) = n - 1 - i by omega]
            exact bE _ _ (by omega) hbd
      · have hpos : kvr.length = 0 := by
          rcases Nat.eq_zero_or_pos kvr.length with h | h
          · exact h
          · exact absurd (decide_eq_true (by omega)) hc
        have s2 : Same H2 H2 := fun _ _ h => h
        refine ⟨_, rfl, _, rfl, _, rfl, _, _, rfl, DPut.k (k := .inl ((n - 1 - i : Nat) : Int)) hf2 (Nat.lt_of_lt_of_le (show kvs.length < 9 by omega) (by decide)), _, _, _, _, _, _, _, _, rfl, fun y o hy hne => ?_, upd_same, (((row2).put (⟨_, _, rfl, hpc2⟩ : IsE K H2 (.ref pc) 1)).keep (Keeps.upd hf2 rfl)).congr (fun j => ?_) (fun _ _ => rfl), ?_⟩
        · rw [upd_ne hne]
          exact s2 _ _ (fr2 _ _ hy hne)
        · omega
        · rw [show n - (i + 1) = n - 1 - i by omega]
          exact fb2.one (by omega)
    · rintro σ H2 ⟨u3, u4, u5, u6, u7, u8, kvs, f, rfl, fr2, hf2, row2, fb2⟩
      rw [hrl, Nat.sub_self] at row2
      exact ⟨_, rfl, k H2 kvs f (fun y o hy hne => fr2 _ _ (s1 _ _ hy) hne) hf2 (row2.congr (fun j => by omega) fun _ _ => rfl)⟩
  · obtain ⟨u1, u2, u3, rfl⟩ := three3 hl
    rfl
end
end R25

set_option Elab.async false
set_option linter.all false
set_option maxRecDepth 100000
set_option maxHeartbeats 4000000
namespace R25
open PySem PySem.Spec PyProof.Rows L2
/-! ### tables of webs, scales, tuples of numbers -/
def FreshW (H : Hp) (W : Tw) : Prop := H W.a = none ∧ H W.b = none ∧ H W.c = none ∧ ∀ r ∈ W.rs, H r = none
theorem FreshW.same {H H1 H2 : Hp} {W : Tw} (f : FreshW H W) (s : Same H H1) (r : Fr W H1 H2) : Same H H2 := fun x o hx => by
  refine r x o (s x o hx) ?_ ?_ ?_ ?_
  · exact ne_of_none hx f.1
  · exact ne_of_none hx f.2.1
  · exact ne_of_none hx f.2.2.1
  · intro hm
    rw [f.2.2.2 x hm] at hx
    cases hx
theorem Start.up {K : PySem.W.Frag} {H H' : Hp} {W : Tw} {n : Nat} {m : Tb} (s : Same H H') (h : Start K H W n m) : Start K H' W n m := ⟨h.1.up s, s _ _ h.2.1, h.2.2⟩
/-- a tuple of numbers -/
def IsT (K : PySem.W.Frag) (H : Hp) (v : V) (r : List Nat) : Prop := ∃ q, v = .ref q ∧ SqT K H q (natsV r)
theorem IsT.keep {K : PySem.W.Frag} {H H' : Hp} {v : V} {r : List Nat} (s : Keeps H H') (h : IsT K H v r) : IsT K H' v r := let ⟨q, e, a⟩ := h; ⟨q, e, SqT.keep s a⟩
def ItT (K : PySem.W.Frag) (H : Hp) (vs : List V) (rs : List (List Nat)) : Prop := vs.length = rs.length ∧ ∀ (k : Nat) (y : V), vs[k]? = some y → ∃ r, rs[k]? = some r ∧ IsT K H y r
theorem ItT.keep {K : PySem.W.Frag} {H H' : Hp} {vs : List V} {rs : List (List Nat)} (s : Keeps H H') (h : ItT K H vs rs) : ItT K H' vs rs := ⟨h.1, fun k y e => let ⟨r, a, b⟩ := h.2 k y e; ⟨r, a, b.keep s⟩⟩
/-- the tuples of numbers below n, in the order in which both make them -/
def subs : Nat → List (List Nat)
  | 0 => [[]]
  | n + 1 => subs n ++ (subs n).map (· ++ [n])
def alls (n : Nat) : List (List Nat) := (subs n).mergeSort rowLe
theorem subs_mem : ∀ (n : Nat) (r : List Nat), r ∈ subs n → r.Nodup ∧ ∀ x ∈ r, x < n
  | 0, r, h => by
    rw [subs, List.mem_singleton] at h
    subst h
    exact ⟨List.nodup_nil, fun x hx => by cases hx⟩
  | n + 1, r, h => by
    rw [subs, List.mem_append] at h
    rcases h with h | h
    · obtain ⟨a, b⟩ := subs_mem n r h
      exact ⟨a, fun x hx => by have := b x hx; omega⟩
    · obtain ⟨r', h', rfl⟩ := List.mem_map.mp h
      obtain ⟨a, b⟩ := subs_mem n r' h'
      refine ⟨?_, fun x hx => ?_⟩
      · rw [List.nodup_append]
        refine ⟨a, by simp, fun x hx y hy e => ?_⟩
        rw [List.mem_singleton] at hy
        have := b x hx
        omega
      · rcases List.mem_append.mp hx with hx | hx
        · have := b x hx
          omega
        · rw [List.mem_singleton] at hx
          omega
theorem subs_len : ∀ n : Nat, (subs n).length = 2 ^ n
  | 0 => rfl
  | n + 1 => by rw [subs, List.length_append, List.length_map, subs_len n, Nat.pow_succ]; omega
theorem alls_mem {n : Nat} {r : List Nat} (h : r ∈ alls n) : r.Nodup ∧ ∀ x ∈ r, x < n := subs_mem n r ((List.mergeSort_perm _ _).mem_iff.mp h)
theorem alls_len (n : Nat) : (alls n).length = 2 ^ n := by
  unfold alls
  rw [List.length_mergeSort, subs_len]
/-! ### stalls chosen by number -/
def pickS (l : List Stl) (r : List Nat) : List Stl := r.filterMap fun i => l[i]?
theorem pickS_len {l : List Stl} : ∀ {r : List Nat}, (∀ x ∈ r, x < l.length) → (pickS l r).length = r.length
  | [], _ => rfl
  | x :: r, h => by
    unfold pickS
    rw [List.filterMap_cons, List.getElem?_eq_getElem (h x (List.mem_cons_self))]
    show (pickS l r).length + 1 = r.length + 1
    rw [pickS_len fun y hy => h y (List.mem_cons_of_mem _ hy)]
theorem pickS_mem {l : List Stl} {r : List Nat} {t : Stl} (h : t ∈ pickS l r) : t ∈ l := by
  unfold pickS at h
  obtain ⟨i, _, e⟩ := List.mem_filterMap.mp h
  exact List.mem_of_getElem? e
theorem pickS_snoc {l : List Stl} {r : List Nat} {i : Nat} {t : Stl} (h : l[i]? = some t) : pickS l (r ++ [i]) = pickS l r ++ [t] := by
  unfold pickS
  rw [List.filterMap_append]
  simp [h]
theorem pickS_ok {n : Nat} {l : List Stl} {r : List Nat} (o : OkW n l) (h : ∀ x ∈ r, x < l.length) (hr : r.length ≤ 16) : OkW n (pickS l r) := ⟨o.n1, o.n8, by rw [pickS_len h]; exact hr, fun t ht => o.ok t (pickS_mem ht)⟩
/-! ### what the answers are -/
def leastOf (n : Nat) (m : Tb) : Option (List Nat) := if run (List.range n) m = true then none else (alls n).find? fun r => !run r m
def fewOf (n : Nat) (l : List Stl) (ps ws : Nat → Rat) : Option (List Nat) := (alls l.length).find? fun r => run (List.range n) (tbl (pickS l r) ps ws)
def but (L i : Nat) : List Nat := (List.range L).filter fun j => decide (j ≠ i)
def needOf (n : Nat) (l : List Stl) (ps ws : Nat → Rat) : Option (List Nat) := if run (List.range n) (tbl l ps ws) = true then some ((List.range l.length).filter fun i => !run (List.range n) (tbl (pickS l (but l.length i)) ps ws)) else none
/-- an answer: nothing, or a tuple -/
def Ans (K : PySem.W.Frag) (H : Hp) (Q : VK) (o : Option (List Nat)) : Prop := ∀ H', Same H H' → (o = none → Q .non H') ∧ ∀ r v, o = some r → IsT K H' v r → Q v H'
theorem Fine.via {k : Nat} {m : Tb} (f : Fine k m) (g : Nat → Nat) : Fine k (m.via g) := let ⟨D, a, b, c, d⟩ := f; ⟨D, a, b, fun i => c (g i), fun i j => d (g i) (g j)⟩
theorem Good.via {m : Tb} (f : Good m) (g : Nat → Nat) : Good (m.via g) := ⟨fun i j => f.nn _ _, fun i j => f.sy _ _⟩
theorem fit_web {n : Nat} {l : List Stl} {ps ws : Nat → Rat} (o : OkW n l) (hp : Amt ps) (hw : Amt ws) : Fit n (tbl l ps ws) := ⟨o.n8, tbl_fine o.ok o.l16 hp hw, tie_good o.ok ps ws⟩
/-! ### promises -/
section
variable (K : PySem.W.Frag)
def sp_table_of : F3 := fun a b c H Q _ => ∃ n l ps ws, WebAt K H a n l ∧ ExL K H b n ps ∧ ExL K H c n ws ∧ Amt ps ∧ Amt ws ∧ ∀ W H', Same H H' → FreshW H W → Start K H' W n (tbl l ps ws) → Q (.ref W.p) H'
def sp_scales_of : F3 := fun a b c H Q _ => ∃ n l ps ws, WebAt K H a n l ∧ ExL K H b n ps ∧ ExL K H c n ws ∧ Amt ps ∧ Amt ws ∧
  (run (List.range n) (tbl l ps ws) = true → ∀ p vs f H', H p = none → Same H H' → H' p = some (.lst vs) → vs.length = n → ItE K H' vs f → Q (.ref p) H') ∧ (run (List.range n) (tbl l ps ws) = false → ∀ H', Same H H' → Q .non H')
def sp_scales : F3 := fun a b c H Q _ => ∃ n l ps ws, WebAt K H a n l ∧ NumL H b n ps ∧ NumL H c n ws ∧ Amt ps ∧ Amt ws ∧
  (run (List.range n) (tbl l ps ws) = true → ∀ p H', Same H H' → Q (.ref p) H') ∧ (run (List.range n) (tbl l ps ws) = false → ∀ H', Same H H' → Q .non H')
def sp_all_tuples : F1 := fun a H Q _ => ∃ n : Nat, a = .int (n : Int) ∧ n ≤ 8 ∧ ∀ p vs H', H p = none → Same H H' → H' p = some (.lst vs) → ItT K H' vs (alls n) → Q (.ref p) H'
def sp_table_among : F2 := fun a b H Q _ => ∃ W n m r, a = .ref W.p ∧ Start K H W n m ∧ IsT K H b r ∧ r.Nodup ∧ (∀ x ∈ r, x < n) ∧ ∀ W' H', Same H H' → FreshW H W' → Start K H' W' r.length (m.via fun i => r.getD i 0) → Q (.ref W'.p) H'
def sp_least_wares : F3 := fun a b c H Q _ => ∃ n l ps ws, WebAt K H a n l ∧ NumL H b n ps ∧ NumL H c n ws ∧ Amt ps ∧ Amt ws ∧ Ans K H Q (leastOf n (tbl l ps ws))
def sp_is_met_by (Lst : Bool) : F4 := fun a b c d H Q _ => ∃ n l ps ws r q, WebAt K H a n l ∧ ExL K H b n ps ∧ ExL K H c n ws ∧ Amt ps ∧ Amt ws ∧ d = .ref q ∧ (if Lst = true then H q = some (.lst (natsV r)) else SqT K H q (natsV r)) ∧ (∀ x ∈ r, x < l.length) ∧ r.length ≤ 16 ∧
  ∀ H', Same H H' → Q (.bl (run (List.range n) (tbl (pickS l r) ps ws))) H'
def sp_fewest_stalls : F3 := fun a b c H Q _ => ∃ n l ps ws, WebAt K H a n l ∧ NumL H b n ps ∧ NumL H c n ws ∧ Amt ps ∧ Amt ws ∧ l.length ≤ 8 ∧ Ans K H Q (fewOf n l ps ws)
def sp_needed : F3 := fun a b c H Q _ => ∃ n l ps ws, WebAt K H a n l ∧ NumL H b n ps ∧ NumL H c n ws ∧ Amt ps ∧ Amt ws ∧ Ans K H Q (needOf n l ps ws)
end
end R25

set_option Elab.async false
set_option linter.all false
set_option maxRecDepth 100000
set_option maxHeartbeats 4000000
namespace R25
open PySem PySem.Spec PyProof.Rows L2
section
variable {P : Program} {w : World} {K : PySem.W.Frag} {mg : Str → Option Value} {base : Heap}
theorem sc_table_of : FnScope ["web", "own", "wished", "slants", "amount", "more", "less"] ["web", "own", "wished"] (defScope s_table_of) := ⟨rfl, rfl, rfl, by decide +kernel, rfl, by decide +kernel, by decide +kernel⟩
theorem ok_table_of (T : Txt K mg) (D_held_exact : Dfn P w K mg base CX0 5 "held_exact" ["web"] (sp1 (sp_held_exact K))) (D_roots_exact : Dfn P w K mg base CX0 5 "roots_exact" ["web"] (sp1 (sp_roots_exact K))) (M_Exact_add : Mtd P w K mg base CX0 4 "Exact" "__add__" ["self", "other"] (sp2 (sp_add K))) (M_Exact_sub : Mtd P w K mg base CX0 4 "Exact" "__sub__" ["self", "other"] (sp2 (sp_sub K))) (K_Table : Mkd P w K mg base CX0 1 "Table" ["self", "slants", "beside"] (sp3 (sp_Table_init K))) : Dfn P w K mg base CX0 6 "table_of" ["web", "own", "wished"] (sp3 (sp_table_of K)) := by
  obtain ⟨fd, F⟩ := T.f_table_of
  refine ⟨T.g_table_of, F.kp, fd, fnok_of F sc_table_of (fun vs H Q E h => ?_) (fun vs H Q E h => ?_), F.binds (ps := ["web", "own", "wished"]) fun _ _ _ _ _ _ us hl => ?_⟩
  · obtain ⟨a1, a2, a3, rfl, _⟩ := h
    rfl
  · obtain ⟨a1, a2, a3, rfl, h⟩ := h
    intro cdv A outer s hr
    refine ⟨_, (pss_cons (ps_set (i := 3) sc_table_of.nd rfl (Or.inl rfl) (pe_lst pa_nil))
      (pss_cons (ps_for PassesOwn.never rfl (pi_zip3 rfl T.b_zip (pa_cons (pe_callD D_held_exact hr (pa_cons (pv 0) pa_nil)) (pa_cons (pv 1) (pa_cons (pv 2) pa_nil)))) (pg_tup rfl (pgs_cons (pg_name (i := 4) sc_table_of.nd rfl (Or.inl rfl)) (pgs_cons (pg_name (i := 5) sc_table_of.nd rfl (Or.inl rfl)) (pgs_cons (pg_name (i := 6) sc_table_of.nd rfl (Or.inl rfl)) pgs_nil)))) (pss_one (ps_expr (pe_bm PySem.F.plainAttrs_list PySem.F.slot_list_append PySem.F.type_list_append mt_append (pv 3) (pa_cons (pe_op (op_ownD T.sf M_Exact_sub hr) (pe_op (op_ownD T.sf M_Exact_add hr) (pv 4) (pv 5)) (pv 6)) pa_nil)))))
      (pss_one (ps_ret (pe_makeD K_Table hr (pa_cons (pv 3) (pa_cons (pe_callD D_roots_exact hr (pa_cons (pv 0) pa_nil)) pa_nil))))))), ?_⟩
    obtain ⟨n, l, ps, ws, hw, ⟨po, vo, rfl, hpo, hvo, heo⟩, ⟨pw, vw, rfl, hpw, hvw, hew⟩, ap, aw, k⟩ := h
    have ok := hw.1
    have n8 := ok.n8
    refine ⟨(by decide), fun p fp => ?_⟩
    have s1 : Same H (upd H p (.lst [])) := Same.new fp
    refine ⟨_, rfl, _, rfl, n, l, hw.up s1, fun ph hs H2 fph s2 hph hlh heh => ⟨_, rfl, _, rfl, _, _, _, hs, vo, vw, rfl, .inl (.inl hph), .inl (.inl (s2 _ _ (s1 _ _ hpo))), .inl (.inl (s2 _ _ (s1 _ _ hpw))), ?_⟩⟩
    have hp2 := s2 _ _ (upd_same : (upd H p (.lst [])) p = some (.lst []))
    have s12 := Same.trans s1 s2
    have okA : ∀ j, Bd D0 (16 * 362880 + 33554432) (heldS l j + ps j) := fun j => ((held_bd ok.ok j).add (ap j).1).mono (Nat.add_le_add_right (Nat.mul_le_mul_right _ ok.l16) _)
    refine for_it (walk_zip3 hlh hvo hvw) (fun i σ H' => ∃ u4 u5 u6 acc, σ = [some a1, some (.ref po), some (.ref pw), some (.ref p), u4, u5, u6] ∧ Same H H' ∧ (∀ y o, H2 y = some o → y ≠ p → H' y = some o) ∧ H' p = some (.lst acc) ∧ acc.length = i ∧ ItE K H' acc (tbl l ps ws).s)
      ⟨_, _, _, [], rfl, s12, fun y o h _ => h, hp2, rfl, fun k y h => by simp at h⟩ (fun i σ H' _ ⟨_, _, _, _, _, _, fr, _⟩ => ⟨.inl (.inl (fr _ _ hph (fun e => by rw [e, upd_same] at fph; cases fph))), .inl (.inl (fr _ _ (s12 _ _ hpo) (fun e => by rw [e, fp] at hpo; cases hpo))), .inl (.inl (fr _ _ (s12 _ _ hpw) (fun e => by rw [e, fp] at hpw; cases hpw)))⟩) ?_ ?_
    · rintro i x σ H3 H4 hi ⟨u4, u5, u6, acc, rfl, s3, fr3, hp3, hl3, he3⟩ ⟨T1, a, b, c, rfl, fT, rfl, ha, hb, hc⟩
      have s4 : Same H3 (upd H3 T1 (.tup [a, b, c])) := Same.new fT
      have kp34 : Keeps H2 (upd H3 T1 (.tup [a, b, c])) := fun y o hy hm => s4 _ _ (fr3 _ _ hy (fun e => by subst e; rw [hp2] at hy; cases hy; cases hm))
      obtain ⟨pa, da, rfl, hpa⟩ := (heh i a ha).keep kp34
      obtain ⟨pb, db, rfl, hpb⟩ := ((heo i b hb).up s12).keep kp34
      obtain ⟨pc, dc, rfl, hpc⟩ := ((hew i c hc).up s12).keep kp34
      refine ⟨_, _, rfl, .inl (.inl upd_same), rfl, _, _, rfl, _, _, rfl, _, _, rfl, rfl, _, rfl, .inl ⟨rfl, _, .inl (.inl (s4 _ _ hp3))⟩, _, rfl, _, rfl, _, _, _, _, _, _, rfl, rfl, hpa, hpb, _, _, rfl, _, _, ⟨_, _, rfl, hpa⟩, ⟨_, _, rfl, hpb⟩, (ok_held ok.ok ok.l16 i), ((ap i).1.ok0 (by decide)), fun vs H5 s5 ⟨px, dx, ex, hpx⟩ => ?_⟩
      subst ex
      refine ⟨_, rfl, _, _, _, _, _, _, rfl, rfl, hpx, (s5 _ _ hpc), _, _, rfl, _, _, ⟨_, _, rfl, hpx⟩, ⟨_, _, rfl, (s5 _ _ hpc)⟩, ((okA i).ok0 (by decide)), ((aw i).1.ok0 (by decide)), fun vd H6 s6 hd => ?_⟩
      have s36 := Same.trans s4 (Same.trans s5 s6)
      have hp6 := s36 _ _ hp3
      have kp := Keeps.upd (o := .lst (acc ++ [vd])) hp6 rfl
      refine ⟨p, acc, vd, rfl, rfl, hp6, Nat.lt_of_lt_of_le (show acc.length < 9 by omega) (by decide), _, _, _, _, rfl, Same.mut (Same.trans s3 s36) fp, fun y o hy hne => by rw [upd_ne hne]; exact s36 _ _ (fr3 _ _ hy hne), upd_same, by simp [hl3], fun kk y hy => ?_⟩
      by_cases hlt : kk < acc.length
      · rw [List.getElem?_append_left hlt] at hy
        exact ((he3 kk y hy).up s36).keep kp
      · have hk' : kk = acc.length := by
          have := (List.getElem?_eq_some_iff.mp hy).1
          simp at this
          omega
        subst hk'
        simp at hy
        subst hy
        rw [hl3]
        exact hd.keep kp
    · rintro σ H3 ⟨u4, u5, u6, acc, rfl, s3, fr3, hp3, hl3, he3⟩
      refine ⟨_, rfl, _, rfl, _, rfl, n, l, hw.up s3, fun pr rl H4 fpr frl s4 hpr hrl hrows => ?_⟩
      intro x dx nx ndx hne
      have hp4 := s4 _ _ hp3
      have sX : Same H4 (upd (upd H4 dx (.own x)) x (.ins (CTb K) dx [])) := Same.trans (Same.new ndx) (Same.new (by rw [upd_ne (fun e => hne e.symm)]; exact nx))
      refine ⟨_, _, _, rfl, x, dx, p, pr, acc, rl, n, (tbl l ps ws).s, _, _, rfl, upd_same, rfl, sX _ _ hp4, hl3, (he3.keep (Keeps.of s4)).keep (Keeps.of sX), rfl, sX _ _ hpr, hrl, n8, hrows.up sX, fun W H' e1 e2 fa fb fc fr kk tb hg => ⟨rfl, ?_⟩⟩
      subst e1
      have sH4 : Same H4 H' := fun y o hy => kk y o (sX _ _ hy) (ne_of_none hy nx)
      have s34 := Same.trans s3 s4
      have fX : ∀ y, (upd (upd H4 dx (.own W.p)) W.p (.ins (CTb K) dx [])) y = none → H y = none := fun y hy => Same.free (Same.trans s34 sX) hy
      exact k W H' (Same.trans s34 sH4) ⟨fX _ fa, fX _ fb, fX _ fc, fun r hr => fX r (fr r hr)⟩ ⟨tb, hg, fit_web ok ap aw⟩
  · obtain ⟨u1, u2, u3, rfl⟩ := three3 hl
    rfl
theorem sc_scales_of : FnScope ["web", "own", "wished", "table", "found", "ware"] ["web", "own", "wished"] (defScope s_scales_of) := ⟨rfl, rfl, rfl, by decide +kernel, rfl, by decide +kernel, by decide +kernel⟩
theorem ok_scales_of (T : Txt K mg) (D_table_of : Dfn P w K mg base CX0 6 "table_of" ["web", "own", "wished"] (sp3 (sp_table_of K))) (M_Table_strike_all : Mtd P w K mg base CX0 7 "Table" "strike_all" ["self", "wares"] (sp2 (sp_strike_all K))) (M_Table_go_back : Mtd P w K mg base CX0 5 "Table" "go_back" ["self", "found", "untied"] (sp3 (sp_go_back K))) (K_Exact : Mkd P w K mg base CX0 2 "Exact" ["self", "top", "bottom"] (sp3 (sp_Exact_init K))) : Dfn P w K mg base CX0 8 "scales_of" ["web", "own", "wished"] (sp3 (sp_scales_of K)) := by
  obtain ⟨fd, F⟩ := T.f_scales_of
  refine ⟨T.g_scales_of, F.kp, fd, fnok_of F sc_scales_of (fun vs H Q E h => ?_) (fun vs H Q E h => ?_), F.binds (ps := ["web", "own", "wished"]) fun _ _ _ _ _ _ us hl => ?_⟩
  · obtain ⟨a1, a2, a3, rfl, _⟩ := h
    rfl
  · obtain ⟨a1, a2, a3, rfl, h⟩ := h
    intro cdv A outer s hr
    refine ⟨_, (pss_cons (ps_set (i := 3) sc_scales_of.nd rfl (Or.inl rfl) (pe_callD D_table_of hr (pa_cons (pv 0) (pa_cons (pv 1) (pa_cons (pv 2) pa_nil)))))
      (pss_cons (ps_if (pt_cmpR op_notN (pe_methD M_Table_strike_all hr (pv 3) (pa_cons (pe_listRg rfl rfl T.b_list (prg_1 rfl T.b_range (pe_fld (pv 0) rfl))) pa_nil)) pe_non (nomark _)) (pss_one (ps_ret pe_non)) pss_nil)
      (pss_cons (ps_set (i := 4) sc_scales_of.nd rfl (Or.inr rfl) (pe_methD M_Table_go_back hr (pv 3) (pa_cons pe_dnewK (pa_cons (pe_makeD K_Exact hr (pa_cons pe_int (pa_cons pe_int pa_nil))) pa_nil))))
      (pss_one (ps_ret (pe_lc (own := [("ware", 5)]) (g := gName 5) rfl sc_scales_of.nd (pi_range1 rfl T.b_range (pa_cons (pe_fld (pv 0) rfl) pa_nil)) (blkOk_by (N := ["web", "own", "wished", "table", "found", "ware"]) (sc := defScope s_scales_of) (by decide +kernel)) (fun _ _ _ _ _ => (pg_name (i := 5) sc_scales_of.nd rfl (Or.inl rfl))) (fun _ _ _ _ _ => pts_nil) (fun _ _ _ _ _ => (pe_dget (hu_of hr) (pv 4) (pv 5) (fun _ _ => rfl))))))))), ?_⟩
    obtain ⟨n, l, ps, ws, hw, ho, hwi, ap, aw, k1, k2⟩ := h
    have ok := hw.1
    have n8 := ok.n8
    obtain ⟨po, vo, rfl, hpo, hvo, heo⟩ := ho
    obtain ⟨pw, vw, rfl, hpw, hvw, hew⟩ := hwi
    refine ⟨_, rfl, _, rfl, _, rfl, _, _, _, rfl, n, l, ps, ws, hw, ⟨_, _, rfl, hpo, hvo, heo⟩, ⟨_, _, rfl, hpw, hvw, hew⟩, ap, aw, fun W H1 s1 fw st1 => ?_⟩
    obtain ⟨_, wp, wdx, wq, wvs, rfl, hwp, hwq, hws⟩ := hw
    refine ⟨_, rfl, _, _, _, rfl, st1.1.ins, tF_no _ _ _ (sne (by decide +kernel)) (sne (by decide +kernel)) (sne (by decide +kernel)), _, rfl, _, _, _, _, _, rfl, (s1 _ _ hwp), T.c_Web, T.n_wares, (wF_wares n wq), _, rfl, RgOk.of_le (by omega) (by omega) (by omega) (by omega), fun q fq => ?_⟩
    have e : rgV 0 (n : Int) = natsV (List.range n) := by
      unfold rgV natsV
      refine List.map_congr_left fun i _ => ?_
      simp
    rw [e]
    have s2 := Same.new (o := .lst (natsV (List.range n))) fq
    refine ⟨_, _, rfl, W, n, q, tbl l ps ws, rfl, rfl, st1.up s2, upd_same, ?_, ?_, ?_, fun H3 fr => ⟨fun hr t3 g3 hb => ⟨rfl, _, rfl, iteN rfl ?_⟩, fun hr i => ⟨rfl, _, rfl, iteP rfl ?_⟩⟩⟩
    · rintro rfl
      obtain ⟨L2, h2, _⟩ := st1.1.sl
      rw [h2] at fq
      cases fq
    · rintro rfl
      obtain ⟨L2, h2, _⟩ := st1.1.bs
      rw [h2] at fq
      cases fq
    · rintro rfl
      obtain ⟨L2, h2⟩ := st1.1.cs
      rw [h2] at fq
      cases fq
    · have s3 : Same H H3 := fw.same (Same.trans s1 s2) fr
      refine ⟨_, rfl, _, _, _, rfl, t3.ins, tF_no _ _ _ (sne (by decide +kernel)) (sne (by decide +kernel)) (sne (by decide +kernel)), fun fp ffp => ?_⟩
      have s4 : Same H3 (upd H3 fp (.dK [])) := Same.new ffp
      refine fun x dx nx ndx hne => ⟨_, _, _, rfl, x, dx, 1, 1, rfl, upd_same, rfl, rfl, by decide, big1, big1, fun H5 em kk => ⟨rfl, ?_⟩⟩
      obtain ⟨s5, hz⟩ := made_E (q' := 1) nx ndx em rfl kk
      clear em kk nx ndx hne
      have s35 := Same.trans s4 s5
      refine ⟨_, _, _, rfl, W, n, tbl l ps ws, fp, rfl, s35 _ _ t3.ins, g3.up s35, fit_web ok ap aw, hb, rfl, s5 _ _ upd_same, fun e => ?_, hz, fun H6 kvs f fr6 hf6 row6 => ?_⟩
      · obtain ⟨z, hz⟩ := t3.dk _ e
        rw [hz] at ffp
        cases ffp
      · have s6 : Same H H6 := fun y o hy => fr6 _ _ (s35 _ _ (s3 _ _ hy)) (fun e => by rw [← e, s3 _ _ hy] at ffp; cases ffp)
        refine ⟨_, rfl, _, _, _, _, _, rfl, (s6 _ _ hwp), T.c_Web, T.n_wares, (wF_wares n wq), _, rfl, by omega, by omega, fun D fD => ?_⟩
        refine lcm_range (n := n) (fun _ H7 => Same H6 H7) (fun k y H => IsE K H y (f k)) (Nat.lt_of_le_of_lt n8 (by decide)) (fun _ _ _ _ s h => h.keep s) (Same.new fD) (fun _ _ _ _ s _ => Same.mut s fD) ?_ ?_
        · rintro i H7 acc hi s7 hD hl C hC
          obtain ⟨v, hget, hv⟩ := (row6.keep (Keeps.of s7)).get (s7 _ _ hf6) (j := i) hi
          rw [Int.zero_add]
          exact ⟨rfl, _, rfl, _, rfl, _, _, rfl, hget, hC v H7 hD Keeps.rfl' s7 hv⟩
        · rintro H7 acc s7 hD hl hR
          exact k1 hr D acc f H7 (Same.free s6 fD) (Same.trans s6 s7) hD hl hR
    · exact k2 hr H3 (fw.same (Same.trans s1 s2) fr)
  · obtain ⟨u1, u2, u3, rfl⟩ := three3 hl
    rfl
theorem sc_scales : FnScope ["web", "purse", "wish", "found", "scale"] ["web", "purse", "wish"] (defScope s_scales) := ⟨rfl, rfl, rfl, by decide +kernel, rfl, by decide +kernel, by decide +kernel⟩
theorem ok_scales (T : Txt K mg) (D_scales_of : Dfn P w K mg base CX0 8 "scales_of" ["web", "own", "wished"] (sp3 (sp_scales_of K))) (D_check_purse : Dfn P w K mg base CX0 5 "check_purse" ["web", "purse"] (sp2 (sp_check K))) (D_check_wish : Dfn P w K mg base CX0 5 "check_wish" ["web", "wish"] (sp2 (sp_check K))) (M_Exact_pair : Mtd P w K mg base CX0 1 "Exact" "pair" ["self"] (sp1 (sp_pair K))) : Dfn P w K mg base CX0 9 "scales" ["web", "purse", "wish"] (sp3 (sp_scales K)) := by
  obtain ⟨fd, F⟩ := T.f_scales
  refine ⟨T.g_scales, F.kp, fd, fnok_of F sc_scales (fun vs H Q E h => ?_) (fun vs H Q E h => ?_), F.binds (ps := ["web", "purse", "wish"]) fun _ _ _ _ _ _ us hl => ?_⟩
  · obtain ⟨a1, a2, a3, rfl, _⟩ := h
    rfl
  · obtain ⟨a1, a2, a3, rfl, h⟩ := h
    intro cdv A outer s hr
    refine ⟨_, (pss_cons (ps_set (i := 3) sc_scales.nd rfl (Or.inl rfl) (pe_callD D_scales_of hr (pa_cons (pv 0) (pa_cons (pe_callD D_check_purse hr (pa_cons (pv 0) (pa_cons (pv 1) pa_nil))) (pa_cons (pe_callD D_check_wish hr (pa_cons (pv 0) (pa_cons (pv 2) pa_nil))) pa_nil)))))
      (pss_one (ps_ret (pe_ifExp (pt_cmpR op_isN (pv 3) pe_non (nomark _)) pe_non (pe_callTy call_tuple_of (by rfl) T.b_tuple (by decide +kernel) (pa_cons (pe_lc (own := [("scale", 4)]) (g := gName 4) rfl sc_scales.nd (pi_list (pv 3)) (blkOk_by (N := ["web", "purse", "wish", "found", "scale"]) (sc := defScope s_scales) (by decide +kernel)) (fun _ _ _ _ _ => (pg_name (i := 4) sc_scales.nd rfl (Or.inl rfl))) (fun _ _ _ _ _ => pts_nil) (fun _ _ _ _ _ => (pe_methD0 M_Exact_pair hr (pv 4)))) pa_nil)))))), ?_⟩
    obtain ⟨n, l, ps, ws, hw, hp, hwi, ap, aw, k1, k2⟩ := h
    refine ⟨_, rfl, _, rfl, _, rfl, _, _, rfl, n, l, ps, hw, hp, ap, fun p1 v1 H1 f1 s1 h1 l1 e1 => ⟨_, rfl, _, rfl, _, _, rfl, n, l, ws, hw.up s1, hwi.up s1, aw, fun p2 v2 H2 f2 s2 h2 l2 e2 => ?_⟩⟩
    have s12 := Same.trans s1 s2
    refine ⟨_, _, _, rfl, n, l, ps, ws, hw.up s12, ⟨p1, v1, rfl, s2 _ _ h1, l1, e1.keep (Keeps.of s2)⟩, ⟨p2, v2, rfl, h2, l2, e2⟩, ap, aw, fun hr p3 v3 f H3 f3 s3 h3 l3 e3 => ?_, fun hr H3 s3 => ?_⟩
    · have s13 := Same.trans s12 s3
      refine ⟨_, rfl, rfl, _, rfl, iteN rfl ⟨_, rfl, _, rfl, ⟨_, .inl (.inl h3)⟩, fun D fD => ?_⟩⟩
      refine lcm_list (xs := v3) (fun _ H2 => Same H3 H2) (fun k y H => True) (by rw [l3]; exact Nat.lt_of_le_of_lt hw.1.n8 (by decide)) (fun _ _ _ _ s h => h) (Same.new fD) (fun _ _ _ s2 => .inl (.inl (s2 _ _ h3))) (fun _ _ _ _ s _ => Same.mut s fD) ?_ ?_
      · rintro i x H4 acc hx s4 hD hl C hC
        obtain ⟨px, dx, rfl, hpx⟩ := (e3 i x hx).up s4
        exact ⟨rfl, _, rfl, _, _, _, rfl, hpx, eF_no _ (sne (by decide +kernel)) (sne (by decide +kernel)), _, rfl, _, ⟨_, _, rfl, hpx⟩, fun v H5 s5 h5 => hC v H5 (s5 _ _ hD) (Keeps.of s5) (Same.trans s4 s5) trivial⟩
      · rintro H4 acc s4 hD hl hR
        exact ⟨_, acc, rfl, .inl ⟨.inl (.inl hD), fun l fl => k1 hr l _ (Same.trans s13 (Same.trans s4 (Same.new fl)))⟩⟩
    · exact ⟨_, rfl, rfl, _, rfl, iteP rfl (k2 hr H3 (Same.trans s12 s3))⟩
  · obtain ⟨u1, u2, u3, rfl⟩ := three3 hl
    rfl
end
end R25

set_option Elab.async false
set_option linter.all false
set_option maxRecDepth 100000
set_option maxHeartbeats 4000000
namespace R25
open PySem PySem.Spec PyProof.Rows L2
section
variable {J : It} {n : Nat} {G : Hp → Prop} {Y : Nat → Hp → V → Hp → Prop}
/-- a dict comprehension over a walk -/
theorem dc_it (w : Walk J n G Y) {g : L2.TG} {tt : TT} {tk tv : TE} {vs : List Nat} {σ : L2.St} {H1 : Hp} {D : Addr} {Qd : Hp → Prop} (Pv : Nat → Hp → Prop) (h0 : Pv 0 (upd H1 D (.dK []))) (hG : ∀ i H, i ≤ n → Pv i H → G H)
    (hs : ∀ i x H H', i < n → Pv i H → Y i H x H' → g x (wipe σ vs) H' fun σ2 H2 => wipe σ2 vs = wipe σ vs ∧ tt σ2 H2 fun b H3 =>
      if b = true then tk σ2 H3 fun y H4 => tv σ2 H4 fun z H5 => ∃ kvs k, y = kV k ∧ H5 D = some (.dK kvs) ∧ kvs.length < sizeLine ∧ Pv (i + 1) (upd H5 D (.dK (putK kvs k z))) else Pv (i + 1) H3) (hd : ∀ H, Pv n H → Qd H) :
    ∃ W : Nat → Nat → Hp → Prop, (∃ m, W 0 m (upd H1 D (.dK []))) ∧ ∀ i m H, W i m H →
      (J.stop i H ∧ Qd H) ∨ (J.go i H ∧ ∃ Nx : Hp → Prop, (∀ H', Nx H' → ∃ m', m' < m ∧ W (i + 1) m' H') ∧ ∀ x H', J.yld i H x H' → g x (wipe σ vs) H' fun σ2 H2 => wipe σ2 vs = wipe σ vs ∧ tt σ2 H2 fun b H3 =>
        if b = true then tk σ2 H3 fun y H4 => tv σ2 H4 fun z H5 => ∃ kvs k, y = kV k ∧ H5 D = some (.dK kvs) ∧ kvs.length < sizeLine ∧ Nx (upd H5 D (.dK (putK kvs k z))) else Nx H3) := by
  refine ⟨fun i m H => m = n - i ∧ i ≤ n ∧ Pv i H, ⟨n, by simp, Nat.zero_le _, h0⟩, ?_⟩
  rintro i m H ⟨rfl, hi, p⟩
  have q := hG i H hi p
  by_cases hlt : i < n
  · refine .inr ⟨w.goes i H hlt q, Pv (i + 1), fun H' p' => ⟨n - (i + 1), by omega, rfl, hlt, p'⟩, fun x H' y => hs i x H H' hlt p (w.yields i H x H' hlt q y)⟩
  · have e : i = n := by omega
    subst e
    exact .inl ⟨w.stops H q, hd H p⟩
end
/-! ### rules within a comprehension: the written part by name -/
section
variable {X : Cx} {K : PySem.W.Frag}
theorem ix_listK (hK : X.K = K := by rfl) : IxR X (rIxL K) := by
  subst hK
  exact ix_list
theorem ix_tupK (hK : X.K = K := by rfl) : IxR X (rIxT K) := by
  subst hK
  exact ix_tup
theorem call_lenK (hK : X.K = K := by rfl) : CallR X (.builtin "len") (fun xs H Q => ∃ p ys, xs = [.ref p] ∧ (SqL K H p ys ∨ SqT K H p ys) ∧ Q (.int ys.length) H) := by
  subst hK
  exact call_len_seq
theorem op_catAK (hK : X.K = K := by rfl) : OpR X (binaryOp .Add) (rCatA K) := by
  subst hK
  exact op_catA
theorem call_isiA (hK : X.K = K := by rfl) : CallR X (.builtin "isinstance") (rIsi K) := by
  subst hK
  exact call_isi
theorem call_listK (hK : X.K = K := by rfl) : CallR X (.type "list") (fun xs H Q => ∃ p ys, xs = [.ref p] ∧ (SqL K H p ys ∨ SqT K H p ys) ∧ ∀ l, H l = none → Q (.ref l) (upd H l (.lst ys))) := by
  subst hK
  exact call_list_of
theorem cr_maxTK {k : Nat} (hr : Room k X.A) (hK : X.K = K := by rfl) : CallR X (.builtin "max") (rMaxT K) := by
  subst hK
  exact cr_maxT hr
theorem sl_listK (hK : X.K = K := by rfl) : SlR X (rSlL K) := by
  subst hK
  exact sl_list
theorem op_inDK (hu : X.A.units + 65 < cLine) (hK : X.K = K := by rfl) : OpR X (compareOp .In) (rInD K) := by
  subst hK
  exact op_inD hu
theorem pe_fldK {a : Expr} {ta : TE} {f : Str} {pos : Pos} (ha : PE X a ta) (hb : attributeBase a f X.env (eval a X.env) = eval a X.env) (hK : X.K = K := by rfl) : PE X (.Attribute a f pos) (tFld K ta f) := by
  subst hK
  exact pe_fld ha hb
end
/-! ### pairs of lists, by number -/
theorem paired_of {α β : Type} {F : α → β → Prop} : ∀ {xs : List α} {ys : List β}, xs.length = ys.length → (∀ (k : Nat) (x : α), xs[k]? = some x → ∃ y, ys[k]? = some y ∧ F x y) → Paired F xs ys
  | [], [], _, _ => .nil
  | [], _ :: _, h, _ => by cases h
  | _ :: _, [], h, _ => by cases h
  | x :: xs, y :: ys, h, hf => by
    obtain ⟨y', e, f⟩ := hf 0 x rfl
    cases e
    exact .cons f (paired_of (by simpa using h) fun k x e => hf (k + 1) x (by simpa using e))
theorem paired_at {α β : Type} {F : α → β → Prop} : ∀ {xs : List α} {ys : List β}, Paired F xs ys → ∀ (k : Nat) (x : α), xs[k]? = some x → ∃ y, ys[k]? = some y ∧ F x y
  | _, _, .nil, k, x, h => by simp at h
  | _, _, .cons f t, 0, x, h => by cases h; exact ⟨_, rfl, f⟩
  | _, _, .cons f t, k + 1, x, h => by
    obtain ⟨y, a, b⟩ := paired_at t k x (by simpa using h)
    exact ⟨y, by simpa using a, b⟩
theorem IsRowP.keep {K : PySem.W.Frag} {H H' : Hp} {v : V} {r : List Nat} (s : Keeps H H') (h : IsRowP K H v r) : IsRowP K H' v r := let ⟨p, q, e, a, b⟩ := h; ⟨p, q, e, SqT.keep s a, SqT.keep s b⟩
theorem paired_mono {α β : Type} {F G : α → β → Prop} (h : ∀ a b, F a b → G a b) : ∀ {xs : List α} {ys : List β}, Paired F xs ys → Paired G xs ys
  | _, _, .nil => .nil
  | _, _, .cons f t => .cons (h _ _ f) (paired_mono h t)
/-! ### the first that .. -/
theorem find_at {α : Type} {l : List α} {p : α → Bool} {i : Nat} {r : α} (h : l[i]? = some r) (hp : p r = true) (hn : ∀ (j : Nat) (r' : α), j < i → l[j]? = some r' → p r' = false) : l.find? p = some r := by
  induction l generalizing i with
  | nil => simp at h
  | cons x l ih =>
    cases i with
    | zero => cases h; exact List.find?_cons_of_pos hp
    | succ i =>
      have h0 := hn 0 x (by omega) rfl
      rw [List.find?_cons_of_neg (by simp [h0])]
      exact ih (by simpa using h) fun j r' hj e => hn (j + 1) r' (by omega) (by simpa using e)
theorem find_no {α : Type} {l : List α} {p : α → Bool} (hn : ∀ (j : Nat) (r' : α), l[j]? = some r' → p r' = false) : l.find? p = none := by
  rw [List.find?_eq_none]
  intro x hx
  obtain ⟨i, hi, e⟩ := List.getElem_of_mem hx
  have := hn i x (by rw [List.getElem?_eq_getElem hi, e])
  simp [this]
theorem getD_at {r : List Nat} {i u : Nat} (h : r[i]? = some u) : r.getD i 0 = u := by
  rw [List.getD_eq_getElem?_getD, h]
  rfl
theorem range_filter_snoc (p : Nat → Bool) (i : Nat) : (List.range (i + 1)).filter p = (List.range i).filter p ++ if p i = true then [i] else [] := by
  rw [List.range_succ, List.filter_append]
  congr 1
  by_cases h : p i = true
  · simp [h]
  · simp [h]
theorem natsV_snoc (l : List Nat) (i : Nat) : natsV (l ++ [i]) = natsV l ++ [V.int (i : Int)] := by unfold natsV; rw [List.map_append]; rfl
end R25

set_option Elab.async false
set_option linter.all false
set_option maxRecDepth 100000
set_option maxHeartbeats 4000000
namespace R25
open PySem PySem.Spec PyProof.Rows L2
section
variable {P : Program} {w : World} {K : PySem.W.Frag} {mg : Str → Option Value} {base : Heap}
theorem sc_all_tuples : FnScope ["many", "found", "number", "size", "row"] ["many"] (defScope s_all_tuples) := ⟨rfl, rfl, rfl, by decide +kernel, rfl, by decide +kernel, by decide +kernel⟩
theorem ok_all_tuples (T : Txt K mg)  : Dfn P w K mg base CX0 1 "all_tuples" ["many"] (sp1 (sp_all_tuples K)) := by
  obtain ⟨fd, F⟩ := T.f_all_tuples
  refine ⟨T.g_all_tuples, F.kp, fd, fnok_of F sc_all_tuples (fun vs H Q E h => ?_) (fun vs H Q E h => ?_), F.binds (ps := ["many"]) fun _ _ _ _ _ _ us hl => ?_⟩
  · obtain ⟨a1, rfl, _⟩ := h
    rfl
  · obtain ⟨a1, rfl, h⟩ := h
    intro cdv A outer s hr
    refine ⟨_, (pss_cons (ps_set (i := 1) sc_all_tuples.nd rfl (Or.inl rfl) (pe_lst (pa_cons (pe_tup pa_nil) pa_nil)))
      (pss_cons (ps_for PassesOwn.never rfl (pi_range1 rfl T.b_range (pa_cons (pv 0) pa_nil)) (pg_name (i := 2) sc_all_tuples.nd rfl (Or.inr rfl)) (pss_one (ps_set (i := 1) sc_all_tuples.nd rfl (Or.inl rfl) (pe_op op_cat (pv 1) (pe_lc (own := [("row", 4)]) (g := gName 4) rfl sc_all_tuples.nd (pi_list (pv 1)) (blkOk_by (N := ["many", "found", "number", "size", "row"]) (sc := defScope s_all_tuples) (by decide +kernel)) (fun _ _ _ _ _ => (pg_name (i := 4) sc_all_tuples.nd rfl (Or.inl rfl))) (fun _ _ _ _ _ => pts_nil) (fun _ _ _ _ _ => (pe_op (op_catAK (K := K)) (pv 4) (pe_tup (pa_cons (pv 2) pa_nil)))))))))
      (pss_one (ps_ret (pe_lc (own := [("size", 3), ("row", 4)]) (g := gTup K 2 (gCons (gName 3) (gCons (gName 4) gNil))) rfl sc_all_tuples.nd (pi_list (pe_callB (cr_sortR hr) (by rfl) T.b_sorted (by decide +kernel) (pa_cons (pe_lc (own := [("row", 4)]) (g := gName 4) rfl sc_all_tuples.nd (pi_list (pv 1)) (blkOk_by (N := ["many", "found", "number", "size", "row"]) (sc := defScope s_all_tuples) (by decide +kernel)) (fun _ _ _ _ _ => (pg_name (i := 4) sc_all_tuples.nd rfl (Or.inl rfl))) (fun _ _ _ _ _ => pts_nil) (fun _ _ _ _ _ => (pe_tup (pa_cons (pe_callB (call_lenK (K := K)) (by rfl) T.b_len (by decide +kernel) (pa_cons (pv 4) pa_nil)) (pa_cons (pv 4) pa_nil))))) pa_nil))) (blkOk_by (N := ["many", "found", "number", "size", "row"]) (sc := defScope s_all_tuples) (by decide +kernel)) (fun _ _ _ _ _ => (pg_tup rfl (pgs_cons (pg_name (i := 3) sc_all_tuples.nd rfl (Or.inl rfl)) (pgs_cons (pg_name (i := 4) sc_all_tuples.nd rfl (Or.inl rfl)) pgs_nil)))) (fun _ _ _ _ _ => pts_nil) (fun _ _ _ _ _ => (pv 4))))))), ?_⟩
    obtain ⟨n, rfl, n8, k⟩ := h
    refine ⟨(by decide), fun t0 ft0 => ⟨(by show 1 ≤ sizeLine; decide), fun p0 fp0 => ⟨_, rfl, _, rfl, by omega, by omega, ?_⟩⟩⟩
    have sA : Same H (upd (upd H t0 (.tup [])) p0 (.lst [.ref t0])) := Same.trans (Same.new ft0) (Same.new fp0)
    have szn : ∀ i, i ≤ n → (subs i).length ≤ 256 := fun i hi => by
      rw [subs_len]
      exact Nat.pow_le_pow_right (by decide) (show i ≤ 8 by omega)
    refine for_range (fun i σ H' => ∃ fp vs u2 u3 u4, σ = [some (.int n), some (.ref fp), u2, u3, u4] ∧ Same H H' ∧ H' fp = some (.lst vs) ∧ ItT K H' vs (subs i)) ⟨p0, _, _, _, _, rfl, sA, upd_same, rfl, fun k y hk => ?_⟩ ?_ ?_
    · cases k with
      | zero =>
        cases hk
        exact ⟨[], rfl, t0, rfl, .inl (.inl (Same.new fp0 _ _ upd_same))⟩
      | succ k => simp at hk
    · rintro i σ H1 hi ⟨fp, vs, u2, u3, u4, rfl, s1, hf, ht⟩
      have hi : i < n := by simpa using hi
      have hvl : vs.length ≤ 256 := by rw [ht.1]; exact szn i (by omega)
      refine ⟨_, rfl, _, rfl, _, rfl, ⟨_, .inl (.inl hf)⟩, fun D fD => ?_⟩
      refine lcm_list (xs := vs) (fun _ H' => Same H1 H') (fun k y H => ∃ r, (subs i)[k]? = some r ∧ IsT K H y (r ++ [i])) (Nat.lt_of_le_of_lt hvl (by decide)) (fun _ _ _ _ s ⟨r, a, b⟩ => ⟨r, a, b.keep s⟩) (Same.new fD) (fun _ _ _ s => .inl (.inl (s _ _ hf))) (fun _ _ _ _ s _ => Same.mut s fD) ?_ ?_
      · rintro j x H2 acc hx s2 hD hl C hC
        obtain ⟨r, hr', q, rfl, hq⟩ := ht.2 j x hx
        rw [Int.zero_add]
        refine ⟨rfl, _, rfl, _, rfl, (by show 1 ≤ sizeLine; decide), fun t ft => ⟨q, t, natsV r, [.int (i : Int)], rfl, rfl, SqT.keep (Keeps.of (Same.trans s2 (Same.new ft))) hq, .inl (.inl upd_same), ?_, fun e => ?_, fun _ e => absurd e (by simp), fun _ _ t2 ft2 => ?_⟩⟩
        · obtain ⟨rn, rb⟩ := subs_mem i r (List.mem_of_getElem? hr')
          have := nodup_len i r rn rb
          rw [natsV_len]
          exact Nat.le_trans (show r.length + 1 ≤ 9 by omega) (by decide)
        · have e0 : r = [] := by
            unfold natsV at e
            exact List.map_eq_nil_iff.mp e
          subst e0
          have st := Same.new (o := .tup [.int (i : Int)]) ft
          exact hC _ _ (st _ _ hD) (Keeps.of st) (Same.trans s2 st) ⟨[], hr', t, rfl, .inl (.inl upd_same)⟩
        · have st := Same.trans (Same.new (o := .tup [.int (i : Int)]) ft) (Same.new (o := .tup (natsV r ++ [.int (i : Int)])) ft2)
          exact hC _ _ (st _ _ hD) (Keeps.of st) (Same.trans s2 st) ⟨r, hr', t2, rfl, .inl (.inl (by rw [natsV_snoc]; exact upd_same))⟩
      · rintro H2 acc s2 hD hl hR
        refine ⟨_, _, vs, acc, rfl, rfl, s2 _ _ hf, hD, Nat.le_trans (show vs.length + acc.length ≤ 512 by omega) (by decide), fun p fp2 => ⟨p, _, _, _, _, rfl, Same.trans s1 (Same.trans s2 (Same.new fp2)), upd_same, ?_⟩⟩
        have s3 := Same.new (o := .lst (vs ++ acc)) fp2
        refine ⟨by rw [List.length_append, hl, subs, List.length_append, List.length_map, ht.1], fun k y hy => ?_⟩
        by_cases hk : k < vs.length
        · rw [List.getElem?_append_left hk] at hy
          obtain ⟨r, a, b⟩ := ht.2 k y hy
          exact ⟨r, by rw [subs, List.getElem?_append_left (by rw [← ht.1]; exact hk)]; exact a, b.keep (Keeps.of (Same.trans s2 s3))⟩
        · rw [List.getElem?_append_right (by omega)] at hy
          obtain ⟨r, a, b⟩ := hR _ _ hy
          refine ⟨r ++ [i], ?_, b.keep (Keeps.of s3)⟩
          rw [subs, List.getElem?_append_right (by rw [← ht.1]; omega), List.getElem?_map, ← ht.1, a]
          rfl
    · rintro σ H1 ⟨fp, vs, u2, u3, u4, rfl, s1, hf, ht⟩
      have ht : ItT K H1 vs (subs n) := by simpa using ht
      have hvl : vs.length ≤ 256 := by rw [ht.1]; exact szn n (Nat.le_refl _)
      refine ⟨_, rfl, _, rfl, ⟨_, .inl (.inl hf)⟩, fun D fD => ?_⟩
      refine lcm_list (xs := vs) (fun _ H' => Same H1 H') (fun k y H => ∃ r, (subs n)[k]? = some r ∧ IsRowP K H y r) (Nat.lt_of_le_of_lt hvl (by decide)) (fun _ _ _ _ s ⟨r, a, b⟩ => ⟨r, a, b.keep s⟩) (Same.new fD) (fun _ _ _ s => .inl (.inl (s _ _ hf))) (fun _ _ _ _ s _ => Same.mut s fD) ?_ ?_
      · rintro j x H2 acc hx s2 hD hl C hC
        obtain ⟨r, hr', q, rfl, hq⟩ := ht.2 j x hx
        have hq2 := SqT.keep (Keeps.of s2) hq
        refine ⟨rfl, _, rfl, _, _, rfl, .inr hq2, _, rfl, (by show 2 ≤ sizeLine; decide), fun t ft => ?_⟩
        have st := Same.new (o := .tup [.int ((natsV r).length : Int), .ref q]) ft
        exact hC _ _ (st _ _ hD) (Keeps.of st) (Same.trans s2 st) ⟨r, hr', t, q, rfl, .inl (.inl (by rw [upd_same, natsV_len])), SqT.keep (Keeps.of st) hq2⟩
      · rintro H2 acc s2 hD hl hR
        refine ⟨D, acc, subs n, rfl, .inl (.inl hD), paired_of (by rw [hl, ht.1]) hR, fun p ys fp2 hp => ?_⟩
        have s3 := Same.new (o := .lst ys) fp2
        have hyl : ys.length = (alls n).length := hp.length
        have hya : ys.length ≤ 256 := by rw [hyl, alls_len, ← subs_len]; exact szn n (Nat.le_refl _)
        refine ⟨_, rfl, ⟨_, .inl (.inl upd_same)⟩, fun D2 fD2 => ?_⟩
        refine lcm_list (xs := ys) (fun _ H' => Same (upd H2 p (.lst ys)) H') (fun k y H => ∃ r, (alls n)[k]? = some r ∧ IsT K H y r) (Nat.lt_of_le_of_lt hya (by decide)) (fun _ _ _ _ s ⟨r, a, b⟩ => ⟨r, a, b.keep s⟩) (Same.new fD2) (fun _ _ _ s => .inl (.inl (s _ _ upd_same))) (fun _ _ _ _ s _ => Same.mut s fD2) ?_ ?_
        · rintro j x H4 acc2 hx s4 hD4 hl4 C hC
          obtain ⟨r, hr', pr, q, rfl, hpr, hq⟩ := paired_at hp j x hx
          have kp := Keeps.of (Same.trans s3 s4)
          exact ⟨_, _, rfl, SqT.keep kp hpr, rfl, _, _, rfl, _, _, rfl, rfl, rfl, _, rfl, hC _ _ hD4 Keeps.rfl' s4 ⟨r, hr', q, rfl, SqT.keep kp hq⟩⟩
        · rintro H4 acc2 s4 hD4 hl4 hR4
          have sA := Same.trans s1 (Same.trans s2 s3)
          exact k D2 acc2 H4 (Same.free sA fD2) (Same.trans sA s4) hD4 ⟨by rw [hl4, hyl], hR4⟩
  · obtain ⟨u1, rfl⟩ := one1 hl
    rfl
theorem sc_table_among : FnScope ["table", "wares", "beside", "ware", "row", "at", "other"] ["table", "wares"] (defScope s_table_among) := ⟨rfl, rfl, rfl, by decide +kernel, rfl, by decide +kernel, by decide +kernel⟩
theorem ok_table_among (T : Txt K mg) (K_Table : Mkd P w K mg base CX0 1 "Table" ["self", "slants", "beside"] (sp3 (sp_Table_init K))) : Dfn P w K mg base CX0 3 "table_among" ["table", "wares"] (sp2 (sp_table_among K)) := by
  obtain ⟨fd, F⟩ := T.f_table_among
  refine ⟨T.g_table_among, F.kp, fd, fnok_of F sc_table_among (fun vs H Q E h => ?_) (fun vs H Q E h => ?_), F.binds (ps := ["table", "wares"]) fun _ _ _ _ _ _ us hl => ?_⟩
  · obtain ⟨a1, a2, rfl, _⟩ := h
    rfl
  · obtain ⟨a1, a2, rfl, h⟩ := h
    intro cdv A outer s hr
    refine ⟨_, (pss_cons (ps_set (i := 2) sc_table_among.nd rfl (Or.inl rfl) (pe_lst pa_nil))
      (pss_cons (ps_for PassesOwn.never rfl (pi_tup (pv 1)) (pg_name (i := 3) sc_table_among.nd rfl (Or.inl rfl)) (pss_cons (ps_set (i := 4) sc_table_among.nd rfl (Or.inr rfl) (pe_ix ix_list (pe_fld (pv 0) rfl) (pv 3) (fun _ _ => rfl)))
      (pss_one (ps_expr (pe_bm PySem.F.plainAttrs_list PySem.F.slot_list_append PySem.F.type_list_append mt_append (pv 2) (pa_cons (pe_dc (own := [("at", 5), ("other", 6)]) (g := gTup K 2 (gCons (gName 5) (gCons (gName 6) gNil))) rfl sc_table_among.nd (pi_enumT rfl T.b_enumerate (pa_cons (pv 1) pa_nil)) (blkOk_by (N := ["table", "wares", "beside", "ware", "row", "at", "other"]) (sc := defScope s_table_among) (by decide +kernel)) (fun _ _ _ _ _ => (pg_tup rfl (pgs_cons (pg_name (i := 5) sc_table_among.nd rfl (Or.inl rfl)) (pgs_cons (pg_name (i := 6) sc_table_among.nd rfl (Or.inl rfl)) pgs_nil)))) (fun _ _ _ _ _ => (pts_one (pt_cmp (pc_din (hu_of hr) (pv 6) (pv 4))))) (fun _ _ _ _ _ => (pv 5)) (fun _ _ _ _ _ => (pe_dget (hu_of hr) (pv 4) (pv 6) (fun _ _ => rfl)))) pa_nil))))))
      (pss_one (ps_ret (pe_makeD K_Table hr (pa_cons (pe_lc (own := [("ware", 3)]) (g := gName 3) rfl sc_table_among.nd (pi_tup (pv 1)) (blkOk_by (N := ["table", "wares", "beside", "ware", "row", "at", "other"]) (sc := defScope s_table_among) (by decide +kernel)) (fun _ _ _ _ _ => (pg_name (i := 3) sc_table_among.nd rfl (Or.inl rfl))) (fun _ _ _ _ _ => pts_nil) (fun _ _ _ _ _ => (pe_ix (ix_listK (K := K)) (pe_fldK (K := K) (pv 0) rfl) (pv 3) (fun _ _ => rfl)))) (pa_cons (pv 2) pa_nil))))))), ?_⟩
    obtain ⟨W, n, m, r, rfl, ⟨t, hc, fit⟩, ⟨q, rfl, hq⟩, rnd, rb, k⟩ := h
    have n8 := fit.n8
    have rl8 : r.length ≤ n := nodup_len n r rnd rb
    have hTn : ∀ i j, (m.via fun i => r.getD i 0).t i j = m.t (r.getD i 0) (r.getD j 0) := fun _ _ => rfl
    generalize hT' : (m.via fun i => r.getD i 0).t = T' at hTn
    refine ⟨(by decide), fun p fp => ⟨_, rfl, _, rfl, ⟨_, SqT.keep (Keeps.new fp) hq⟩, ?_⟩⟩
    refine for_tup (xs := natsV r) (fun i σ H' => ∃ u3 u4 u5 u6 rl, σ = [some (.ref W.p), some (.ref q), some (.ref p), u3, u4, u5, u6] ∧ Same H H' ∧ H' p = some (.lst (rl.map V.ref)) ∧ rl.length = i ∧ (∀ a ∈ rl, H a = none ∧ a ≠ p) ∧ Rows K H' rl (fun _ => True) (Dn 0 r.length T') T')
      ⟨_, _, _, _, [], rfl, Same.new fp, upd_same, rfl, (fun a h => by cases h), List.nodup_nil, fun i a _ h => by simp at h⟩ (fun i σ H' _ ⟨_, _, _, _, _, _, s, _⟩ => SqT.keep (Keeps.of s) hq) ?_ ?_
    · rintro i x σ H1 hx ⟨u3, u4, u5, u6, rl, rfl, s1, hp1, hl1, hfr, hrows⟩
      obtain ⟨wr, hwr, rfl⟩ := natsV_at hx
      have hwn := rb wr (List.mem_of_getElem? hwr)
      have t1 := t.up s1
      obtain ⟨Lb, ra, kv0, hLb, _, hbe, hra, hk0, row0⟩ := t1.row (Nat.zero_le wr) hwn
      have hil : i < r.length := (List.getElem?_eq_some_iff.mp hwr).1
      refine ⟨_, rfl, _, _, _, _, _, rfl, t1.ins, T.c_Table, T.n_beside, (tF_beside _ _ _), _, rfl, _, _, _, _, rfl, rfl, .inl (.inl hLb), (atI_nat hbe), _, rfl, .inl ⟨rfl, _, .inl (.inl hp1)⟩, _, rfl, _, _, rfl, SqT.keep (Keeps.of s1) hq, fun D fD => ?_⟩
      refine dc_it walk_enumT (fun j H' => Same H1 H' ∧ ∃ kvs, H' D = some (.dK kvs) ∧ Row K H' kvs (fun b => b < j ∧ Dn 0 r.length T' i b) (T' i)) ⟨Same.new fD, [], upd_same, (Row.nil (f := T' i)).congr (fun b => ⟨fun h => h.elim, fun h => by omega⟩) fun _ h => h.elim⟩ (fun _ H' _ h => SqT.keep (Keeps.of (Same.trans s1 h.1)) hq) ?_ ?_
      · rintro j x H2 H3 hj ⟨s2, kvs, hD, row⟩ ⟨T1, a, b, rfl, fT, rfl, ha, hb⟩
        cases ha
        obtain ⟨v, hv, rfl⟩ := natsV_at hb
        have s3 := Same.new (o := .tup [.int (j : Nat), .int (v : Int)]) fT
        have s13 := Same.trans s2 s3
        have hjl : j < r.length := (List.getElem?_eq_some_iff.mp hv).1
        have hvn := rb v (List.mem_of_getElem? hv)
        have eT : T' i j = m.t wr v := by rw [hTn, getD_at hwr, getD_at hv]
        have eD : Dn 0 r.length T' i j ↔ Dn 0 n m.t wr v := by
          unfold Dn
          rw [eT]
          have e : j ≠ i ↔ v ≠ wr := ⟨fun h e => h (nodup_at rnd (e ▸ hv) hwr), fun h e => h (by rw [e, hwr] at hv; cases hv; rfl)⟩
          rw [e]
          exact ⟨fun h => ⟨by omega, hvn, h.2.2⟩, fun h => ⟨by omega, hjl, h.2.2⟩⟩
        have row' := row.keep (Keeps.of s3)
        have hk3 := s13 _ _ hk0
        have row3 := row0.keep (Keeps.of s13)
        have hln : kvs.length ≤ r.length := row.len fun b h => h.2.2.1
        by_cases hd : Dn 0 n m.t wr v
        · obtain ⟨vv, hget, hvv⟩ := row3.get hk3 hd
          refine ⟨_, _, rfl, .inl (.inl upd_same), rfl, _, _, rfl, _, _, rfl, rfl, rfl, _, rfl, _, rfl, _, _, rfl, hget, _, rfl, iteT ⟨_, rfl, _, rfl, _, rfl, _, _, rfl, hget, kvs, .inl (j : Int), rfl, s3 _ _ hD, Nat.lt_of_lt_of_le (show kvs.length < 9 by omega) (by decide), Same.mut s13 fD, _, upd_same, ((row'.put (j := j) (eT ▸ hvv)).keep (Keeps.upd (s3 _ _ hD) rfl)).congr (fun b => ?_) fun b _ => ?_⟩⟩
          · constructor
            · rintro (h | rfl)
              · exact ⟨by omega, h.2⟩
              · exact ⟨by omega, eD.mpr hd⟩
            · intro h
              by_cases e : b = j
              · exact .inr e
              · exact .inl ⟨by omega, h.2⟩
          · by_cases e : b = j
            · subst e
              simp
            · simp [e]
        · refine ⟨_, _, rfl, .inl (.inl upd_same), rfl, _, _, rfl, _, _, rfl, rfl, rfl, _, rfl, _, rfl, _, _, rfl, row3.not hk3 hd, _, rfl, iteF ⟨s13, kvs, s3 _ _ hD, row'.congr (fun b => ⟨fun h => ⟨by omega, h.2⟩, fun h => ⟨?_, h.2⟩⟩) fun _ _ => rfl⟩⟩
          by_cases e : b = j
          · exact absurd (eD.mp (e ▸ h.2)) hd
          · omega
      · rintro H2 ⟨s2, kvs, hD, row⟩
        have hpD : p ≠ D := fun e => by rw [← e, hp1] at fD; cases fD
        have hDr : D ∉ rl := fun e => by
          obtain ⟨j, hj, ej⟩ := List.getElem_of_mem e
          obtain ⟨kv, z, _⟩ := hrows.row j D trivial (by rw [List.getElem?_eq_getElem hj, ej])
          rw [z] at fD
          cases fD
        have hp2 := s2 _ _ hp1
        have kp := Keeps.upd (o := .lst (rl.map V.ref ++ [V.ref D])) hp2 rfl
        refine ⟨p, _, _, rfl, rfl, hp2, Nat.lt_of_lt_of_le (show (rl.map V.ref).length < 9 by rw [List.length_map]; omega) (by decide), _, _, _, _, rl ++ [D], rfl, Same.mut (Same.trans s1 s2) fp, by rw [upd_same, List.map_append]; rfl, by simp [hl1], fun a ha => ?_, ?_, fun j a _ e => ?_⟩
        · rcases List.mem_append.mp ha with ha | ha
          · exact hfr a ha
          · rw [List.mem_singleton] at ha
            subst ha
            exact ⟨Same.free s1 fD, hpD.symm⟩
        · rw [List.nodup_append]
          refine ⟨hrows.nd, by simp, fun a ha b hb e => ?_⟩
          rw [List.mem_singleton] at hb
          exact hDr (hb ▸ e ▸ ha)
        · by_cases hj : j < rl.length
          · rw [List.getElem?_append_left hj] at e
            obtain ⟨kv, z1, z2⟩ := hrows.row j a trivial e
            refine ⟨kv, ?_, (z2.keep (Keeps.of s2)).keep kp⟩
            rw [upd_ne (hfr a (List.mem_of_getElem? e)).2]
            exact s2 _ _ z1
          · have hj2 : j = rl.length := by
              have := (List.getElem?_eq_some_iff.mp e).1
              simp at this
              omega
            subst hj2
            simp at e
            subst e
            refine ⟨kvs, by rw [upd_ne hpD.symm]; exact hD, (row.keep kp).congr (fun b => ?_) fun b _ => by rw [hl1]⟩
            rw [hl1, natsV_len]
            exact ⟨fun h => h.2, fun h => ⟨h.2.1, h⟩⟩
    · rintro σ H1 ⟨u3, u4, u5, u6, rl, rfl, s1, hp1, hl1, hfr, hrows⟩
      rw [natsV_len] at hl1
      have t1 := t.up s1
      obtain ⟨La, hLa, hLan, hLae⟩ := t1.sl
      refine ⟨_, rfl, _, rfl, ⟨_, SqT.keep (Keeps.of s1) hq⟩, fun D fD => ?_⟩
      refine lcm_tup (xs := natsV r) (fun _ H' => Same H1 H') (fun k y H => IsE K H y (m.s (r.getD k 0))) (by rw [natsV_len]; exact Nat.lt_of_lt_of_le (show r.length < 9 by omega) (by decide)) (fun _ _ _ _ s h => h.keep s) (Same.new fD) (fun _ _ _ s => SqT.keep (Keeps.of (Same.trans s1 s)) hq) (fun _ _ _ _ s _ => Same.mut s fD) ?_ ?_
      · rintro j x H2 acc hx s2 hD hl C hC
        obtain ⟨wr, hwr, rfl⟩ := natsV_at hx
        have hwn := rb wr (List.mem_of_getElem? hwr)
        have hle := List.getElem?_eq_getElem (l := La) (by rw [hLan]; exact hwn)
        exact ⟨rfl, _, rfl, _, _, _, _, _, rfl, (s2 _ _ t1.ins), T.c_Table, T.n_slants, (tF_slants _ _ _), _, rfl, _, _, _, _, rfl, rfl, .inl (.inl (s2 _ _ hLa)), (atI_nat hle), hC _ _ hD Keeps.rfl' s2 (by rw [getD_at hwr]; exact (hLae wr _ (Nat.zero_le _) hle).up s2)⟩
      · rintro H2 acc s2 hD hl hR
        rw [natsV_len] at hl
        refine ⟨_, rfl, fun x dx nx ndx hne => ?_⟩
        have sX : Same H2 (upd (upd H2 dx (.own x)) x (.ins (CTb K) dx [])) := Same.trans (Same.new ndx) (Same.new (by rw [upd_ne (fun e => hne e.symm)]; exact nx))
        refine ⟨_, _, _, rfl, x, dx, D, p, acc, rl, r.length, (m.via fun i => r.getD i 0).s, _, _, rfl, upd_same, rfl, sX _ _ hD, hl, fun k y h => (hR k y h).up sX, rfl, sX _ _ (s2 _ _ hp1), hl1, by omega, (hrows.up s2).up sX, fun W' H' e1 e2 fa fb fc fr kk tb hg => ⟨rfl, ?_⟩⟩
        subst e1
        have sH4 : Same H2 H' := fun y o hy => kk y o (sX _ _ hy) (ne_of_none hy nx)
        have fX : ∀ y, (upd (upd H2 dx (.own W'.p)) W'.p (.ins (CTb K) dx [])) y = none → H y = none := fun y hy => Same.free (Same.trans s1 (Same.trans s2 sX)) hy
        rw [← hT'] at tb
        exact k W' H' (Same.trans s1 (Same.trans s2 sH4)) ⟨fX _ fa, fX _ fb, fX _ fc, fun r hr => fX r (fr r hr)⟩ ⟨tb, hg, by omega, fit.fine.via _, fit.good.via _⟩
  · obtain ⟨u1, u2, rfl⟩ := two2 hl
    rfl
end
end R25

set_option Elab.async false
set_option linter.all false
set_option maxRecDepth 100000
set_option maxHeartbeats 4000000
namespace R25
open PySem PySem.Spec PyProof.Rows L2
section
variable {P : Program} {w : World} {K : PySem.W.Frag} {mg : Str → Option Value} {base : Heap}
theorem pickS_at {l : List Stl} : ∀ {r : List Nat}, (∀ x ∈ r, x < l.length) → ∀ {k i : Nat}, r[k]? = some i → (pickS l r)[k]? = l[i]?
  | [], _, k, i, h => by simp at h
  | x :: r, hb, k, i, h => by
    unfold pickS
    rw [List.filterMap_cons, List.getElem?_eq_getElem (hb x (List.mem_cons_self))]
    cases k with
    | zero =>
      cases h
      exact (List.getElem?_eq_getElem (hb x (List.mem_cons_self))).symm
    | succ k => exact pickS_at (r := r) (fun y hy => hb y (List.mem_cons_of_mem _ hy)) (by simpa using h)
theorem sc_is_met_by : FnScope ["web", "own", "wished", "indexes", "part", "slants", "amount", "more", "less", "index"] ["web", "own", "wished", "indexes"] (defScope s_is_met_by) := ⟨rfl, rfl, rfl, by decide +kernel, rfl, by decide +kernel, by decide +kernel⟩
theorem ok_is_met_by_T (T : Txt K mg) (D_held_exact : Dfn P w K mg base CX0 5 "held_exact" ["web"] (sp1 (sp_held_exact K))) (D_roots_exact : Dfn P w K mg base CX0 5 "roots_exact" ["web"] (sp1 (sp_roots_exact K))) (M_Exact_add : Mtd P w K mg base CX0 4 "Exact" "__add__" ["self", "other"] (sp2 (sp_add K))) (M_Exact_sub : Mtd P w K mg base CX0 4 "Exact" "__sub__" ["self", "other"] (sp2 (sp_sub K))) (K_Table : Mkd P w K mg base CX0 1 "Table" ["self", "slants", "beside"] (sp3 (sp_Table_init K))) (K_Web : Mkd P w K mg base CX0 6 "Web" ["self", "wares", "stalls"] (sp3 (sp_Web_init K))) (D_is_struck : Dfn P w K mg base CX0 8 "is_struck" ["table"] (sp1 (sp_is_struck K))) : Dfn P w K mg base CX0 9 "is_met_by" ["web", "own", "wished", "indexes"] (sp4 (sp_is_met_by K false)) := by
  obtain ⟨fd, F⟩ := T.f_is_met_by
  refine ⟨T.g_is_met_by, F.kp, fd, fnok_of F sc_is_met_by (fun vs H Q E h => ?_) (fun vs H Q E h => ?_), F.binds (ps := ["web", "own", "wished", "indexes"]) fun _ _ _ _ _ _ us hl => ?_⟩
  · obtain ⟨a1, a2, a3, a4, rfl, _⟩ := h
    rfl
  · obtain ⟨a1, a2, a3, a4, rfl, h⟩ := h
    intro cdv A outer s hr
    refine ⟨_, (pss_cons (ps_set (i := 4) sc_is_met_by.nd rfl (Or.inl rfl) (pe_makeD K_Web hr (pa_cons (pe_fld (pv 0) rfl) (pa_cons (pe_lc (own := [("index", 9)]) (g := gName 9) rfl sc_is_met_by.nd (pi_tup (pv 3)) (blkOk_by (N := ["web", "own", "wished", "indexes", "part", "slants", "amount", "more", "less", "index"]) (sc := defScope s_is_met_by) (by decide +kernel)) (fun _ _ _ _ _ => (pg_name (i := 9) sc_is_met_by.nd rfl (Or.inl rfl))) (fun _ _ _ _ _ => pts_nil) (fun _ _ _ _ _ => (pe_ix (ix_tupK (K := K)) (pe_fldK (K := K) (pv 0) rfl) (pv 9) (fun _ _ => rfl)))) pa_nil))))
      (pss_cons (ps_set (i := 5) sc_is_met_by.nd rfl (Or.inl rfl) (pe_lst pa_nil))
      (pss_cons (ps_for PassesOwn.never rfl (pi_zip3 rfl T.b_zip (pa_cons (pe_callD D_held_exact hr (pa_cons (pv 4) pa_nil)) (pa_cons (pv 1) (pa_cons (pv 2) pa_nil)))) (pg_tup rfl (pgs_cons (pg_name (i := 6) sc_is_met_by.nd rfl (Or.inl rfl)) (pgs_cons (pg_name (i := 7) sc_is_met_by.nd rfl (Or.inl rfl)) (pgs_cons (pg_name (i := 8) sc_is_met_by.nd rfl (Or.inl rfl)) pgs_nil)))) (pss_one (ps_expr (pe_bm PySem.F.plainAttrs_list PySem.F.slot_list_append PySem.F.type_list_append mt_append (pv 5) (pa_cons (pe_op (op_ownD T.sf M_Exact_sub hr) (pe_op (op_ownD T.sf M_Exact_add hr) (pv 6) (pv 7)) (pv 8)) pa_nil)))))
      (pss_one (ps_ret (pe_callD D_is_struck hr (pa_cons (pe_makeD K_Table hr (pa_cons (pv 5) (pa_cons (pe_callD D_roots_exact hr (pa_cons (pv 4) pa_nil)) pa_nil))) pa_nil))))))), ?_⟩
    obtain ⟨n, l, ps, ws, r, qi, ⟨ok, wp, wdx, wq, wvs, rfl, hwp, hwq, hws⟩, ⟨po, vo, rfl, hpo, hvo, heo⟩, ⟨pw, vw, rfl, hpw, hvw, hew⟩, ap, aw, rfl, hd2, rb, r16, k⟩ := h
    rw [if_neg (by decide)] at hd2
    have n8 := ok.n8
    have okp := pickS_ok ok rb r16
    refine ⟨_, rfl, _, _, _, _, _, rfl, hwp, T.c_Web, T.n_wares, (wF_wares n wq), _, rfl, _, rfl, ⟨_, hd2⟩, fun D fD => ?_⟩
    refine lcm_tup (xs := natsV r) (fun _ H' => Same H H') (fun k y H => ∃ t, (pickS l r)[k]? = some t ∧ IsS H y t) (by rw [natsV_len]; exact Nat.lt_of_le_of_lt r16 (by decide)) (fun _ _ _ _ s ⟨t, a, b⟩ => ⟨t, a, b.keep s⟩) (Same.new fD) (fun _ _ _ s => SqT.keep (Keeps.of s) hd2) (fun _ _ _ _ s _ => Same.mut s fD) ?_ ?_
    · rintro i x H2 acc hx s2 hD hl C hC
      obtain ⟨ri, hri, rfl⟩ := natsV_at hx
      have hlt := rb ri (List.mem_of_getElem? hri)
      have hv := List.getElem?_eq_getElem (l := wvs) (by rw [hws.len]; exact hlt)
      obtain ⟨t, ht, hS⟩ := hws.2 ri _ hv
      exact ⟨rfl, _, rfl, _, _, _, _, _, rfl, (s2 _ _ hwp), T.c_Web, T.n_stalls, (wF_stalls n wq), _, rfl, _, _, _, _, rfl, rfl, SqT.keep (Keeps.of s2) hwq, atI_nat hv, hC _ _ hD Keeps.rfl' s2 ⟨t, by rw [pickS_at rb hri]; exact ht, hS.keep (Keeps.of s2)⟩⟩
    rintro H2 acc s2 hD hl hR
    rw [natsV_len] at hl
    intro x dx nx ndx hne
    have sX : Same H2 (upd (upd H2 dx (.own x)) x (.ins (CW K) dx [])) := Same.trans (Same.new ndx) (Same.new (by rw [upd_ne (fun e => hne e.symm)]; exact nx))
    refine ⟨_, _, _, rfl, x, dx, D, acc, n, pickS l r, rfl, upd_same, rfl, rfl, sX _ _ hD, ItS.keep (Keeps.of sX) ⟨by rw [hl, pickS_len rb], hR⟩, okp, fun q' H3 e1 e2 kk => ⟨rfl, ?_⟩⟩
    have s3 : Same H H3 := Same.trans s2 fun y o hy => kk y o (sX _ _ hy) (ne_of_none hy nx)
    have hw : WebAt K H3 (.ref x) n (pickS l r) := ⟨okp, x, dx, q', acc, rfl, e1, .inl (.inl e2), ItS.keep (Keeps.of (fun y o hy => kk y o (sX _ _ hy) (ne_of_none hy nx))) ⟨by rw [hl, pickS_len rb], hR⟩⟩
    clear kk e1 e2 sX hne ndx nx hR hD hl s2
    refine ⟨(by decide), fun p fp => ?_⟩
    have s1 : Same H3 (upd H3 p (.lst [])) := Same.new fp
    have f0 : H p = none := Same.free s3 fp
    have s31 := Same.trans s3 s1
    refine ⟨_, rfl, _, rfl, n, pickS l r, hw.up s1, fun ph hs H4 fph s2 hph hlh heh => ⟨_, rfl, _, rfl, _, _, _, hs, vo, vw, rfl, .inl (.inl hph), .inl (.inl (s2 _ _ (s31 _ _ hpo))), .inl (.inl (s2 _ _ (s31 _ _ hpw))), ?_⟩⟩
    have hp2 := s2 _ _ (upd_same : (upd H3 p (.lst [])) p = some (.lst []))
    have s12 := Same.trans s31 s2
    have s12' := Same.trans s1 s2
    have okA : ∀ j, Bd D0 (16 * 362880 + 33554432) (heldS (pickS l r) j + ps j) := fun j => ((held_bd okp.ok j).add (ap j).1).mono (Nat.add_le_add_right (Nat.mul_le_mul_right _ okp.l16) _)
    refine for_it (walk_zip3 hlh hvo hvw) (fun i σ H' => ∃ u6 u7 u8 acc, σ = [some (.ref wp), some (.ref po), some (.ref pw), some (.ref qi), some (.ref x), some (.ref p), u6, u7, u8, none] ∧ Same H3 H' ∧ (∀ y o, H4 y = some o → y ≠ p → H' y = some o) ∧ H' p = some (.lst acc) ∧ acc.length = i ∧ ItE K H' acc (tbl (pickS l r) ps ws).s)
      ⟨_, _, _, [], rfl, s12', fun y o h _ => h, hp2, rfl, fun k y h => by simp at h⟩ (fun i σ H' _ ⟨_, _, _, _, _, _, fr, _⟩ => ⟨.inl (.inl (fr _ _ hph (fun e => by rw [e, upd_same] at fph; cases fph))), .inl (.inl (fr _ _ (s12 _ _ hpo) (fun e => by rw [e, f0] at hpo; cases hpo))), .inl (.inl (fr _ _ (s12 _ _ hpw) (fun e => by rw [e, f0] at hpw; cases hpw)))⟩) ?_ ?_
    · rintro i y σ H5 H6 hi ⟨u6, u7, u8, acc, rfl, s5, fr5, hp5, hl5, he5⟩ ⟨T1, a, b, c, rfl, fT, rfl, ha, hb, hc⟩
      have s6 : Same H5 (upd H5 T1 (.tup [a, b, c])) := Same.new fT
      have kp : Keeps H4 (upd H5 T1 (.tup [a, b, c])) := fun y o hy hm => s6 _ _ (fr5 _ _ hy (fun e => by subst e; rw [hp2] at hy; cases hy; cases hm))
      obtain ⟨pa, da, rfl, hpa⟩ := (heh i a ha).keep kp
      obtain ⟨pb, db, rfl, hpb⟩ := ((heo i b hb).up s12).keep kp
      obtain ⟨pc, dc, rfl, hpc⟩ := ((hew i c hc).up s12).keep kp
      refine ⟨_, _, rfl, .inl (.inl upd_same), rfl, _, _, rfl, _, _, rfl, _, _, rfl, rfl, _, rfl, .inl ⟨rfl, _, .inl (.inl (s6 _ _ hp5))⟩, _, rfl, _, rfl, _, _, _, _, _, _, rfl, rfl, hpa, hpb, _, _, rfl, _, _, ⟨_, _, rfl, hpa⟩, ⟨_, _, rfl, hpb⟩, (ok_held okp.ok okp.l16 i), ((ap i).1.ok0 (by decide)), fun vs H7 s7 ⟨px, ddx, ex, hpx⟩ => ?_⟩
      subst ex
      refine ⟨_, rfl, _, _, _, _, _, _, rfl, rfl, hpx, (s7 _ _ hpc), _, _, rfl, _, _, ⟨_, _, rfl, hpx⟩, ⟨_, _, rfl, (s7 _ _ hpc)⟩, ((okA i).ok0 (by decide)), ((aw i).1.ok0 (by decide)), fun vd H8 s8 hd => ?_⟩
      have s58 := Same.trans s6 (Same.trans s7 s8)
      have hp8 := s58 _ _ hp5
      have kp8 := Keeps.upd (o := .lst (acc ++ [vd])) hp8 rfl
      refine ⟨p, acc, vd, rfl, rfl, hp8, Nat.lt_of_lt_of_le (show acc.length < 9 by omega) (by decide), _, _, _, _, rfl, Same.mut (Same.trans s5 s58) fp, fun y o hy hne => by rw [upd_ne hne]; exact s58 _ _ (fr5 _ _ hy hne), upd_same, by simp [hl5], fun kk y hy => ?_⟩
      by_cases hlt : kk < acc.length
      · rw [List.getElem?_append_left hlt] at hy
        exact ((he5 kk y hy).up s58).keep kp8
      · have hk' : kk = acc.length := by
          have := (List.getElem?_eq_some_iff.mp hy).1
          simp at this
          omega
        subst hk'
        simp at hy
        subst hy
        rw [hl5]
        exact hd.keep kp8
    · rintro σ H5 ⟨u6, u7, u8, acc, rfl, s5, fr5, hp5, hl5, he5⟩
      refine ⟨_, rfl, _, rfl, _, rfl, n, pickS l r, hw.up s5, fun pr rl H6 fpr frl s6 hpr hrl hrows => ?_⟩
      intro x2 dx2 nx ndx hne
      have hp6 := s6 _ _ hp5
      have sX : Same H6 (upd (upd H6 dx2 (.own x2)) x2 (.ins (CTb K) dx2 [])) := Same.trans (Same.new ndx) (Same.new (by rw [upd_ne (fun e => hne e.symm)]; exact nx))
      refine ⟨_, _, _, rfl, x2, dx2, p, pr, acc, rl, n, (tbl (pickS l r) ps ws).s, _, _, rfl, upd_same, rfl, sX _ _ hp6, hl5, (he5.keep (Keeps.of s6)).keep (Keeps.of sX), rfl, sX _ _ hpr, hrl, n8, hrows.up sX, fun W H' e1 e2 fa fb fc fr kk tb hg => ⟨rfl, ?_⟩⟩
      subst e1
      have sH4 : Same H6 H' := fun y o hy => kk y o (sX _ _ hy) (ne_of_none hy nx)
      have s36 := Same.trans s3 (Same.trans s5 s6)
      have fX : ∀ y, (upd (upd H6 dx2 (.own W.p)) W.p (.ins (CTb K) dx2 [])) y = none → H y = none := fun y hy => Same.free (Same.trans s36 sX) hy
      exact ⟨_, rfl, W, n, _, rfl, ⟨tb, hg, fit_web okp ap aw⟩, fun H9 fr9 => k H9 (FreshW.same (H := H) (W := W) ⟨fX _ fa, fX _ fb, fX _ fc, fun r hr => fX r (fr r hr)⟩ (Same.trans s36 sH4) fr9)⟩
  · obtain ⟨u1, u2, u3, u4, rfl⟩ := four4 hl
    rfl
theorem ok_is_met_by_L (T : Txt K mg) (D_held_exact : Dfn P w K mg base CX0 5 "held_exact" ["web"] (sp1 (sp_held_exact K))) (D_roots_exact : Dfn P w K mg base CX0 5 "roots_exact" ["web"] (sp1 (sp_roots_exact K))) (M_Exact_add : Mtd P w K mg base CX0 4 "Exact" "__add__" ["self", "other"] (sp2 (sp_add K))) (M_Exact_sub : Mtd P w K mg base CX0 4 "Exact" "__sub__" ["self", "other"] (sp2 (sp_sub K))) (K_Table : Mkd P w K mg base CX0 1 "Table" ["self", "slants", "beside"] (sp3 (sp_Table_init K))) (K_Web : Mkd P w K mg base CX0 6 "Web" ["self", "wares", "stalls"] (sp3 (sp_Web_init K))) (D_is_struck : Dfn P w K mg base CX0 8 "is_struck" ["table"] (sp1 (sp_is_struck K))) : Dfn P w K mg base CX0 9 "is_met_by" ["web", "own", "wished", "indexes"] (sp4 (sp_is_met_by K true)) := by
  obtain ⟨fd, F⟩ := T.f_is_met_by
  refine ⟨T.g_is_met_by, F.kp, fd, fnok_of F sc_is_met_by (fun vs H Q E h => ?_) (fun vs H Q E h => ?_), F.binds (ps := ["web", "own", "wished", "indexes"]) fun _ _ _ _ _ _ us hl => ?_⟩
  · obtain ⟨a1, a2, a3, a4, rfl, _⟩ := h
    rfl
  · obtain ⟨a1, a2, a3, a4, rfl, h⟩ := h
    intro cdv A outer s hr
    refine ⟨_, (pss_cons (ps_set (i := 4) sc_is_met_by.nd rfl (Or.inl rfl) (pe_makeD K_Web hr (pa_cons (pe_fld (pv 0) rfl) (pa_cons (pe_lc (own := [("index", 9)]) (g := gName 9) rfl sc_is_met_by.nd (pi_list (pv 3)) (blkOk_by (N := ["web", "own", "wished", "indexes", "part", "slants", "amount", "more", "less", "index"]) (sc := defScope s_is_met_by) (by decide +kernel)) (fun _ _ _ _ _ => (pg_name (i := 9) sc_is_met_by.nd rfl (Or.inl rfl))) (fun _ _ _ _ _ => pts_nil) (fun _ _ _ _ _ => (pe_ix (ix_tupK (K := K)) (pe_fldK (K := K) (pv 0) rfl) (pv 9) (fun _ _ => rfl)))) pa_nil))))
      (pss_cons (ps_set (i := 5) sc_is_met_by.nd rfl (Or.inl rfl) (pe_lst pa_nil))
      (pss_cons (ps_for PassesOwn.never rfl (pi_zip3 rfl T.b_zip (pa_cons (pe_callD D_held_exact hr (pa_cons (pv 4) pa_nil)) (pa_cons (pv 1) (pa_cons (pv 2) pa_nil)))) (pg_tup rfl (pgs_cons (pg_name (i := 6) sc_is_met_by.nd rfl (Or.inl rfl)) (pgs_cons (pg_name (i := 7) sc_is_met_by.nd rfl (Or.inl rfl)) (pgs_cons (pg_name (i := 8) sc_is_met_by.nd rfl (Or.inl rfl)) pgs_nil)))) (pss_one (ps_expr (pe_bm PySem.F.plainAttrs_list PySem.F.slot_list_append PySem.F.type_list_append mt_append (pv 5) (pa_cons (pe_op (op_ownD T.sf M_Exact_sub hr) (pe_op (op_ownD T.sf M_Exact_add hr) (pv 6) (pv 7)) (pv 8)) pa_nil)))))
      (pss_one (ps_ret (pe_callD D_is_struck hr (pa_cons (pe_makeD K_Table hr (pa_cons (pv 5) (pa_cons (pe_callD D_roots_exact hr (pa_cons (pv 4) pa_nil)) pa_nil))) pa_nil))))))), ?_⟩
    obtain ⟨n, l, ps, ws, r, qi, ⟨ok, wp, wdx, wq, wvs, rfl, hwp, hwq, hws⟩, ⟨po, vo, rfl, hpo, hvo, heo⟩, ⟨pw, vw, rfl, hpw, hvw, hew⟩, ap, aw, rfl, hd2, rb, r16, k⟩ := h
    rw [if_pos rfl] at hd2
    have n8 := ok.n8
    have okp := pickS_ok ok rb r16
    refine ⟨_, rfl, _, _, _, _, _, rfl, hwp, T.c_Web, T.n_wares, (wF_wares n wq), _, rfl, _, rfl, ⟨_, .inl (.inl hd2)⟩, fun D fD => ?_⟩
    refine lcm_list (xs := natsV r) (fun _ H' => Same H H') (fun k y H => ∃ t, (pickS l r)[k]? = some t ∧ IsS H y t) (by rw [natsV_len]; exact Nat.lt_of_le_of_lt r16 (by decide)) (fun _ _ _ _ s ⟨t, a, b⟩ => ⟨t, a, b.keep s⟩) (Same.new fD) (fun _ _ _ s => .inl (.inl (s _ _ hd2))) (fun _ _ _ _ s _ => Same.mut s fD) ?_ ?_
    · rintro i x H2 acc hx s2 hD hl C hC
      obtain ⟨ri, hri, rfl⟩ := natsV_at hx
      have hlt := rb ri (List.mem_of_getElem? hri)
      have hv := List.getElem?_eq_getElem (l := wvs) (by rw [hws.len]; exact hlt)
      obtain ⟨t, ht, hS⟩ := hws.2 ri _ hv
      exact ⟨rfl, _, rfl, _, _, _, _, _, rfl, (s2 _ _ hwp), T.c_Web, T.n_stalls, (wF_stalls n wq), _, rfl, _, _, _, _, rfl, rfl, SqT.keep (Keeps.of s2) hwq, atI_nat hv, hC _ _ hD Keeps.rfl' s2 ⟨t, by rw [pickS_at rb hri]; exact ht, hS.keep (Keeps.of s2)⟩⟩
    rintro H2 acc s2 hD hl hR
    rw [natsV_len] at hl
    intro x dx nx ndx hne
    have sX : Same H2 (upd (upd H2 dx (.own x)) x (.ins (CW K) dx [])) := Same.trans (Same.new ndx) (Same.new (by rw [upd_ne (fun e => hne e.symm)]; exact nx))
    refine ⟨_, _, _, rfl, x, dx, D, acc, n, pickS l r, rfl, upd_same, rfl, rfl, sX _ _ hD, ItS.keep (Keeps.of sX) ⟨by rw [hl, pickS_len rb], hR⟩, okp, fun q' H3 e1 e2 kk => ⟨rfl, ?_⟩⟩
    have s3 : Same H H3 := Same.trans s2 fun y o hy => kk y o (sX _ _ hy) (ne_of_none hy nx)
    have hw : WebAt K H3 (.ref x) n (pickS l r) := ⟨okp, x, dx, q', acc, rfl, e1, .inl (.inl e2), ItS.keep (Keeps.of (fun y o hy => kk y o (sX _ _ hy) (ne_of_none hy nx))) ⟨by rw [hl, pickS_len rb], hR⟩⟩
    clear kk e1 e2 sX hne ndx nx hR hD hl s2
    refine ⟨(by decide), fun p fp => ?_⟩
    have s1 : Same H3 (upd H3 p (.lst [])) := Same.new fp
    have f0 : H p = none := Same.free s3 fp
    have s31 := Same.trans s3 s1
    refine ⟨_, rfl, _, rfl, n, pickS l r, hw.up s1, fun ph hs H4 fph s2 hph hlh heh => ⟨_, rfl, _, rfl, _, _, _, hs, vo, vw, rfl, .inl (.inl hph), .inl (.inl (s2 _ _ (s31 _ _ hpo))), .inl (.inl (s2 _ _ (s31 _ _ hpw))), ?_⟩⟩
    have hp2 := s2 _ _ (upd_same : (upd H3 p (.lst [])) p = some (.lst []))
    have s12 := Same.trans s31 s2
    have s12' := Same.trans s1 s2
    have okA : ∀ j, Bd D0 (16 * 362880 + 33554432) (heldS (pickS l r) j + ps j) := fun j => ((held_bd okp.ok j).add (ap j).1).mono (Nat.add_le_add_right (Nat.mul_le_mul_right _ okp.l16) _)
    refine for_it (walk_zip3 hlh hvo hvw) (fun i σ H' => ∃ u6 u7 u8 acc, σ = [some (.ref wp), some (.ref po), some (.ref pw), some (.ref qi), some (.ref x), some (.ref p), u6, u7, u8, none] ∧ Same H3 H' ∧ (∀ y o, H4 y = some o → y ≠ p → H' y = some o) ∧ H' p = some (.lst acc) ∧ acc.length = i ∧ ItE K H' acc (tbl (pickS l r) ps ws).s)
      ⟨_, _, _, [], rfl, s12', fun y o h _ => h, hp2, rfl, fun k y h => by simp at h⟩ (fun i σ H' _ ⟨_, _, _, _, _, _, fr, _⟩ => ⟨.inl (.inl (fr _ _ hph (fun e => by rw [e, upd_same] at fph; cases fph))), .inl (.inl (fr _ _ (s12 _ _ hpo) (fun e => by rw [e, f0] at hpo; cases hpo))), .inl (.inl (fr _ _ (s12 _ _ hpw) (fun e => by rw [e, f0] at hpw; cases hpw)))⟩) ?_ ?_
    · rintro i y σ H5 H6 hi ⟨u6, u7, u8, acc, rfl, s5, fr5, hp5, hl5, he5⟩ ⟨T1, a, b, c, rfl, fT, rfl, ha, hb, hc⟩
      have s6 : Same H5 (upd H5 T1 (.tup [a, b, c])) := Same.new fT
      have kp : Keeps H4 (upd H5 T1 (.tup [a, b, c])) := fun y o hy hm => s6 _ _ (fr5 _ _ hy (fun e => by subst e; rw [hp2] at hy; cases hy; cases hm))
      obtain ⟨pa, da, rfl, hpa⟩ := (heh i a ha).keep kp
      obtain ⟨pb, db, rfl, hpb⟩ := ((heo i b hb).up s12).keep kp
      obtain ⟨pc, dc, rfl, hpc⟩ := ((hew i c hc).up s12).keep kp
      refine ⟨_, _, rfl, .inl (.inl upd_same), rfl, _, _, rfl, _, _, rfl, _, _, rfl, rfl, _, rfl, .inl ⟨rfl, _, .inl (.inl (s6 _ _ hp5))⟩, _, rfl, _, rfl, _, _, _, _, _, _, rfl, rfl, hpa, hpb, _, _, rfl, _, _, ⟨_, _, rfl, hpa⟩, ⟨_, _, rfl, hpb⟩, (ok_held okp.ok okp.l16 i), ((ap i).1.ok0 (by decide)), fun vs H7 s7 ⟨px, ddx, ex, hpx⟩ => ?_⟩
      subst ex
      refine ⟨_, rfl, _, _, _, _, _, _, rfl, rfl, hpx, (s7 _ _ hpc), _, _, rfl, _, _, ⟨_, _, rfl, hpx⟩, ⟨_, _, rfl, (s7 _ _ hpc)⟩, ((okA i).ok0 (by decide)), ((aw i).1.ok0 (by decide)), fun vd H8 s8 hd => ?_⟩
      have s58 := Same.trans s6 (Same.trans s7 s8)
      have hp8 := s58 _ _ hp5
      have kp8 := Keeps.upd (o := .lst (acc ++ [vd])) hp8 rfl
      refine ⟨p, acc, vd, rfl, rfl, hp8, Nat.lt_of_lt_of_le (show acc.length < 9 by omega) (by decide), _, _, _, _, rfl, Same.mut (Same.trans s5 s58) fp, fun y o hy hne => by rw [upd_ne hne]; exact s58 _ _ (fr5 _ _ hy hne), upd_same, by simp [hl5], fun kk y hy => ?_⟩
      by_cases hlt : kk < acc.length
      · rw [List.getElem?_append_left hlt] at hy
        exact ((he5 kk y hy).up s58).keep kp8
      · have hk' : kk = acc.length := by
          have := (List.getElem?_eq_some_iff.mp hy).1
          simp at this
          omega
        subst hk'
        simp at hy
        subst hy
        rw [hl5]
        exact hd.keep kp8
    · rintro σ H5 ⟨u6, u7, u8, acc, rfl, s5, fr5, hp5, hl5, he5⟩
      refine ⟨_, rfl, _, rfl, _, rfl, n, pickS l r, hw.up s5, fun pr rl H6 fpr frl s6 hpr hrl hrows => ?_⟩
      intro x2 dx2 nx ndx hne
      have hp6 := s6 _ _ hp5
      have sX : Same H6 (upd (upd H6 dx2 (.own x2)) x2 (.ins (CTb K) dx2 [])) := Same.trans (Same.new ndx) (Same.new (by rw [upd_ne (fun e => hne e.symm)]; exact nx))
      refine ⟨_, _, _, rfl, x2, dx2, p, pr, acc, rl, n, (tbl (pickS l r) ps ws).s, _, _, rfl, upd_same, rfl, sX _ _ hp6, hl5, (he5.keep (Keeps.of s6)).keep (Keeps.of sX), rfl, sX _ _ hpr, hrl, n8, hrows.up sX, fun W H' e1 e2 fa fb fc fr kk tb hg => ⟨rfl, ?_⟩⟩
      subst e1
      have sH4 : Same H6 H' := fun y o hy => kk y o (sX _ _ hy) (ne_of_none hy nx)
      have s36 := Same.trans s3 (Same.trans s5 s6)
      have fX : ∀ y, (upd (upd H6 dx2 (.own W.p)) W.p (.ins (CTb K) dx2 [])) y = none → H y = none := fun y hy => Same.free (Same.trans s36 sX) hy
      exact ⟨_, rfl, W, n, _, rfl, ⟨tb, hg, fit_web okp ap aw⟩, fun H9 fr9 => k H9 (FreshW.same (H := H) (W := W) ⟨fX _ fa, fX _ fb, fX _ fc, fun r hr => fX r (fr r hr)⟩ (Same.trans s36 sH4) fr9)⟩
  · obtain ⟨u1, u2, u3, u4, rfl⟩ := four4 hl
    rfl
theorem sc_least_wares : FnScope ["web", "purse", "wish", "own", "wished", "table", "wares"] ["web", "purse", "wish"] (defScope s_least_wares) := ⟨rfl, rfl, rfl, by decide +kernel, rfl, by decide +kernel, by decide +kernel⟩
theorem ok_least_wares (T : Txt K mg) (D_check_purse : Dfn P w K mg base CX0 5 "check_purse" ["web", "purse"] (sp2 (sp_check K))) (D_check_wish : Dfn P w K mg base CX0 5 "check_wish" ["web", "wish"] (sp2 (sp_check K))) (D_scales_of : Dfn P w K mg base CX0 8 "scales_of" ["web", "own", "wished"] (sp3 (sp_scales_of K))) (D_table_of : Dfn P w K mg base CX0 6 "table_of" ["web", "own", "wished"] (sp3 (sp_table_of K))) (D_all_tuples : Dfn P w K mg base CX0 1 "all_tuples" ["many"] (sp1 (sp_all_tuples K))) (D_is_struck : Dfn P w K mg base CX0 8 "is_struck" ["table"] (sp1 (sp_is_struck K))) (D_table_among : Dfn P w K mg base CX0 3 "table_among" ["table", "wares"] (sp2 (sp_table_among K))) : Dfn P w K mg base CX0 10 "least_wares" ["web", "purse", "wish"] (sp3 (sp_least_wares K)) := by
  obtain ⟨fd, F⟩ := T.f_least_wares
  refine ⟨T.g_least_wares, F.kp, fd, fnok_of F sc_least_wares (fun vs H Q E h => ?_) (fun vs H Q E h => ?_), F.binds (ps := ["web", "purse", "wish"]) fun _ _ _ _ _ _ us hl => ?_⟩
  · obtain ⟨a1, a2, a3, rfl, _⟩ := h
    rfl
  · obtain ⟨a1, a2, a3, rfl, h⟩ := h
    intro cdv A outer s hr
    refine ⟨_, (pss_cons (ps_set (i := 3) sc_least_wares.nd rfl (Or.inl rfl) (pe_callD D_check_purse hr (pa_cons (pv 0) (pa_cons (pv 1) pa_nil))))
      (pss_cons (ps_set (i := 4) sc_least_wares.nd rfl (Or.inl rfl) (pe_callD D_check_wish hr (pa_cons (pv 0) (pa_cons (pv 2) pa_nil))))
      (pss_cons (ps_if (pt_cmpR op_notN (pe_callD D_scales_of hr (pa_cons (pv 0) (pa_cons (pv 3) (pa_cons (pv 4) pa_nil)))) pe_non (nomark _)) (pss_one (ps_ret pe_non)) pss_nil)
      (pss_cons (ps_set (i := 5) sc_least_wares.nd rfl (Or.inl rfl) (pe_callD D_table_of hr (pa_cons (pv 0) (pa_cons (pv 3) (pa_cons (pv 4) pa_nil)))))
      (pss_cons (ps_for PassesOwn.never rfl (pi_list (pe_callD D_all_tuples hr (pa_cons (pe_fld (pv 0) rfl) pa_nil))) (pg_name (i := 6) sc_least_wares.nd rfl (Or.inl rfl)) (pss_one (ps_if (pt_not (pt_val (pe_callD D_is_struck hr (pa_cons (pe_callD D_table_among hr (pa_cons (pv 5) (pa_cons (pv 6) pa_nil))) pa_nil)))) (pss_one (ps_ret (pv 6))) pss_nil)))
      (pss_one (ps_ret pe_non))))))), ?_⟩
    obtain ⟨n, l, ps, ws, hw, hp, hwi, ap, aw, k⟩ := h
    refine ⟨_, rfl, _, rfl, _, _, rfl, n, l, ps, hw, hp, ap, fun p1 v1 H1 f1 s1 h1 l1 e1 => ⟨_, rfl, _, rfl, _, _, rfl, n, l, ws, hw.up s1, hwi.up s1, aw, fun p2 v2 H2 f2 s2 h2 l2 e2 => ?_⟩⟩
    have s12 := Same.trans s1 s2
    have ho2 : ExL K H2 (.ref p1) n ps := ⟨p1, v1, rfl, s2 _ _ h1, l1, e1.keep (Keeps.of s2)⟩
    have hw2 : ExL K H2 (.ref p2) n ws := ⟨p2, v2, rfl, h2, l2, e2⟩
    have n8 := hw.1.n8
    refine ⟨_, rfl, _, rfl, _, rfl, _, _, _, rfl, n, l, ps, ws, hw.up s12, ho2, hw2, ap, aw, fun hr p3 v3 f H3 f3 s3 h3 l3 e3 => ?_, fun hr H3 s3 => ?_⟩
    · refine ⟨rfl, _, rfl, iteP rfl ((k H3 (Same.trans s12 s3)).1 ?_)⟩
      unfold leastOf
      rw [if_pos hr]
    · have s13 := Same.trans s12 s3
      have hw3 := hw.up s13
      refine ⟨rfl, _, rfl, iteN rfl ⟨_, rfl, _, rfl, _, rfl, _, _, _, rfl, n, l, ps, ws, hw3, ho2.up s3, hw2.up s3, ap, aw, fun W H4 s4 fw st4 => ?_⟩⟩
      have s14 := Same.trans s13 s4
      obtain ⟨_, wp, wdx, wq, wvs, rfl, hwp, hwq, hws⟩ := hw
      refine ⟨_, rfl, _, _, _, _, _, rfl, (s14 _ _ hwp), T.c_Web, T.n_wares, (wF_wares n wq), _, rfl, n, rfl, n8, fun pa va H5 fa s5 hpa hta => ⟨_, rfl, ⟨_, .inl (.inl hpa)⟩, ?_⟩⟩
      have s15 := Same.trans s14 s5
      have eD : leastOf n (tbl l ps ws) = (alls n).find? fun r => !run r (tbl l ps ws) := by
        unfold leastOf
        rw [if_neg (by rw [hr]; decide)]
      refine for_list (xs := va) (fun i σ H' => ∃ u6, σ = [some (.ref wp), some a2, some a3, some (.ref p1), some (.ref p2), some (.ref W.p), u6] ∧ Same H5 H' ∧ ∀ (j : Nat) (r' : List Nat), j < i → (alls n)[j]? = some r' → (!run r' (tbl l ps ws)) = false) ⟨_, rfl, (fun _ _ h => h), fun j r' hj => absurd hj (by omega)⟩ (fun i σ H' _ ⟨_, _, s, _⟩ => .inl (.inl (s _ _ hpa))) ?_ ?_
      · rintro i x σ H6 hx ⟨u6, rfl, s6, hn⟩
        obtain ⟨r, hri, q, rfl, hq⟩ := (hta.keep (Keeps.of s6)).2 i x hx
        obtain ⟨rn, rb⟩ := alls_mem (List.mem_of_getElem? hri)
        refine ⟨_, rfl, _, rfl, _, _, rfl, W, n, tbl l ps ws, r, rfl, st4.up (Same.trans s5 s6), ⟨q, rfl, hq⟩, rn, rb, fun W' H7 s7 fw7 st7 => ⟨_, rfl, W', r.length, _, rfl, st7, fun H8 fr8 => ⟨_, rfl, ?_⟩⟩⟩
        rw [run_sub]
        have s68 := fw7.same s7 fr8
        have s18 := Same.trans s15 (Same.trans s6 s68)
        refine ite2 (fun hc => ⟨_, rfl, (k H8 s18).2 r (.ref q) ?_ ⟨q, rfl, SqT.keep (Keeps.of s68) hq⟩⟩) (fun hc => ⟨_, rfl, Same.trans s6 s68, fun j r' hj e => ?_⟩)
        · rw [eD]
          exact find_at hri hc hn
        · by_cases hji : j = i
          · subst hji
            rw [hri] at e
            cases e
            exact Bool.eq_false_iff.mpr hc
          · exact hn j r' (by omega) e
      · rintro σ H6 ⟨u6, rfl, s6, hn⟩
        refine (k H6 (Same.trans s15 s6)).1 ?_
        rw [eD]
        refine find_no fun j r' e => hn j r' ?_ e
        rw [hta.1]
        exact (List.getElem?_eq_some_iff.mp e).1
  · obtain ⟨u1, u2, u3, rfl⟩ := three3 hl
    rfl
theorem sc_fewest_stalls : FnScope ["web", "purse", "wish", "own", "wished", "indexes"] ["web", "purse", "wish"] (defScope s_fewest_stalls) := ⟨rfl, rfl, rfl, by decide +kernel, rfl, by decide +kernel, by decide +kernel⟩
theorem ok_fewest_stalls (T : Txt K mg) (D_check_purse : Dfn P w K mg base CX0 5 "check_purse" ["web", "purse"] (sp2 (sp_check K))) (D_check_wish : Dfn P w K mg base CX0 5 "check_wish" ["web", "wish"] (sp2 (sp_check K))) (D_all_tuples : Dfn P w K mg base CX0 1 "all_tuples" ["many"] (sp1 (sp_all_tuples K))) (D_is_met_by_T : Dfn P w K mg base CX0 9 "is_met_by" ["web", "own", "wished", "indexes"] (sp4 (sp_is_met_by K false))) : Dfn P w K mg base CX0 10 "fewest_stalls" ["web", "purse", "wish"] (sp3 (sp_fewest_stalls K)) := by
  obtain ⟨fd, F⟩ := T.f_fewest_stalls
  refine ⟨T.g_fewest_stalls, F.kp, fd, fnok_of F sc_fewest_stalls (fun vs H Q E h => ?_) (fun vs H Q E h => ?_), F.binds (ps := ["web", "purse", "wish"]) fun _ _ _ _ _ _ us hl => ?_⟩
  · obtain ⟨a1, a2, a3, rfl, _⟩ := h
    rfl
  · obtain ⟨a1, a2, a3, rfl, h⟩ := h
    intro cdv A outer s hr
    refine ⟨_, (pss_cons (ps_set (i := 3) sc_fewest_stalls.nd rfl (Or.inl rfl) (pe_callD D_check_purse hr (pa_cons (pv 0) (pa_cons (pv 1) pa_nil))))
      (pss_cons (ps_set (i := 4) sc_fewest_stalls.nd rfl (Or.inl rfl) (pe_callD D_check_wish hr (pa_cons (pv 0) (pa_cons (pv 2) pa_nil))))
      (pss_cons (ps_for PassesOwn.never rfl (pi_list (pe_callD D_all_tuples hr (pa_cons (pe_callB call_len_seq (by rfl) T.b_len (by decide +kernel) (pa_cons (pe_fld (pv 0) rfl) pa_nil)) pa_nil))) (pg_name (i := 5) sc_fewest_stalls.nd rfl (Or.inl rfl)) (pss_one (ps_if (pt_val (pe_callD D_is_met_by_T hr (pa_cons (pv 0) (pa_cons (pv 3) (pa_cons (pv 4) (pa_cons (pv 5) pa_nil)))))) (pss_one (ps_ret (pv 5))) pss_nil)))
      (pss_one (ps_ret pe_non))))), ?_⟩
    obtain ⟨n, l, ps, ws, hw, hp, hwi, ap, aw, l8, k⟩ := h
    refine ⟨_, rfl, _, rfl, _, _, rfl, n, l, ps, hw, hp, ap, fun p1 v1 H1 f1 s1 h1 l1 e1 => ⟨_, rfl, _, rfl, _, _, rfl, n, l, ws, hw.up s1, hwi.up s1, aw, fun p2 v2 H2 f2 s2 h2 l2 e2 => ?_⟩⟩
    have s12 := Same.trans s1 s2
    have ho2 : ExL K H2 (.ref p1) n ps := ⟨p1, v1, rfl, s2 _ _ h1, l1, e1.keep (Keeps.of s2)⟩
    have hw2 : ExL K H2 (.ref p2) n ws := ⟨p2, v2, rfl, h2, l2, e2⟩
    have n8 := hw.1.n8
    have hwK := hw
    obtain ⟨_, wp, wdx, wq, wvs, rfl, hwp, hwq, hws⟩ := hw
    have hwl := hws.len
    refine ⟨_, rfl, _, _, _, _, _, rfl, (s12 _ _ hwp), T.c_Web, T.n_stalls, (wF_stalls n wq), _, _, rfl, .inr (SqT.keep (Keeps.of s12) hwq), _, rfl, l.length, by rw [hwl], l8, fun pa va H5 fa s5 hpa hta => ⟨_, rfl, ⟨_, .inl (.inl hpa)⟩, ?_⟩⟩
    have s15 := Same.trans s12 s5
    refine for_list (xs := va) (fun i σ H' => ∃ u5, σ = [some (.ref wp), some a2, some a3, some (.ref p1), some (.ref p2), u5] ∧ Same H5 H' ∧ ∀ (j : Nat) (r' : List Nat), j < i → (alls l.length)[j]? = some r' → run (List.range n) (tbl (pickS l r') ps ws) = false) ⟨_, rfl, (fun _ _ h => h), fun j r' hj => absurd hj (by omega)⟩ (fun i σ H' _ ⟨_, _, s, _⟩ => .inl (.inl (s _ _ hpa))) ?_ ?_
    · rintro i x σ H6 hx ⟨u6, rfl, s6, hn⟩
      obtain ⟨r, hri, q, rfl, hq⟩ := (hta.keep (Keeps.of s6)).2 i x hx
      obtain ⟨rn, rb⟩ := alls_mem (List.mem_of_getElem? hri)
      have rl := nodup_len _ r rn rb
      have s56 := Same.trans s5 s6
      refine ⟨_, rfl, _, rfl, _, rfl, _, rfl, _, _, _, _, rfl, n, l, ps, ws, r, q, hwK.up (Same.trans s15 s6), ho2.up s56, hw2.up s56, ap, aw, rfl, by rw [if_neg (by decide)]; exact hq, rb, by omega, fun H7 s7 => ⟨_, rfl, ite2 (fun hc => ⟨_, rfl, (k H7 (Same.trans s15 (Same.trans s6 s7))).2 r (.ref q) (find_at hri hc hn) ⟨q, rfl, SqT.keep (Keeps.of s7) hq⟩⟩) (fun hc => ⟨_, rfl, Same.trans s6 s7, fun j r' hj e => ?_⟩)⟩⟩
      by_cases hji : j = i
      · subst hji
        rw [hri] at e
        cases e
        exact Bool.eq_false_iff.mpr hc
      · exact hn j r' (by omega) e
    · rintro σ H6 ⟨u6, rfl, s6, hn⟩
      refine (k H6 (Same.trans s15 s6)).1 (find_no fun j r' e => hn j r' ?_ e)
      rw [hta.1]
      exact (List.getElem?_eq_some_iff.mp e).1
  · obtain ⟨u1, u2, u3, rfl⟩ := three3 hl
    rfl
theorem sc_needed : FnScope ["web", "purse", "wish", "own", "wished", "found", "index", "other"] ["web", "purse", "wish"] (defScope s_needed) := ⟨rfl, rfl, rfl, by decide +kernel, rfl, by decide +kernel, by decide +kernel⟩
theorem ok_needed (T : Txt K mg) (D_check_purse : Dfn P w K mg base CX0 5 "check_purse" ["web", "purse"] (sp2 (sp_check K))) (D_check_wish : Dfn P w K mg base CX0 5 "check_wish" ["web", "wish"] (sp2 (sp_check K))) (D_scales_of : Dfn P w K mg base CX0 8 "scales_of" ["web", "own", "wished"] (sp3 (sp_scales_of K))) (D_is_met_by_L : Dfn P w K mg base CX0 9 "is_met_by" ["web", "own", "wished", "indexes"] (sp4 (sp_is_met_by K true))) : Dfn P w K mg base CX0 10 "needed" ["web", "purse", "wish"] (sp3 (sp_needed K)) := by
  obtain ⟨fd, F⟩ := T.f_needed
  refine ⟨T.g_needed, F.kp, fd, fnok_of F sc_needed (fun vs H Q E h => ?_) (fun vs H Q E h => ?_), F.binds (ps := ["web", "purse", "wish"]) fun _ _ _ _ _ _ us hl => ?_⟩
  · obtain ⟨a1, a2, a3, rfl, _⟩ := h
    rfl
  · obtain ⟨a1, a2, a3, rfl, h⟩ := h
    intro cdv A outer s hr
    refine ⟨_, (pss_cons (ps_set (i := 3) sc_needed.nd rfl (Or.inl rfl) (pe_callD D_check_purse hr (pa_cons (pv 0) (pa_cons (pv 1) pa_nil))))
      (pss_cons (ps_set (i := 4) sc_needed.nd rfl (Or.inl rfl) (pe_callD D_check_wish hr (pa_cons (pv 0) (pa_cons (pv 2) pa_nil))))
      (pss_cons (ps_if (pt_cmpR op_isN (pe_callD D_scales_of hr (pa_cons (pv 0) (pa_cons (pv 3) (pa_cons (pv 4) pa_nil)))) pe_non (nomark _)) (pss_one (ps_ret pe_non)) pss_nil)
      (pss_cons (ps_set (i := 5) sc_needed.nd rfl (Or.inl rfl) (pe_lst pa_nil))
      (pss_cons (ps_for PassesOwn.never rfl (pi_range1 rfl T.b_range (pa_cons (pe_callB call_len_seq (by rfl) T.b_len (by decide +kernel) (pa_cons (pe_fld (pv 0) rfl) pa_nil)) pa_nil)) (pg_name (i := 6) sc_needed.nd rfl (Or.inr rfl)) (pss_one (ps_if (pt_not (pt_val (pe_callD D_is_met_by_L hr (pa_cons (pv 0) (pa_cons (pv 3) (pa_cons (pv 4) (pa_cons (pe_lc (own := [("other", 7)]) (g := gName 7) rfl sc_needed.nd (pi_range1 rfl T.b_range (pa_cons (pe_callB call_len_seq (by rfl) T.b_len (by decide +kernel) (pa_cons (pe_fld (pv 0) rfl) pa_nil)) pa_nil)) (blkOk_by (N := ["web", "purse", "wish", "own", "wished", "found", "index", "other"]) (sc := defScope s_needed) (by decide +kernel)) (fun _ _ _ _ _ => (pg_name (i := 7) sc_needed.nd rfl (Or.inl rfl))) (fun _ _ _ _ _ => (pts_one (pt_cmpR op_ne (pv 7) (pv 6) (nomark _)))) (fun _ _ _ _ _ => (pv 7))) pa_nil))))))) (pss_one (ps_expr (pe_bm PySem.F.plainAttrs_list PySem.F.slot_list_append PySem.F.type_list_append mt_append (pv 5) (pa_cons (pv 6) pa_nil)))) pss_nil)))
      (pss_one (ps_ret (pe_callTy call_tuple_of (by rfl) T.b_tuple (by decide +kernel) (pa_cons (pv 5) pa_nil))))))))), ?_⟩
    obtain ⟨n, l, ps, ws, hw, hp, hwi, ap, aw, k⟩ := h
    refine ⟨_, rfl, _, rfl, _, _, rfl, n, l, ps, hw, hp, ap, fun p1 v1 H1 f1 s1 h1 l1 e1 => ⟨_, rfl, _, rfl, _, _, rfl, n, l, ws, hw.up s1, hwi.up s1, aw, fun p2 v2 H2 f2 s2 h2 l2 e2 => ?_⟩⟩
    have s12 := Same.trans s1 s2
    have ho2 : ExL K H2 (.ref p1) n ps := ⟨p1, v1, rfl, s2 _ _ h1, l1, e1.keep (Keeps.of s2)⟩
    have hw2 : ExL K H2 (.ref p2) n ws := ⟨p2, v2, rfl, h2, l2, e2⟩
    have n8 := hw.1.n8
    have l16 := hw.1.l16
    refine ⟨_, rfl, _, rfl, _, rfl, _, _, _, rfl, n, l, ps, ws, hw.up s12, ho2, hw2, ap, aw, fun hr p3 v3 f H3 f3 s3 h3 l3 e3 => ?_, fun hr H3 s3 => ?_⟩
    · have s13 := Same.trans s12 s3
      have hwK := hw
      obtain ⟨_, wp, wdx, wq, wvs, rfl, hwp, hwq, hws⟩ := hw
      have hwl := hws.len
      refine ⟨rfl, _, rfl, iteN rfl ⟨(by decide), fun fp ffp => ?_⟩⟩
      have s14 := Same.trans s13 (Same.new (o := .lst []) ffp)
      refine ⟨_, rfl, _, _, _, _, _, rfl, (s14 _ _ hwp), T.c_Web, T.n_stalls, (wF_stalls n wq), _, _, rfl, .inr (SqT.keep (Keeps.of s14) hwq), _, rfl, by omega, by omega, ?_⟩
      rw [show ((wvs.length : Int)).toNat = l.length by rw [hwl]; omega]
      refine for_range (fun i σ H' => ∃ u6 u7, σ = [some (.ref wp), some a2, some a3, some (.ref p1), some (.ref p2), some (.ref fp), u6, u7] ∧ Same H3 H' ∧ H' fp = some (.lst (natsV ((List.range i).filter fun i => !run (List.range n) (tbl (pickS l (but l.length i)) ps ws)))))
        ⟨_, _, rfl, Same.new ffp, upd_same⟩ ?_ ?_
      · rintro i σ H4 hi ⟨u6, u7, rfl, s4, hf4⟩
        have s14 := Same.trans s13 s4
        rw [Int.zero_add]
        refine ⟨_, rfl, _, rfl, _, rfl, _, rfl, _, _, _, _, _, rfl, (s14 _ _ hwp), T.c_Web, T.n_stalls, (wF_stalls n wq), _, _, rfl, .inr (SqT.keep (Keeps.of s14) hwq), _, rfl, by omega, by omega, fun D fD => ?_⟩
        rw [show ((wvs.length : Int)).toNat = l.length by rw [hwl]; omega]
        refine lc_range (n := l.length) (fun j H' => Same H4 H' ∧ H' D = some (.lst (natsV ((List.range j).filter fun j => decide (j ≠ i))))) ⟨Same.new fD, upd_same⟩ ?_ ?_
        · rintro j H5 hj ⟨s5, hD5⟩
          rw [Int.zero_add]
          have ef := range_filter_snoc (fun j => decide (j ≠ i)) j
          refine ⟨rfl, _, rfl, _, rfl, rfl, _, rfl, ite2 (fun hc => ⟨_, rfl, _, hD5, ?_, Same.mut s5 fD, ?_⟩) (fun hc => ⟨s5, ?_⟩)⟩
          · rw [natsV_len]
            have := List.length_filter_le (fun j => decide (j ≠ i)) (List.range j)
            rw [List.length_range] at this
            exact Nat.lt_of_lt_of_le (show _ < 17 by omega) (by decide)
          · have hji : j ≠ i := fun e => by subst e; simp at hc
            rw [upd_same, ef, if_pos (decide_eq_true hji), natsV_snoc]
          · have hji : j = i := by
              by_cases e : j = i
              · exact e
              · exact absurd (by simp; omega) hc
            rw [ef, if_neg (by simp [hji]), List.append_nil]
            exact hD5
        · rintro H5 ⟨s5, hD5⟩
          have s45 := Same.trans s4 s5
          have hbl : (but l.length i).length ≤ 16 := by
            have := List.length_filter_le (fun j => decide (j ≠ i)) (List.range l.length)
            rw [List.length_range] at this
            exact Nat.le_trans this l16
          refine ⟨_, _, _, _, rfl, n, l, ps, ws, but l.length i, D, hwK.up (Same.trans s13 s45), ho2.up (Same.trans s3 s45), hw2.up (Same.trans s3 s45), ap, aw, rfl, by rw [if_pos rfl]; exact hD5, fun x hx => ?_, hbl, fun H6 s6 => ⟨_, rfl, ?_⟩⟩
          · exact List.mem_range.mp (List.mem_filter.mp hx).1
          · have hf6 := s6 _ _ (s5 _ _ hf4)
            have ef := range_filter_snoc (fun i => !run (List.range n) (tbl (pickS l (but l.length i)) ps ws)) i
            refine ite2 (fun hc => ⟨_, rfl, .inl ⟨rfl, _, .inl (.inl hf6)⟩, _, rfl, fp, _, _, rfl, rfl, hf6, ?_, _, _, rfl, Same.mut (Same.trans s45 s6) ffp, ?_⟩) (fun hc => ⟨_, _, rfl, Same.trans s45 s6, ?_⟩)
            · rw [natsV_len]
              have := List.length_filter_le (fun i => !run (List.range n) (tbl (pickS l (but l.length i)) ps ws)) (List.range i)
              rw [List.length_range] at this
              exact Nat.lt_of_lt_of_le (show _ < 17 by omega) (by decide)
            · rw [upd_same, ef, if_pos hc, natsV_snoc]
            · rw [ef, if_neg hc, List.append_nil]
              exact hf6
      · rintro σ H4 ⟨u6, u7, rfl, s4, hf4⟩
        refine ⟨_, rfl, _, _, rfl, .inl ⟨.inl (.inl hf4), fun q fq => (k _ (Same.trans s13 (Same.trans s4 (Same.new fq)))).2 _ (.ref q) ?_ ⟨q, rfl, .inl (.inl upd_same)⟩⟩⟩
        unfold needOf
        rw [if_pos hr]
    · refine ⟨rfl, _, rfl, iteP rfl ((k H3 (Same.trans s12 s3)).1 ?_)⟩
      unfold needOf
      rw [if_neg (by rw [hr]; decide)]
  · obtain ⟨u1, u2, u3, rfl⟩ := three3 hl
    rfl
end
end R25

set_option Elab.async false
set_option linter.all false
set_option maxRecDepth 100000
set_option maxHeartbeats 4000000
namespace R25
open PySem PySem.Spec PyProof.Rows L2
/-! ### the deck -/
def DeckAt (H : Hp) (d c : Addr) : Prop := ∃ (ns : List Int) (t1 t2 t3 : Int), H d = some (.lst [.ref c, .int t1, .int t2, .int t3]) ∧ H c = some (.lst (ns.map V.int)) ∧ c ≠ d
/-- all but the deck is as it was -/
def FrD (d : Addr) (H H' : Hp) : Prop := ∀ x o, H x = some o → x ≠ d → H' x = some o
theorem FrD.rfl' {d : Addr} {H : Hp} : FrD d H H := fun _ _ h _ => h
theorem FrD.trans {d : Addr} {H H1 H2 : Hp} (a : FrD d H H1) (b : FrD d H1 H2) : FrD d H H2 := fun x o h hn => b x o (a x o h hn) hn
theorem FrD.of {d : Addr} {H H' : Hp} (s : Same H H') : FrD d H H' := fun x o h _ => s x o h
theorem FrD.deck {d : Addr} {H : Hp} {o : HO} : FrD d H (upd H d o) := fun x u h hn => by rw [upd_ne hn]; exact h
theorem DeckAt.up {H H' : Hp} {d c : Addr} (s : Same H H') (h : DeckAt H d c) : DeckAt H' d c := let ⟨ns, a, b, e, h1, h2, h3⟩ := h; ⟨ns, a, b, e, s _ _ h1, s _ _ h2, h3⟩
theorem DeckAt.mut {H : Hp} {d c x : Addr} {o : HO} (h : DeckAt H d c) (hx : x ≠ d) (hc : x ≠ c) : DeckAt (upd H x o) d c :=
  let ⟨ns, a, b, e, h1, h2, h3⟩ := h
  ⟨ns, a, b, e, by rw [upd_ne hx.symm]; exact h1, by rw [upd_ne hc.symm]; exact h2, h3⟩
theorem DeckAt.there {H : Hp} {d c : Addr} (h : DeckAt H d c) : ∃ l, H d = some (.lst l) := let ⟨_, _, _, _, h1, _⟩ := h; ⟨_, h1⟩
theorem DeckAt.ne {H : Hp} {d c x : Addr} (h : DeckAt H d c) (hx : H x = none) : x ≠ d ∧ x ≠ c := by
  obtain ⟨_, _, _, _, h1, h2, _⟩ := h
  exact ⟨(fun e => by rw [e, h1] at hx; cases hx), (fun e => by rw [e, h2] at hx; cases hx)⟩
/-- what a deck leaves: all things that cannot change -/
theorem FrD.keeps {d c : Addr} {H H' : Hp} (f : FrD d H H') (h : DeckAt H d c) : Keeps H H' := fun x o hx hm => f x o hx fun e => by
  obtain ⟨l, hl⟩ := h.there
  subst e
  rw [hl] at hx
  cases hx
  cases hm
/-- a new thing of one's own, behind calls with the deck -/
theorem FrD.mine {d D : Addr} {H0 H : Hp} {o : HO} (f : FrD d H0 H) (h : H0 D = none) : FrD d H0 (upd H D o) := fun x u hx hn => by
  rw [upd_ne (ne_of_none hx h)]
  exact f x u hx hn
theorem FrD.same {d : Addr} {H0 H1 H2 : Hp} (s : Same H0 H1) (h : H0 d = none) (f : FrD d H1 H2) : Same H0 H2 := fun x o hx => f x o (s x o hx) (ne_of_none hx h)
theorem ints_of : ∀ {acc : List V}, (∀ (k : Nat) (y : V), acc[k]? = some y → ∃ i : Int, y = .int i) → ∃ ns : List Int, acc = ns.map V.int
  | [], _ => ⟨[], rfl⟩
  | v :: acc, h => by
    obtain ⟨i, rfl⟩ := h 0 v rfl
    obtain ⟨ns, e⟩ := ints_of (acc := acc) fun k y e => h (k + 1) y (by simpa using e)
    exact ⟨i :: ns, by rw [e]; rfl⟩
theorem mod_nat {x : Int} {m : Nat} (hm : 1 ≤ m) : ∃ r : Nat, x % (m : Int) = (r : Int) ∧ r < m := by
  have h1 := Int.emod_nonneg x (show (m : Int) ≠ 0 by omega)
  have h2 := Int.emod_lt_of_pos x (show (0 : Int) < m by omega)
  exact ⟨(x % (m : Int)).toNat, by omega, by omega⟩
theorem cutV_ints (ns : List Int) (lo hi : Option Int) : ∃ ms : List Int, cutV (ns.map V.int) lo hi = ms.map V.int ∧ ms.length ≤ ns.length := by
  unfold cutV
  rw [← List.map_drop, ← List.map_take]
  exact ⟨_, rfl, by rw [List.length_take, List.length_drop]; omega⟩
/-! ### small amounts -/
theorem bd_frac {n d : Int} {N e : Nat} (hd : 0 < d) (he : d * (e : Int) = 5040) (hn : n.natAbs * e ≤ N) : Bd D0 N (Rat.divInt n d) := by
  refine ⟨n * e, ?_, by rw [Int.natAbs_mul, Int.natAbs_natCast]; exact hn⟩
  have h1 : (0 : Int) < (e : Int) := by
    rcases Nat.eq_zero_or_pos e with h | h
    · subst h; simp at he
    · omega
  rw [rat_ofInt]
  have e5 : ((D0 : Nat) : Int) = d * e := by rw [he]; rfl
  rw [e5, Rat.divInt_mul_right (by omega)]
def Sm (N D : Nat) (q : Rat) : Prop := ∃ n d : Nat, 1 ≤ n ∧ n ≤ N ∧ 1 ≤ d ∧ d ≤ D ∧ q = Rat.divInt (n : Int) (d : Int)
theorem inv_num {q : Rat} (h : 0 < q) : (q⁻¹).num = (q.den : Int) ∧ ((q⁻¹).den : Int) = q.num := by
  have hn := num_pos.mpr h
  have e : q⁻¹ = Rat.divInt q.den q.num := by
    rw [← Rat.inv_divInt, frac_self]
  have hg : Int.gcd (q.den : Int) q.num = 1 := by rw [Int.gcd_comm]; exact gcd_self q
  rw [e, frac_num hn, frac_den hn, hg]
  simp
/-- turned round -/
theorem IsF.inv {H : Hp} {p : Addr} {q : Rat} (h : 0 < q) (e : H p = some (.tup [.int q.den, .int q.num])) : IsF H (.ref p) q⁻¹ := ⟨p, rfl, by rw [(inv_num h).1, (inv_num h).2]; exact e⟩
theorem Ok.inv {q : Rat} (h : 0 < q) (o : Ok q) : Ok q⁻¹ := by
  have hn := num_pos.mpr h
  obtain ⟨a, b⟩ := inv_num h
  refine ⟨by rw [a, Int.natAbs_natCast]; exact o.2, ?_⟩
  have := o.1
  have : (q⁻¹).den = q.num.natAbs := by omega
  omega
/-! ### promises: the deck, the amounts -/
section
variable (K : PySem.W.Frag)
def sp_law_deck : F1 := fun a H Q _ => ∃ (p : Addr) (ns : List Int), a = .ref p ∧ SqL K H p (ns.map V.int) ∧ ns.length ≤ 63 ∧ ∀ d c H', H d = none → Same H H' → DeckAt H' d c → Q (.ref d) H'
def sp_law_pick : F2 := fun a b H Q _ => ∃ (d c : Addr) (many : Nat), a = .ref d ∧ DeckAt H d c ∧ b = .int (many : Int) ∧ 1 ≤ many ∧ many ≤ 100 ∧ ∀ (r : Nat) H', r < many → FrD d H H' → DeckAt H' d c → Q (.int (r : Int)) H'
def sp_law_fold : F1 := fun a H Q _ => ∃ (p : Addr) (ns : List Int), a = .ref p ∧ SqL K H p (ns.map V.int) ∧ ns.length ≤ 63 ∧ ∀ (f : Int) H', Same H H' → Q (.int f) H'
def sp_law_amount : F1 := fun a H Q _ => ∃ d c, a = .ref d ∧ DeckAt H d c ∧ ∀ v q H', Sm 6 4 q → FrD d H H' → DeckAt H' d c → IsF H' v q → Q v H'
def sp_law_stall : F2 := fun a b H Q _ => ∃ (d c : Addr) (n : Nat), a = .ref d ∧ DeckAt H d c ∧ b = .int (n : Int) ∧ 2 ≤ n ∧ n ≤ 8 ∧ ∀ v t H', OkS n t → Sm 6 4 t.r → FrD d H H' → DeckAt H' d c → IsS H' v t → Q v H'
end
end R25

set_option Elab.async false
set_option linter.all false
set_option maxRecDepth 100000
set_option maxHeartbeats 4000000
namespace R25
open PySem PySem.Spec PyProof.Rows L2
section
variable {P : Program} {w : World} {K : PySem.W.Frag} {mg : Str → Option Value} {base : Heap}
theorem sc_law_deck : FnScope ["_law_script", "_law_cell"] ["_law_script"] (defScope s_law_deck) := ⟨rfl, rfl, rfl, by decide +kernel, rfl, by decide +kernel, by decide +kernel⟩
theorem ok_law_deck (T : Txt K mg)  : Dfn P w K mg base CX0 1 "_law_deck" ["_law_script"] (sp1 (sp_law_deck K)) := by
  obtain ⟨fd, F⟩ := T.f_law_deck
  refine ⟨T.g_law_deck, F.kp, fd, fnok_of F sc_law_deck (fun vs H Q E h => ?_) (fun vs H Q E h => ?_), F.binds (ps := ["_law_script"]) fun _ _ _ _ _ _ us hl => ?_⟩
  · obtain ⟨a1, rfl, _⟩ := h
    rfl
  · obtain ⟨a1, rfl, h⟩ := h
    intro cdv A outer s hr
    refine ⟨_, (pss_one (ps_ret (pe_lst (pa_cons (pe_lc (own := [("_law_cell", 1)]) (g := gName 1) rfl sc_law_deck.nd (pi_list (pe_slice sl_list (pv 0) po_none (po_some pe_int))) (blkOk_by (N := ["_law_script", "_law_cell"]) (sc := defScope s_law_deck) (by decide +kernel)) (fun _ _ _ _ _ => (pg_name (i := 1) sc_law_deck.nd rfl (Or.inl rfl))) (fun _ _ _ _ _ => pts_nil) (fun _ _ _ _ _ => (pe_callTy call_int1 (by rfl) T.b_int (by decide +kernel) (pa_cons (pv 1) pa_nil)))) (pa_cons pe_int (pa_cons pe_int (pa_cons pe_int pa_nil))))))), ?_⟩
    obtain ⟨p, ns, rfl, hp, hl, k⟩ := h
    refine ⟨_, rfl, _, rfl, _, _, rfl, hp, fun p1 f1 => ?_⟩
    obtain ⟨ms, em, el⟩ := cutV_ints ns none (some 63)
    rw [em]
    have s1 : Same H (upd H p1 (.lst (ms.map V.int))) := Same.new f1
    refine ⟨_, rfl, ⟨_, .inl (.inl upd_same)⟩, fun D fD => ?_⟩
    refine lcm_list (xs := ms.map V.int) (fun _ H' => Same (upd H p1 (.lst (ms.map V.int))) H') (fun k y _ => ∃ i : Int, y = .int i) (by rw [List.length_map]; exact Nat.lt_of_lt_of_le (show ms.length < 64 by omega) (by decide)) (fun _ _ _ _ _ h => h) (Same.new fD) (fun _ _ _ s => .inl (.inl (s _ _ upd_same))) (fun _ _ _ _ s _ => Same.mut s fD) ?_ ?_
    · rintro i x H2 acc hx s2 hD hl C hC
      rw [List.getElem?_map] at hx
      obtain ⟨z, _, rfl⟩ := Option.map_eq_some_iff.mp hx
      exact ⟨rfl, _, rfl, .inl ⟨_, rfl, hC _ _ hD Keeps.rfl' s2 ⟨_, rfl⟩⟩⟩
    · rintro H2 acc s2 hD hl hR
      obtain ⟨zs, rfl⟩ := ints_of hR
      have s12 := Same.trans s1 s2
      exact ⟨(by show 4 ≤ sizeLine; decide), fun d fd => k d D _ (Same.free s12 fd) (Same.trans s12 (Same.new fd)) ⟨zs, 0, 0, 0, upd_same, Same.new fd _ _ hD, fun e => by rw [← e, hD] at fd; cases fd⟩⟩
  · obtain ⟨u1, rfl⟩ := one1 hl
    rfl
theorem sc_law_pick : FnScope ["_law_deck_here", "_law_many", "_law_found", "_law_cells", "_law_cell", "_law_number"] ["_law_deck_here", "_law_many"] (defScope s_law_pick) := ⟨rfl, rfl, rfl, by decide +kernel, rfl, by decide +kernel, by decide +kernel⟩
theorem ok_law_pick (T : Txt K mg)  : Dfn P w K mg base CX0 1 "_law_pick" ["_law_deck_here", "_law_many"] (sp2 sp_law_pick) := by
  obtain ⟨fd, F⟩ := T.f_law_pick
  refine ⟨T.g_law_pick, F.kp, fd, fnok_of F sc_law_pick (fun vs H Q E h => ?_) (fun vs H Q E h => ?_), F.binds (ps := ["_law_deck_here", "_law_many"]) fun _ _ _ _ _ _ us hl => ?_⟩
  · obtain ⟨a1, a2, rfl, _⟩ := h
    rfl
  · obtain ⟨a1, a2, rfl, h⟩ := h
    intro cdv A outer s hr
    refine ⟨_, (pss_cons (ps_asg (pe_op op_add (pe_ix ix_list (pv 0) pe_int (fun _ _ => rfl)) pe_int) (pg_sub (pv 0) pe_int set_list))
      (pss_cons (ps_if (pt_cmpR op_gt (pe_ix ix_list (pv 0) pe_int (fun _ _ => rfl)) pe_int (nomark _)) (pss_cons (ps_set (i := 2) sc_law_pick.nd rfl (Or.inl rfl) (pe_op op_mod (pe_callTy call_int1 (by rfl) T.b_int (by decide +kernel) (pa_cons (pe_ix ix_list (pv 0) pe_int (fun _ _ => rfl)) pa_nil)) (pv 1)))
      (pss_cons (ps_asg (pe_op op_fdiv (pe_callTy call_int1 (by rfl) T.b_int (by decide +kernel) (pa_cons (pe_ix ix_list (pv 0) pe_int (fun _ _ => rfl)) pa_nil)) (pv 1)) (pg_sub (pv 0) pe_int set_list))
      (pss_one (ps_ret (pv 2))))) pss_nil)
      (pss_cons (ps_set (i := 3) sc_law_pick.nd rfl (Or.inl rfl) (pe_ix ix_list (pv 0) pe_int (fun _ _ => rfl)))
      (pss_cons (ps_set (i := 4) sc_law_pick.nd rfl (Or.inl rfl) pe_int)
      (pss_cons (ps_if (pt_cmpR op_gt (pe_callB call_len_seq (by rfl) T.b_len (by decide +kernel) (pa_cons (pv 3) pa_nil)) pe_int (nomark _)) (pss_one (ps_set (i := 4) sc_law_pick.nd rfl (Or.inl rfl) (pe_ix ix_list (pv 3) (pe_op op_mod (pe_callTy call_int1 (by rfl) T.b_int (by decide +kernel) (pa_cons (pe_ix ix_list (pv 0) pe_int (fun _ _ => rfl)) pa_nil)) (pe_callB call_len_seq (by rfl) T.b_len (by decide +kernel) (pa_cons (pv 3) pa_nil))) (fun _ _ => rfl)))) pss_nil)
      (pss_cons (ps_asg (pe_op op_add (pe_ix ix_list (pv 0) pe_int (fun _ _ => rfl)) pe_int) (pg_sub (pv 0) pe_int set_list))
      (pss_cons (ps_if (PW.pt (pw_and (pt_cmpR op_ge (pv 4) (pe_op op_pow pe_int pe_int) (nomark _)) (pw_and1 (pt_cmpR op_le (pe_ix ix_list (pv 0) pe_int (fun _ _ => rfl)) (pe_callB call_len_seq (by rfl) T.b_len (by decide +kernel) (pa_cons (pv 3) pa_nil)) (nomark _))))) (pss_cons (ps_asg (pe_op op_fdiv (pe_callTy call_int1 (by rfl) T.b_int (by decide +kernel) (pa_cons (pv 4) pa_nil)) (pv 1)) (pg_sub (pv 0) pe_int set_list))
      (pss_one (ps_ret (pe_op op_mod (pe_callTy call_int1 (by rfl) T.b_int (by decide +kernel) (pa_cons (pv 4) pa_nil)) (pv 1))))) pss_nil)
      (pss_cons (ps_set (i := 5) sc_law_pick.nd rfl (Or.inl rfl) (pe_op op_mod (pe_op op_mul (pe_callTy call_int1 (by rfl) T.b_int (by decide +kernel) (pa_cons (pe_op op_add (pe_op op_add (pv 4) (pe_op op_mul pe_int (pe_ix ix_list (pv 0) pe_int (fun _ _ => rfl)))) pe_int) pa_nil)) pe_int) pe_int))
      (pss_cons (ps_set (i := 5) sc_law_pick.nd rfl (Or.inl rfl) (pe_op op_mod (pe_op op_mul (pv 5) (pe_op op_add (pe_op op_fdiv (pv 5) pe_int) pe_int)) pe_int))
      (pss_cons (ps_set (i := 5) sc_law_pick.nd rfl (Or.inl rfl) (pe_op op_mod (pe_op op_mul (pv 5) (pe_op op_add (pe_op op_fdiv (pv 5) pe_int) pe_int)) pe_int))
      (pss_one (ps_ret (pe_op op_mod (pv 5) (pv 1)))))))))))))), ?_⟩
    obtain ⟨d, c, many, rfl, ⟨ns, t1, t2, t3, hd, hc, hne⟩, rfl, m1, m2, k⟩ := h
    have mp : (0 : Int) < (many : Int) := by omega
    refine ⟨_, rfl, _, _, _, _, rfl, rfl, .inl (.inl hd), rfl, _, _, rfl, rfl, _, rfl, _, _, _, _, rfl, rfl, hd, rfl, ?_⟩
    have h1 : (upd H d (.lst [.ref c, .int t1, .int t2, .int (t3 + 1)])) d = some (.lst [.ref c, .int t1, .int t2, .int (t3 + 1)]) := upd_same
    have c1 : (upd H d (.lst [.ref c, .int t1, .int t2, .int (t3 + 1)])) c = some (.lst (ns.map V.int)) := by rw [upd_ne hne]; exact hc
    have f1 : FrD d H (upd H d (.lst [.ref c, .int t1, .int t2, .int (t3 + 1)])) := FrD.deck
    refine ⟨_, rfl, _, _, _, _, rfl, rfl, .inl (.inl h1), rfl, _, _, rfl, rfl, _, rfl, ite2 (fun hc2 => ?_) (fun hc2 => ?_)⟩
    · refine ⟨_, rfl, _, _, _, _, rfl, rfl, .inl (.inl h1), rfl, .inl ⟨_, rfl, _, rfl, _, _, rfl, rfl, mp, _, rfl, _, _, _, _, rfl, rfl, .inl (.inl h1), rfl, .inl ⟨_, rfl, _, rfl, _, _, rfl, rfl, ⟨mp, by omega⟩, _, rfl, _, _, _, _, rfl, rfl, h1, rfl, _, rfl, ?_⟩⟩⟩
      obtain ⟨r, e, hr'⟩ := mod_nat (x := t2) m1
      exact qint e (k r _ hr' (FrD.trans f1 FrD.deck) ⟨ns, _, _, _, upd_same, by rw [upd_ne hne]; exact c1, hne⟩)
    · refine ⟨_, rfl, _, _, _, _, rfl, rfl, .inl (.inl h1), rfl, _, rfl, _, _, rfl, .inl (.inl (.inl c1)), _, _, rfl, rfl, _, rfl, ite2 (fun hl => ?_) (fun hl => ?_)⟩
      · have hl0 : 0 < ns.length := by have := of_decide_eq_true hl; rw [List.length_map] at this; omega
        have hlp : (0 : Int) < ((ns.map V.int).length : Int) := by rw [List.length_map]; omega
        obtain ⟨j, e, hj⟩ := mod_nat (x := t1) (m := (ns.map V.int).length) (by omega)
        have hx := List.getElem?_eq_getElem (l := ns.map V.int) hj
        have hx2 : (ns.map V.int)[j]? = some (V.int (ns[j]'(by simpa using hj))) := by rw [hx]; simp
        refine ⟨_, rfl, _, rfl, _, _, _, _, rfl, rfl, .inl (.inl h1), rfl, .inl ⟨_, rfl, _, rfl, _, _, rfl, .inl (.inl (.inl c1)), _, _, rfl, rfl, hlp, _, _, _, _, rfl, rfl, .inl (.inl c1), by rw [e]; exact atI_nat hx2, ?_⟩⟩
        refine ⟨_, rfl, _, _, _, _, rfl, rfl, .inl (.inl h1), rfl, _, _, rfl, rfl, _, rfl, _, _, _, _, rfl, rfl, h1, rfl, ?_⟩
        have h2 : (upd (upd H d (.lst [.ref c, .int t1, .int t2, .int (t3 + 1)])) d (.lst [.ref c, .int (t1 + 1), .int t2, .int (t3 + 1)])) d = some (.lst [.ref c, .int (t1 + 1), .int t2, .int (t3 + 1)]) := upd_same
        have c2 : (upd (upd H d (.lst [.ref c, .int t1, .int t2, .int (t3 + 1)])) d (.lst [.ref c, .int (t1 + 1), .int t2, .int (t3 + 1)])) c = some (.lst (ns.map V.int)) := by rw [upd_ne hne]; exact c1
        have f2 : FrD d H (upd (upd H d (.lst [.ref c, .int t1, .int t2, .int (t3 + 1)])) d (.lst [.ref c, .int (t1 + 1), .int t2, .int (t3 + 1)])) := FrD.trans f1 FrD.deck
        generalize (ns[j]'(by simpa using hj)) = cell
        refine ⟨_, rfl, _, _, rfl, rfl, ⟨by decide, by decide, by decide⟩, _, _, rfl, rfl, _, rfl, ite2 (fun hg => ⟨_, rfl, _, _, _, _, rfl, rfl, .inl (.inl h2), rfl, _, rfl, _, _, rfl, .inl (.inl (.inl c2)), _, _, rfl, rfl, _, rfl, ite2 (fun hg2 => ?_) (fun hg2 => ?_)⟩) (fun hg => iteF ?_)⟩
        · refine ⟨_, rfl, .inl ⟨_, rfl, _, rfl, _, _, rfl, rfl, ⟨mp, by omega⟩, _, rfl, _, _, _, _, rfl, rfl, h2, rfl, _, rfl, .inl ⟨_, rfl, _, rfl, _, _, rfl, rfl, mp, ?_⟩⟩⟩
          obtain ⟨r, e, hr'⟩ := mod_nat (m := many) m1
          exact qint e (k r _ hr' (FrD.trans f2 FrD.deck) ⟨ns, _, _, _, upd_same, by rw [upd_ne hne]; exact c2, hne⟩)
        all_goals
          refine ⟨_, rfl, _, rfl, _, _, _, _, rfl, rfl, .inl (.inl h2), rfl, _, _, rfl, rfl, .inl (by omega), _, _, rfl, rfl, _, _, rfl, rfl, .inl ⟨_, rfl, _, _, rfl, rfl, .inr (by omega), _, _, rfl, rfl, by omega, ?_⟩⟩
          refine ⟨_, rfl, _, rfl, _, _, rfl, rfl, ⟨by omega, by omega⟩, _, _, rfl, rfl, _, _, rfl, rfl, .inl (by omega), _, _, rfl, rfl, by omega, ?_⟩
          refine ⟨_, rfl, _, rfl, _, _, rfl, rfl, ⟨by omega, by omega⟩, _, _, rfl, rfl, _, _, rfl, rfl, .inl (by omega), _, _, rfl, rfl, by omega, _, rfl, _, rfl, _, _, rfl, rfl, mp, ?_⟩
          obtain ⟨r, e, hr'⟩ := mod_nat (m := many) m1
          exact qint e (k r _ hr' f2 ⟨ns, _, _, _, h2, c2, hne⟩)
      · refine ⟨_, rfl, _, _, _, _, rfl, rfl, .inl (.inl h1), rfl, _, _, rfl, rfl, _, rfl, _, _, _, _, rfl, rfl, h1, rfl, ?_⟩
        have h2 : (upd (upd H d (.lst [.ref c, .int t1, .int t2, .int (t3 + 1)])) d (.lst [.ref c, .int (t1 + 1), .int t2, .int (t3 + 1)])) d = some (.lst [.ref c, .int (t1 + 1), .int t2, .int (t3 + 1)]) := upd_same
        have c2 : (upd (upd H d (.lst [.ref c, .int t1, .int t2, .int (t3 + 1)])) d (.lst [.ref c, .int (t1 + 1), .int t2, .int (t3 + 1)])) c = some (.lst (ns.map V.int)) := by rw [upd_ne hne]; exact c1
        have f2 : FrD d H (upd (upd H d (.lst [.ref c, .int t1, .int t2, .int (t3 + 1)])) d (.lst [.ref c, .int (t1 + 1), .int t2, .int (t3 + 1)])) := FrD.trans f1 FrD.deck
        refine ⟨_, rfl, _, _, rfl, rfl, ⟨by decide, by decide, by decide⟩, _, _, rfl, rfl, _, rfl, ite2 (fun hg => ⟨_, rfl, _, _, _, _, rfl, rfl, .inl (.inl h2), rfl, _, rfl, _, _, rfl, .inl (.inl (.inl c2)), _, _, rfl, rfl, _, rfl, ite2 (fun hg2 => ?_) (fun hg2 => ?_)⟩) (fun hg => iteF ?_)⟩
        · refine ⟨_, rfl, .inl ⟨_, rfl, _, rfl, _, _, rfl, rfl, ⟨mp, by omega⟩, _, rfl, _, _, _, _, rfl, rfl, h2, rfl, _, rfl, .inl ⟨_, rfl, _, rfl, _, _, rfl, rfl, mp, ?_⟩⟩⟩
          obtain ⟨r, e, hr'⟩ := mod_nat (m := many) m1
          exact qint e (k r _ hr' (FrD.trans f2 FrD.deck) ⟨ns, _, _, _, upd_same, by rw [upd_ne hne]; exact c2, hne⟩)
        all_goals
          refine ⟨_, rfl, _, rfl, _, _, _, _, rfl, rfl, .inl (.inl h2), rfl, _, _, rfl, rfl, .inl (by omega), _, _, rfl, rfl, _, _, rfl, rfl, .inl ⟨_, rfl, _, _, rfl, rfl, .inr (by omega), _, _, rfl, rfl, by omega, ?_⟩⟩
          refine ⟨_, rfl, _, rfl, _, _, rfl, rfl, ⟨by omega, by omega⟩, _, _, rfl, rfl, _, _, rfl, rfl, .inl (by omega), _, _, rfl, rfl, by omega, ?_⟩
          refine ⟨_, rfl, _, rfl, _, _, rfl, rfl, ⟨by omega, by omega⟩, _, _, rfl, rfl, _, _, rfl, rfl, .inl (by omega), _, _, rfl, rfl, by omega, _, rfl, _, rfl, _, _, rfl, rfl, mp, ?_⟩
          obtain ⟨r, e, hr'⟩ := mod_nat (m := many) m1
          exact qint e (k r _ hr' f2 ⟨ns, _, _, _, h2, c2, hne⟩)
  · obtain ⟨u1, u2, rfl⟩ := two2 hl
    rfl
theorem sc_law_fold : FnScope ["_law_script", "_law_found", "_law_cell"] ["_law_script"] (defScope s_law_fold) := ⟨rfl, rfl, rfl, by decide +kernel, rfl, by decide +kernel, by decide +kernel⟩
theorem ok_law_fold (T : Txt K mg)  : Dfn P w K mg base CX0 1 "_law_fold" ["_law_script"] (sp1 (sp_law_fold K)) := by
  obtain ⟨fd, F⟩ := T.f_law_fold
  refine ⟨T.g_law_fold, F.kp, fd, fnok_of F sc_law_fold (fun vs H Q E h => ?_) (fun vs H Q E h => ?_), F.binds (ps := ["_law_script"]) fun _ _ _ _ _ _ us hl => ?_⟩
  · obtain ⟨a1, rfl, _⟩ := h
    rfl
  · obtain ⟨a1, rfl, h⟩ := h
    intro cdv A outer s hr
    refine ⟨_, (pss_cons (ps_set (i := 1) sc_law_fold.nd rfl (Or.inl rfl) (pe_callB call_len_seq (by rfl) T.b_len (by decide +kernel) (pa_cons (pv 0) pa_nil)))
      (pss_cons (ps_for PassesOwn.never rfl (pi_list (pe_slice sl_list (pv 0) po_none (po_some pe_int))) (pg_name (i := 2) sc_law_fold.nd rfl (Or.inl rfl)) (pss_one (ps_set (i := 1) sc_law_fold.nd rfl (Or.inl rfl) (pe_op op_mod (pe_callTy call_int1 (by rfl) T.b_int (by decide +kernel) (pa_cons (pe_op op_add (pe_op op_add (pe_op op_mul (pv 1) pe_int) (pe_op op_mul (pe_callTy call_int1 (by rfl) T.b_int (by decide +kernel) (pa_cons (pv 2) pa_nil)) pe_int)) pe_int) pa_nil)) pe_int))))
      (pss_one (ps_ret (pe_op op_mod (pe_callTy call_int1 (by rfl) T.b_int (by decide +kernel) (pa_cons (pe_op op_mul (pv 1) (pe_op op_add (pe_op op_fdiv (pv 1) pe_int) pe_int)) pa_nil)) pe_int))))), ?_⟩
    obtain ⟨p, ns, rfl, hp, hl, k⟩ := h
    refine ⟨_, rfl, _, _, rfl, .inl hp, _, rfl, _, rfl, _, _, rfl, hp, fun p1 f1 => ?_⟩
    obtain ⟨ms, em, el⟩ := cutV_ints ns none (some 63)
    rw [em]
    have s1 : Same H (upd H p1 (.lst (ms.map V.int))) := Same.new f1
    refine ⟨_, rfl, ⟨_, .inl (.inl upd_same)⟩, ?_⟩
    refine for_list (xs := ms.map V.int) (fun _ σ H' => ∃ (f : Int) (u2 : Option V), σ = [some (.ref p), some (.int f), u2] ∧ H' = upd H p1 (.lst (ms.map V.int)) ∧ 0 ≤ f ∧ f < 2 ^ 40) ⟨_, _, rfl, rfl, by omega, by rw [List.length_map]; omega⟩ (fun _ _ H' _ ⟨_, _, _, e, _⟩ => e ▸ .inl (.inl upd_same)) ?_ ?_
    · rintro i x σ H2 hx ⟨f, u2, rfl, rfl, f0, f1⟩
      rw [List.getElem?_map] at hx
      obtain ⟨z, _, rfl⟩ := Option.map_eq_some_iff.mp hx
      refine ⟨_, rfl, _, _, rfl, rfl, .inr (by omega), _, rfl, .inl ⟨_, rfl, _, _, rfl, rfl, .inr (by omega), _, _, rfl, rfl, _, _, rfl, rfl, .inl ⟨_, rfl, _, _, rfl, rfl, by omega, _, _, rfl, rfl, ?_, ?_⟩⟩⟩
      · exact Int.emod_nonneg _ (by omega)
      · exact Int.lt_trans (Int.emod_lt_of_pos _ (by omega)) (by omega)
    · rintro σ H2 ⟨f, u2, rfl, rfl, f0, f1⟩
      refine ⟨_, rfl, _, rfl, _, _, rfl, rfl, ⟨by omega, by omega⟩, _, _, rfl, rfl, _, _, rfl, rfl, .inl (by omega), .inl ⟨_, rfl, _, _, rfl, rfl, by omega, k _ _ s1⟩⟩
  · obtain ⟨u1, rfl⟩ := one1 hl
    rfl
theorem sm_ok {N D : Nat} {q : Rat} (h : Sm N D q) : 0 < q := by
  obtain ⟨n, d, h1, h2, h3, h4, rfl⟩ := h
  rw [← num_pos, frac_num (by omega)]
  have hg : 0 < (Int.gcd (n : Int) (d : Int) : Int) := Int.natCast_pos.mpr (Int.gcd_pos_of_ne_zero_right _ (by omega))
  have := Int.gcd_dvd_left (a := (n : Int)) (b := (d : Int))
  exact Int.ediv_pos_of_pos_of_dvd (by omega) (by omega) this
theorem small_big {n : Nat} (h : n < 2 ^ 64) : n < 2 ^ big := Nat.lt_of_lt_of_le h (Nat.pow_le_pow_right (by decide) (by show 64 ≤ 8500; decide))
theorem sc_law_amount : FnScope ["_law_deck_here"] ["_law_deck_here"] (defScope s_law_amount) := ⟨rfl, rfl, rfl, by decide +kernel, rfl, by decide +kernel, by decide +kernel⟩
theorem ok_law_amount (T : Txt K mg) (D_law_made : Dfn P w K mg base CX0 2 "_law_made" ["_law_top", "_law_bottom"] (sp2 sp_law_made)) (D_law_pick : Dfn P w K mg base CX0 1 "_law_pick" ["_law_deck_here", "_law_many"] (sp2 sp_law_pick)) : Dfn P w K mg base CX0 3 "_law_amount" ["_law_deck_here"] (sp1 sp_law_amount) := by
  obtain ⟨fd, F⟩ := T.f_law_amount
  refine ⟨T.g_law_amount, F.kp, fd, fnok_of F sc_law_amount (fun vs H Q E h => ?_) (fun vs H Q E h => ?_), F.binds (ps := ["_law_deck_here"]) fun _ _ _ _ _ _ us hl => ?_⟩
  · obtain ⟨a1, rfl, _⟩ := h
    rfl
  · obtain ⟨a1, rfl, h⟩ := h
    intro cdv A outer s hr
    refine ⟨_, (pss_one (ps_ret (pe_callD D_law_made hr (pa_cons (pe_op op_add pe_int (pe_callD D_law_pick hr (pa_cons (pv 0) (pa_cons pe_int pa_nil)))) (pa_cons (pe_op op_add pe_int (pe_callD D_law_pick hr (pa_cons (pv 0) (pa_cons pe_int pa_nil)))) pa_nil))))), ?_⟩
    obtain ⟨d, c, rfl, hd, k⟩ := h
    refine ⟨_, rfl, _, _, rfl, d, c, 6, rfl, hd, rfl, by decide, by decide, fun r1 H1 h1 f1 d1 => ⟨_, _, rfl, rfl, _, rfl, _, _, rfl, d, c, 4, rfl, d1, rfl, by decide, by decide, fun r2 H2 h2 f2 d2 => ⟨_, _, rfl, rfl, _, _, rfl, _, _, rfl, rfl, by omega, small_big (by omega), fun v H3 s3 h3 => ?_⟩⟩⟩
    exact k v _ H3 ⟨1 + r1, 1 + r2, by omega, by omega, by omega, by omega, rfl⟩ (FrD.trans f1 (FrD.trans f2 (FrD.of s3))) (d2.up s3) (by simpa using h3)
  · obtain ⟨u1, rfl⟩ := one1 hl
    rfl
theorem bd_dv {n d : Nat} {N : Nat} (h1 : 1 ≤ d) (hd : 5040 % d = 0) (hn : n ≤ N) : Bd D0 (N * 5040) (Rat.divInt (n : Int) (d : Int)) := by
  obtain ⟨e, he⟩ := Nat.dvd_of_mod_eq_zero hd
  refine bd_frac (e := e) (by omega) (by rw [← Int.natCast_mul, ← he]; rfl) ?_
  rw [Int.natAbs_natCast]
  have : e ≤ 5040 := by rw [he]; exact Nat.le_mul_of_pos_left _ (by omega)
  exact Nat.mul_le_mul hn this
theorem dv2 : ∀ a, a < 5 → ∀ b, b < 7 → 1 ≤ a → 1 ≤ b → 5040 % (a * b) = 0 := by decide
theorem div_mul {a b c d : Nat} (hb : 1 ≤ b) (hd : 1 ≤ d) : Rat.divInt (a : Int) (b : Int) * Rat.divInt (c : Int) (d : Int) = Rat.divInt ((a * c : Nat) : Int) ((b * d : Nat) : Int) := by
  rw [Rat.divInt_mul_divInt, Int.natCast_mul, Int.natCast_mul]
theorem sm_bd {N D : Nat} {q : Rat} (h : Sm N D q) (hD : D ≤ 4) : Bd D0 (N * 5040) q := by
  obtain ⟨n, d, h1, h2, h3, h4, rfl⟩ := h
  have := dv2 d (by omega) 1 (by decide) h3 (by decide)
  rw [Nat.mul_one] at this
  exact bd_dv h3 this h2
theorem sm_mul {q1 q2 : Rat} (a : Sm 6 4 q1) (b : Sm 6 4 q2) : Bd D0 181440 (q1 * q2) ∧ Bd D0 181440 (q1 * q2⁻¹) := by
  obtain ⟨n1, d1, a1, a2, a3, a4, rfl⟩ := a
  obtain ⟨n2, d2, b1, b2, b3, b4, rfl⟩ := b
  constructor
  · rw [div_mul a3 b3]
    exact bd_dv (N := 36) (Nat.mul_pos a3 b3) (dv2 d1 (by omega) d2 (by omega) a3 b3) (Nat.mul_le_mul a2 b2)
  · rw [Rat.inv_divInt, div_mul a3 b1]
    exact bd_dv (N := 36) (Nat.mul_pos a3 b1) (dv2 d1 (by omega) n2 (by omega) a3 b1) (Nat.le_trans (Nat.mul_le_mul a2 b4) (by decide))
theorem sc_law_stall : FnScope ["_law_deck_here", "_law_wares", "_law_one", "_law_other", "_law_root", "_law_factor"] ["_law_deck_here", "_law_wares"] (defScope s_law_stall) := ⟨rfl, rfl, rfl, by decide +kernel, rfl, by decide +kernel, by decide +kernel⟩
theorem ok_law_stall (T : Txt K mg) (D_law_pick : Dfn P w K mg base CX0 1 "_law_pick" ["_law_deck_here", "_law_many"] (sp2 sp_law_pick)) (D_law_amount : Dfn P w K mg base CX0 3 "_law_amount" ["_law_deck_here"] (sp1 sp_law_amount)) (D_law_product : Dfn P w K mg base CX0 3 "_law_product" ["_law_one", "_law_other"] (sp2 sp_law_product)) : Dfn P w K mg base CX0 4 "_law_stall" ["_law_deck_here", "_law_wares"] (sp2 sp_law_stall) := by
  obtain ⟨fd, F⟩ := T.f_law_stall
  refine ⟨T.g_law_stall, F.kp, fd, fnok_of F sc_law_stall (fun vs H Q E h => ?_) (fun vs H Q E h => ?_), F.binds (ps := ["_law_deck_here", "_law_wares"]) fun _ _ _ _ _ _ us hl => ?_⟩
  · obtain ⟨a1, a2, rfl, _⟩ := h
    rfl
  · obtain ⟨a1, a2, rfl, h⟩ := h
    intro cdv A outer s hr
    refine ⟨_, (pss_cons (ps_set (i := 2) sc_law_stall.nd rfl (Or.inl rfl) (pe_callD D_law_pick hr (pa_cons (pv 0) (pa_cons (pv 1) pa_nil))))
      (pss_cons (ps_set (i := 3) sc_law_stall.nd rfl (Or.inl rfl) (pe_callD D_law_pick hr (pa_cons (pv 0) (pa_cons (pe_op op_sub (pv 1) pe_int) pa_nil))))
      (pss_cons (ps_if (pt_cmpR op_ge (pv 3) (pv 2) (nomark _)) (pss_one (ps_set (i := 3) sc_law_stall.nd rfl (Or.inl rfl) (pe_op op_add (pv 3) pe_int))) pss_nil)
      (pss_cons (ps_set (i := 4) sc_law_stall.nd rfl (Or.inl rfl) (pe_callD D_law_amount hr (pa_cons (pv 0) pa_nil)))
      (pss_cons (ps_set (i := 5) sc_law_stall.nd rfl (Or.inl rfl) (pe_callD D_law_amount hr (pa_cons (pv 0) pa_nil)))
      (pss_one (ps_ret (pe_tup (pa_cons (pv 2) (pa_cons (pv 3) (pa_cons (pe_callD D_law_product hr (pa_cons (pv 4) (pa_cons (pv 5) pa_nil))) (pa_cons (pe_callD D_law_product hr (pa_cons (pv 4) (pa_cons (pe_revP (pv 5)) pa_nil))) (pa_cons (pv 4) pa_nil))))))))))))), ?_⟩
    obtain ⟨d, c, n, rfl, hd, rfl, n2, n8, k⟩ := h
    refine ⟨_, rfl, _, rfl, _, _, rfl, d, c, n, rfl, hd, rfl, by omega, by omega, fun r1 H1 hr1 f1 d1 => ⟨_, rfl, _, rfl, _, _, rfl, rfl, _, _, rfl, d, c, n - 1, rfl, d1, by show V.int ((n : Int) - 1) = V.int ((n - 1 : Nat) : Int); congr 1; omega, by omega, by omega, fun r2 H2 hr2 f2 d2 => ⟨_, rfl, _, rfl, _, _, rfl, rfl, _, rfl, ite2 (fun hc => ?_) (fun hc => ?_)⟩⟩⟩
    · have hc := of_decide_eq_true hc
      refine ⟨_, rfl, _, _, rfl, rfl, ?_⟩
      have hnn : r1 ≠ r2 + 1 := by omega
      have hno : r2 + 1 < n := by omega
      refine ⟨_, rfl, _, rfl, d, c, rfl, d2, fun vr qr H3 sr f3 d3 hr3 => ⟨_, rfl, _, rfl, d, c, rfl, d3, fun vf qf H4 sf f4 d4 hf4 => ?_⟩⟩
      have kp := FrD.keeps f4 d3
      have r0 := sm_ok sr
      have q0 := sm_ok sf
      have okr := (sm_bd sr (by decide)).ok0 (by decide)
      have okf := (sm_bd sf (by decide)).ok0 (by decide)
      obtain ⟨pf, rfl, hpf⟩ := hf4
      refine ⟨_, rfl, _, rfl, _, rfl, _, rfl, _, _, rfl, qr, qf, hr3.keep kp, ⟨pf, rfl, hpf⟩, okr, okf, fun va H5 s5 ha => ⟨_, rfl, _, rfl, _, _, _, rfl, .inl (.inl (s5 _ _ hpf)), fun pi fi => ?_⟩⟩
      have s6 := Same.new (o := .tup [.int (qf.den : Int), .int qf.num]) fi
      have s56 := Same.trans s5 s6
      refine ⟨_, _, rfl, qr, qf⁻¹, (hr3.keep kp).up s56, IsF.inv q0 upd_same, okr, Ok.inv q0 okf, fun vb H7 s7 hb => ⟨_, rfl, (by show 5 ≤ sizeLine; decide), fun a fa => ?_⟩⟩
      have s8 := Same.new (o := .tup [.int (r1 : Int), .int ((r2 + 1 : Nat) : Int), va, vb, vr]) fa
      have s48 := Same.trans s56 (Same.trans s7 s8)
      obtain ⟨m1, m2⟩ := sm_mul sr sf
      have i0 : 0 < qf⁻¹ := Rat.inv_pos.mpr q0
      exact k _ ⟨r1, r2 + 1, qr * qf, qr * qf⁻¹, qr⟩ _ ⟨hr1, hno, hnn, m1, m2, sm_bd sr (by decide), Rat.mul_pos r0 q0, Rat.mul_pos r0 i0, r0, by
        have hq : qf * qf⁻¹ = 1 := Rat.mul_inv_cancel _ (fun e => by rw [e] at q0; exact Rat.lt_irrefl q0)
        show qr * qf * (qr * qf⁻¹) = qr * qr
        have : qr * qf * (qr * qf⁻¹) = qr * qr * (qf * qf⁻¹) := by grind
        rw [this, hq, Rat.mul_one]⟩ sr (FrD.trans f1 (FrD.trans f2 (FrD.trans f3 (FrD.trans f4 (FrD.of s48))))) (d4.up s48) ⟨a, va, vb, vr, rfl, upd_same, ha.up (Same.trans s6 (Same.trans s7 s8)), hb.up s8, (hr3.keep kp).up s48⟩
    · have hc := of_decide_eq_false (Bool.eq_false_iff.mpr hc)
      have hnn : r1 ≠ r2 := by omega
      have hno : r2 < n := by omega
      refine ⟨_, rfl, _, rfl, d, c, rfl, d2, fun vr qr H3 sr f3 d3 hr3 => ⟨_, rfl, _, rfl, d, c, rfl, d3, fun vf qf H4 sf f4 d4 hf4 => ?_⟩⟩
      have kp := FrD.keeps f4 d3
      have r0 := sm_ok sr
      have q0 := sm_ok sf
      have okr := (sm_bd sr (by decide)).ok0 (by decide)
      have okf := (sm_bd sf (by decide)).ok0 (by decide)
      obtain ⟨pf, rfl, hpf⟩ := hf4
      refine ⟨_, rfl, _, rfl, _, rfl, _, rfl, _, _, rfl, qr, qf, hr3.keep kp, ⟨pf, rfl, hpf⟩, okr, okf, fun va H5 s5 ha => ⟨_, rfl, _, rfl, _, _, _, rfl, .inl (.inl (s5 _ _ hpf)), fun pi fi => ?_⟩⟩
      have s6 := Same.new (o := .tup [.int (qf.den : Int), .int qf.num]) fi
      have s56 := Same.trans s5 s6
      refine ⟨_, _, rfl, qr, qf⁻¹, (hr3.keep kp).up s56, IsF.inv q0 upd_same, okr, Ok.inv q0 okf, fun vb H7 s7 hb => ⟨_, rfl, (by show 5 ≤ sizeLine; decide), fun a fa => ?_⟩⟩
      have s8 := Same.new (o := .tup [.int (r1 : Int), .int (r2 : Int), va, vb, vr]) fa
      have s48 := Same.trans s56 (Same.trans s7 s8)
      obtain ⟨m1, m2⟩ := sm_mul sr sf
      have i0 : 0 < qf⁻¹ := Rat.inv_pos.mpr q0
      exact k _ ⟨r1, r2, qr * qf, qr * qf⁻¹, qr⟩ _ ⟨hr1, hno, hnn, m1, m2, sm_bd sr (by decide), Rat.mul_pos r0 q0, Rat.mul_pos r0 i0, r0, by
        have hq : qf * qf⁻¹ = 1 := Rat.mul_inv_cancel _ (fun e => by rw [e] at q0; exact Rat.lt_irrefl q0)
        show qr * qf * (qr * qf⁻¹) = qr * qr
        have : qr * qf * (qr * qf⁻¹) = qr * qr * (qf * qf⁻¹) := by grind
        rw [this, hq, Rat.mul_one]⟩ sr (FrD.trans f1 (FrD.trans f2 (FrD.trans f3 (FrD.trans f4 (FrD.of s48))))) (d4.up s48) ⟨a, va, vb, vr, rfl, upd_same, ha.up (Same.trans s6 (Same.trans s7 s8)), hb.up s8, (hr3.keep kp).up s48⟩
  · obtain ⟨u1, u2, rfl⟩ := two2 hl
    rfl
end
end R25

set_option Elab.async false
set_option linter.all false
set_option maxRecDepth 100000
set_option maxHeartbeats 4000000
namespace R25
open PySem PySem.Spec PyProof.Rows L2
/-! ### matrices: lists of lists -/
structure Mat (H : Hp) (rl : List Addr) (n : Nat) (A : Nat → Nat → Prop) (T : Nat → Nat → Rat) : Prop where
  nd : rl.Nodup
  len : rl.length = n
  row : ∀ (i : Nat) r, rl[i]? = some r → ∃ row, H r = some (.lst row) ∧ row.length = n ∧ ∀ (j : Nat) (y : V), row[j]? = some y → A i j → IsF H y (T i j)
section
variable {H H' : Hp} {rl : List Addr} {n : Nat} {A A' : Nat → Nat → Prop} {T T' : Nat → Nat → Rat}
theorem Mat.up (s : Same H H') (m : Mat H rl n A T) : Mat H' rl n A T := ⟨m.nd, m.len, fun i r e => let ⟨row, a, b, c⟩ := m.row i r e; ⟨row, s _ _ a, b, fun j y h1 h2 => (c j y h1 h2).up s⟩⟩
theorem Mat.congr (m : Mat H rl n A T) (h : ∀ i j, i < n → j < n → A' i j → A i j ∧ T i j = T' i j) : Mat H rl n A' T' := ⟨m.nd, m.len, fun i r e => by
  obtain ⟨row, a, b, c⟩ := m.row i r e
  refine ⟨row, a, b, fun j y h1 h2 => ?_⟩
  obtain ⟨z1, z2⟩ := h i j (by rw [← m.len]; exact (List.getElem?_eq_some_iff.mp e).1) (by rw [← b]; exact (List.getElem?_eq_some_iff.mp h1).1) h2
  exact z2 ▸ c j y h1 z1⟩
theorem Mat.frame {x : Addr} {o u : HO} (m : Mat H rl n A T) (hx : H x = some u) (hu : Mutb u = true) (hn : x ∉ rl) : Mat (upd H x o) rl n A T := ⟨m.nd, m.len, fun i r e => by
  obtain ⟨row, a, b, c⟩ := m.row i r e
  have hne : r ≠ x := fun z => hn (z ▸ List.mem_of_getElem? e)
  exact ⟨row, by rw [upd_ne hne]; exact a, b, fun j y h1 h2 => (c j y h1 h2).keep (Keeps.upd hx hu)⟩⟩
theorem Mat.set {u w : Nat} {r : Addr} {row : List V} {v : V} {q : Rat} (m : Mat H rl n A T) (hr : rl[u]? = some r) (hrow : H r = some (.lst row)) (hv : IsF H v q) : Mat (upd H r (.lst (row.set w v))) rl n A (fun i j => if i = u ∧ j = w then q else T i j) :=
  ⟨m.nd, m.len, fun i r' e => by
    have kp : Keeps H (upd H r (.lst (row.set w v))) := Keeps.upd hrow rfl
    obtain ⟨row', a, b, c⟩ := m.row i r' e
    by_cases hi : i = u
    · subst hi
      rw [hr] at e
      cases e
      rw [hrow] at a
      cases a
      refine ⟨_, upd_same, by simp [b], fun j y h1 h2 => ?_⟩
      rw [List.getElem?_set] at h1
      by_cases hj : w = j
      · subst hj
        rw [if_pos rfl] at h1
        by_cases hl : w < row.length
        · rw [if_pos hl] at h1
          cases h1
          simpa using hv.keep kp
        · rw [if_neg hl] at h1
          cases h1
      · rw [if_neg hj] at h1
        have := (c j y h1 h2).keep kp
        have hj' : ¬ j = w := fun z => hj z.symm
        simpa [hj'] using this
    · have hne : r' ≠ r := fun z => hi (nodup_at m.nd e (z ▸ hr))
      refine ⟨row', by rw [upd_ne hne]; exact a, b, fun j y h1 h2 => ?_⟩
      have := (c j y h1 h2).keep kp
      simpa [hi] using this⟩
theorem Mat.at_ (m : Mat H rl n A T) {i : Nat} (hi : i < n) : ∃ r row, rl[i]? = some r ∧ H r = some (.lst row) ∧ row.length = n ∧ ∀ (j : Nat) (y : V), row[j]? = some y → A i j → IsF H y (T i j) := by
  have e := List.getElem?_eq_getElem (l := rl) (by rw [m.len]; exact hi)
  obtain ⟨row, a, b, c⟩ := m.row i _ e
  exact ⟨_, row, e, a, b, c⟩
end
/-- stalls in a list -/
def StL (H : Hp) (v : V) (l : List Stl) : Prop := ∃ q vs, v = .ref q ∧ H q = some (.lst vs) ∧ ItS H vs l
theorem StL.up {H H' : Hp} {v : V} {l : List Stl} (s : Same H H') (h : StL H v l) : StL H' v l := let ⟨q, vs, e, a, b⟩ := h; ⟨q, vs, e, s _ _ a, b.keep (Keeps.of s)⟩
/-- the law's table: the slants and the ties -/
def TabL (H : Hp) (v : V) (n : Nat) (m : Tb) : Prop := ∃ p pa pt sl rl, v = .ref p ∧ H p = some (.lst [.ref pa, .ref pt]) ∧ H pa = some (.lst sl) ∧ sl.length = n ∧ ItF H sl m.s ∧ H pt = some (.lst (rl.map V.ref)) ∧ Mat H rl n (fun _ _ => True) m.t
theorem TabL.up {H H' : Hp} {v : V} {n : Nat} {m : Tb} (s : Same H H') (h : TabL H v n m) : TabL H' v n m :=
  let ⟨p, pa, pt, sl, rl, e, a, b, c, d, f, g⟩ := h
  ⟨p, pa, pt, sl, rl, e, s _ _ a, s _ _ b, c, d.keep (Keeps.of s), s _ _ f, g.up s⟩
/-- amounts as the law makes them -/
def Am (f : Nat → Rat) : Prop := ∀ k, Bd D0 12000000 (f k) ∧ 0 ≤ f k
theorem Am.amt {f : Nat → Rat} (h : Am f) : Amt f := fun k => ⟨(h k).1.mono (by decide), (h k).2⟩
section
variable (K : PySem.W.Frag)
def sp_law_table : F4 := fun a b c d H Q _ => ∃ (n : Nat) (l : List Stl) (ps ws : Nat → Rat), a = .int (n : Int) ∧ StL H b l ∧ OkW n l ∧ NumL H c n ps ∧ NumL H d n ws ∧ Amt ps ∧ Amt ws ∧ ∀ v H', Same H H' → TabL H' v n (tbl l ps ws) → Q v H'
def sp_law_edge : F4 := fun a b c d H Q _ => ∃ (dk ck : Addr) (n : Nat) (l : List Stl) (ps : Nat → Rat), a = .ref dk ∧ DeckAt H dk ck ∧ b = .int (n : Int) ∧ StL H c l ∧ OkW n l ∧ (∀ t ∈ l, Sm 6 4 t.r) ∧ NumL H d n ps ∧ (∀ k, Bd D0 20160 (ps k) ∧ 0 ≤ ps k) ∧ (∀ q vs, c = .ref q → H q = some (.lst vs) → q ≠ dk) ∧ (∀ q, d = .ref q → q ≠ dk) ∧
  ∀ p pm pw f1 f2 H', FrD dk H H' → DeckAt H' dk ck → H' p = some (.lst [.ref pm, .ref pw]) → NumL H' (.ref pm) n f1 → NumL H' (.ref pw) n f2 → (∀ k, Bd D0 11700000 (f1 k) ∧ 0 ≤ f1 k) → (∀ k, Bd D0 11700000 (f2 k) ∧ 0 ≤ f2 k) → p ≠ dk → pm ≠ dk → pw ≠ dk → Q (.ref p) H'
end
end R25

set_option Elab.async false
set_option linter.all false
set_option maxRecDepth 100000
set_option maxHeartbeats 4000000
namespace R25
open PySem PySem.Spec PyProof.Rows L2
section
variable {P : Program} {w : World} {K : PySem.W.Frag} {mg : Str → Option Value} {base : Heap}
theorem okS0 {n : Nat} {l : List Stl} (o : OkW n l) {ps ws : Nat → Rat} (ap : Amt ps) (aw : Amt ws) (i k : Nat) : Bd D0 (33554432 + 33554432 + 16 * 362880) ((ps k - ws k) + heldS (l.take i) k) :=
  (((ap k).1.sub (aw k).1).add (held_bd (fun t h => o.ok t (List.mem_of_mem_take h)) k)).mono (Nat.add_le_add_left (Nat.mul_le_mul_right _ (by rw [List.length_take]; exact Nat.le_trans (Nat.min_le_right _ _) o.l16)) _)
theorem sc_law_table : FnScope ["_law_wares", "_law_stalls", "_law_purse", "_law_wish", "_law_slants", "_law_one", "_law_other", "_law_ties", "_law_stall_here", "_law_side", "_law_ware"] ["_law_wares", "_law_stalls", "_law_purse", "_law_wish"] (defScope s_law_table) := ⟨rfl, rfl, rfl, by decide +kernel, rfl, by decide +kernel, by decide +kernel⟩
theorem ok_law_table (T : Txt K mg) (D_law_taken : Dfn P w K mg base CX0 3 "_law_taken" ["_law_one", "_law_other"] (sp2 sp_law_taken)) (D_law_added : Dfn P w K mg base CX0 3 "_law_added" ["_law_one", "_law_other"] (sp2 sp_law_added)) : Dfn P w K mg base CX0 4 "_law_table" ["_law_wares", "_law_stalls", "_law_purse", "_law_wish"] (sp4 sp_law_table) := by
  obtain ⟨fd, F⟩ := T.f_law_table
  refine ⟨T.g_law_table, F.kp, fd, fnok_of F sc_law_table (fun vs H Q E h => ?_) (fun vs H Q E h => ?_), F.binds (ps := ["_law_wares", "_law_stalls", "_law_purse", "_law_wish"]) fun _ _ _ _ _ _ us hl => ?_⟩
  · obtain ⟨a1, a2, a3, a4, rfl, _⟩ := h
    rfl
  · obtain ⟨a1, a2, a3, a4, rfl, h⟩ := h
    intro cdv A outer s hr
    refine ⟨_, (pss_cons (ps_setLc (i := 4) (own := [("_law_ware", 10)]) (g := gName 10) rfl sc_law_table.nd rfl rfl (sw_true rfl rfl rfl (by decide +kernel)) (pi_range1 rfl T.b_range (pa_cons (pv 0) pa_nil)) (blkOk_by (N := ["_law_wares", "_law_stalls", "_law_purse", "_law_wish", "_law_slants", "_law_one", "_law_other", "_law_ties", "_law_stall_here", "_law_side", "_law_ware"]) (sc := defScope s_law_table) (by decide +kernel)) (fun _ _ _ _ _ => (pg_name (i := 10) sc_law_table.nd rfl (Or.inl rfl))) (fun _ _ _ _ _ => pts_nil) (fun _ _ _ _ _ => (pe_callD D_law_taken hr (pa_cons (pe_ix (ix_listK (K := K)) (pv 2) (pv 10) (fun _ _ => rfl)) (pa_cons (pe_ix (ix_listK (K := K)) (pv 3) (pv 10) (fun _ _ => rfl)) pa_nil)))))
      (pss_cons (ps_setLc (i := 7) (own := [("_law_one", 5)]) (g := gName 5) rfl sc_law_table.nd rfl rfl (sw_true rfl rfl rfl (by decide +kernel)) (pi_range1 rfl T.b_range (pa_cons (pv 0) pa_nil)) (blkOk_by (N := ["_law_wares", "_law_stalls", "_law_purse", "_law_wish", "_law_slants", "_law_one", "_law_other", "_law_ties", "_law_stall_here", "_law_side", "_law_ware"]) (sc := defScope s_law_table) (by decide +kernel)) (fun _ _ _ _ _ => (pg_name (i := 5) sc_law_table.nd rfl (Or.inl rfl))) (fun _ _ _ _ _ => pts_nil) (fun _ _ _ _ _ => (pe_lc (own := [("_law_other", 6)]) (g := gName 6) rfl sc_law_table.nd (pi_range1 rfl T.b_range (pa_cons (pv 0) pa_nil)) (blkOk_by (N := ["_law_wares", "_law_stalls", "_law_purse", "_law_wish", "_law_slants", "_law_one", "_law_other", "_law_ties", "_law_stall_here", "_law_side", "_law_ware"]) (sc := _) (by kernel_rfl)) (fun _ _ _ _ _ => (pg_name (i := 6) sc_law_table.nd rfl (Or.inl rfl))) (fun _ _ _ _ _ => pts_nil) (fun _ _ _ _ _ => (pe_tup (pa_cons pe_int (pa_cons pe_int pa_nil)))))))
      (pss_cons (ps_for PassesOwn.never rfl (pi_list (pv 1)) (pg_name (i := 8) sc_law_table.nd rfl (Or.inl rfl)) (pss_one (ps_for PassesOwn.never rfl (pi_range1 rfl T.b_range (pa_cons pe_int pa_nil)) (pg_name (i := 9) sc_law_table.nd rfl (Or.inl rfl)) (pss_cons (ps_asg (pe_lst (pa_cons (pe_ix ix_tup (pv 8) (pv 9) (fun _ _ => rfl)) (pa_cons (pe_ix ix_tup (pv 8) (pe_op op_sub pe_int (pv 9)) (fun _ _ => rfl)) pa_nil))) (pg_lst rfl (pgs_cons (pg_name (i := 5) sc_law_table.nd rfl (Or.inl rfl)) (pgs_cons (pg_name (i := 6) sc_law_table.nd rfl (Or.inl rfl)) pgs_nil))))
      (pss_cons (ps_asg (pe_callD D_law_added hr (pa_cons (pe_ix ix_list (pv 4) (pv 5) (fun _ _ => rfl)) (pa_cons (pe_ix ix_tup (pv 8) (pe_op op_add pe_int (pv 9)) (fun _ _ => rfl)) pa_nil))) (pg_sub (pv 4) (pv 5) set_list))
      (pss_one (ps_asg (pe_callD D_law_added hr (pa_cons (pe_ix ix_list (pe_ix ix_list (pv 7) (pv 5) (fun _ _ => rfl)) (pv 6) (fun _ _ => rfl)) (pa_cons (pe_ix ix_tup (pv 8) pe_int (fun _ _ => rfl)) pa_nil))) (pg_sub (pe_ix ix_list (pv 7) (pv 5) (fun _ _ => rfl)) (pv 6) set_list))))))))
      (pss_one (ps_ret (pe_lst (pa_cons (pv 4) (pa_cons (pv 7) pa_nil)))))))), ?_⟩
    obtain ⟨n, l, ps, ws, rfl, ⟨qs, vst, rfl, hqs, hst⟩, ok, ⟨pp, vp, rfl, hpp, hpl, hpf⟩, ⟨pw, vw, rfl, hpw, hwl, hwf⟩, ap, aw, k⟩ := h
    have n8 := ok.n8
    refine ⟨_, rfl, _, rfl, by omega, by omega, fun pa fpa => ?_⟩
    refine lcm_range (n := n) (fun _ H' => Same H H') (fun k y H => IsF H y (ps k - ws k)) (Nat.lt_of_le_of_lt n8 (by decide)) (fun _ _ _ _ s h => h.keep s) (Same.new fpa) (fun _ _ _ _ s _ => Same.mut s fpa) ?_ ?_
    · rintro i H2 acc hi s2 hD hl C hC
      rw [Int.zero_add]
      have e1 := List.getElem?_eq_getElem (l := vp) (by rw [hpl]; exact hi)
      have e2 := List.getElem?_eq_getElem (l := vw) (by rw [hwl]; exact hi)
      exact ⟨rfl, _, rfl, _, rfl, _, _, _, _, rfl, rfl, .inl (.inl (s2 _ _ hpp)), (atI_nat e1), _, rfl, _, rfl, _, _, _, _, rfl, rfl, .inl (.inl (s2 _ _ hpw)), (atI_nat e2), _, _, rfl, _, _, (hpf i _ e1).up s2, (hwf i _ e2).up s2, (ap i).1.ok0 (by decide), (aw i).1.ok0 (by decide), fun v H4 s4 h4 => hC v H4 (s4 _ _ hD) (Keeps.of s4) (Same.trans s2 s4) h4⟩
    rintro H1 sl0 s1 hpa hsl hslf
    refine ⟨_, rfl, _, rfl, by omega, by omega, fun pt fpt => ?_⟩
    refine lc_range (n := n) (fun i H' => ∃ rl : List Addr, rl.length = i ∧ rl.Nodup ∧ (∀ r ∈ rl, H1 r = none ∧ r ≠ pt) ∧ H' pt = some (.lst (rl.map V.ref)) ∧ Same H1 H' ∧ ∀ r ∈ rl, ∃ row, H' r = some (.lst row) ∧ row.length = n ∧ ∀ (j : Nat) (y : V), row[j]? = some y → IsF H' y 0) ⟨[], rfl, List.nodup_nil, (fun r h => by cases h), upd_same, Same.new fpt, fun r h => by cases h⟩ ?_ ?_
    · rintro i H2 hi ⟨rl, h1, h2, h3, h4, h5, h6⟩
      refine ⟨rfl, _, rfl, _, rfl, by omega, by omega, fun r fr => ?_⟩
      have hrpt : r ≠ pt := fun e => by rw [e, h4] at fr; cases fr
      refine lcm_range (n := n) (fun _ H' => Same H2 H') (fun k y H => IsF H y 0) (Nat.lt_of_le_of_lt n8 (by decide)) (fun _ _ _ _ s h => h.keep s) (Same.new fr) (fun _ _ _ _ s _ => Same.mut s fr) ?_ ?_
      · rintro j H3 acc hj s3 hD hl C hC
        refine ⟨rfl, (by show 2 ≤ sizeLine; decide), fun a fa => ?_⟩
        have sa := Same.new (o := .tup [.int 0, .int 1]) fa
        exact hC _ _ (sa _ _ hD) (Keeps.of sa) (Same.trans s3 sa) ⟨a, rfl, upd_same⟩
      · rintro H3 row s3 hD hl hR
        have h43 := s3 _ _ h4
        have kp := Keeps.upd (o := .lst ((rl ++ [r]).map V.ref)) h43 rfl
        refine ⟨rl.map V.ref, h43, Nat.lt_of_lt_of_le (show (rl.map V.ref).length < 9 by rw [List.length_map]; omega) (by decide), rl ++ [r], by simp [h1], ?_, ?_, by rw [upd_same, List.map_append]; rfl, Same.mut (Same.trans h5 s3) fpt, ?_⟩
        · rw [List.nodup_append]
          refine ⟨h2, by simp, fun a ha b hb e => ?_⟩
          rw [List.mem_singleton] at hb
          subst hb
          obtain ⟨z, hz, _⟩ := h6 a ha
          rw [e, fr] at hz
          cases hz
        · intro a ha
          rcases List.mem_append.mp ha with ha | ha
          · exact h3 a ha
          · rw [List.mem_singleton] at ha
            subst ha
            exact ⟨Same.free h5 fr, hrpt⟩
        · intro a ha
          have kp' : Keeps H3 (upd H3 pt (.lst (rl.map V.ref ++ [.ref r]))) := Keeps.upd h43 rfl
          rcases List.mem_append.mp ha with ha | ha
          · obtain ⟨z, z1, z2, z3⟩ := h6 a ha
            exact ⟨z, by rw [upd_ne (h3 a ha).2]; exact s3 _ _ z1, z2, fun j y e => ((z3 j y e).up s3).keep kp'⟩
          · rw [List.mem_singleton] at ha
            subst ha
            exact ⟨row, by rw [upd_ne hrpt]; exact hD, hl, fun j y e => (hR j y e).keep kp'⟩
    rintro H2 ⟨rl, hrl, hnd, hr0, hpt, s2, hrows⟩
    have hpar : pa ∉ rl := fun e => by
      have := (hr0 pa e).1
      rw [hpa] at this
      cases this
    have hptr : pt ∉ rl := fun e => (hr0 pt e).2 rfl
    have hpapt : pa ≠ pt := fun e => by rw [← e, hpa] at fpt; cases fpt
    have hrf : ∀ r ∈ rl, H r = none := fun r h => Same.free s1 (hr0 r h).1
    have s12 := Same.trans s1 s2
    have hM0 : Mat H2 rl n (fun _ _ => True) (tieS (l.take 0)) := ⟨hnd, hrl, fun i r e => by
      obtain ⟨row, a, b, c⟩ := hrows r (List.mem_of_getElem? e)
      exact ⟨row, a, b, fun j y h _ => c j y h⟩⟩
    have hS0 : ItF H2 sl0 (fun k => (ps k - ws k) + heldS (l.take 0) k) := fun k y e => by
      have := (hslf k y e).up s2
      show IsF H2 y (ps k - ws k + 0)
      rw [Rat.add_zero]
      exact this
    refine ⟨_, rfl, _, rfl, ⟨_, .inl (.inl (s12 _ _ hqs))⟩, ?_⟩
    refine for_list (xs := vst) (fun i σ H' => ∃ u5 u6 u8 u9 u10 sl, σ = [some (.int n), some (.ref qs), some (.ref pp), some (.ref pw), some (.ref pa), u5, u6, some (.ref pt), u8, u9, u10] ∧ Same H H' ∧ H' pa = some (.lst sl) ∧ sl.length = n ∧ H' pt = some (.lst (rl.map V.ref)) ∧ ItF H' sl (fun k => (ps k - ws k) + heldS (l.take i) k) ∧ Mat H' rl n (fun _ _ => True) (tieS (l.take i)))
      ⟨_, _, _, _, _, sl0, rfl, s12, s2 _ _ hpa, hsl, hpt, hS0, hM0⟩ (fun i σ H' _ ⟨_, _, _, _, _, _, _, s, _⟩ => .inl (.inl (s _ _ hqs))) ?_ ?_
    · rintro i x σ H3 hx ⟨u5, u6, u8, u9, u10, sl, rfl, s3, h3a, hl3, h3t, hS3, hM3⟩
      obtain ⟨t, ht, hS⟩ := hst.2 i x hx
      obtain ⟨pt0, xa, xb, xr, rfl, hpt0, hxa, hxb, hxr⟩ := hS.keep (Keeps.of s3)
      have okt := ok.ok t (List.mem_of_getElem? ht)
      have okl : ∀ t ∈ l.take i, OkS n t := fun t h => ok.ok t (List.mem_of_mem_take h)
      have l16 : (l.take i).length ≤ 16 := by rw [List.length_take]; exact Nat.le_trans (Nat.min_le_right _ _) ok.l16
      refine ⟨_, rfl, by decide, by decide, ?_⟩
      refine for_range (n := 2) (fun m σ H' => ∃ w5 w6 w9 sl, σ = [some (.int n), some (.ref qs), some (.ref pp), some (.ref pw), some (.ref pa), w5, w6, some (.ref pt), some (.ref pt0), w9, u10] ∧ Keeps H3 H' ∧ Same H H' ∧ H' pa = some (.lst sl) ∧ sl.length = n ∧ H' pt = some (.lst (rl.map V.ref)) ∧ (m = 0 ∧ ItF H' sl (fun k => (ps k - ws k) + heldS (l.take i) k) ∧ Mat H' rl n (fun _ _ => True) (tieS (l.take i)) ∨ m = 1 ∧ ItF H' sl (fun k => if k = t.i then (ps t.i - ws t.i) + heldS (l.take i) t.i + t.a else (ps k - ws k) + heldS (l.take i) k) ∧ Mat H' rl n (fun _ _ => True) (fun a b => if a = t.i ∧ b = t.j then tieS (l.take i) t.i t.j + t.r else tieS (l.take i) a b) ∨ m = 2 ∧ ItF H' sl (fun k => if k = t.j then ((ps t.j - ws t.j) + heldS (l.take i) t.j) + t.b else (if k = t.i then (ps t.i - ws t.i) + heldS (l.take i) t.i + t.a else (ps k - ws k) + heldS (l.take i) k)) ∧ Mat H' rl n (fun _ _ => True) (fun a b => if a = t.j ∧ b = t.i then tieS (l.take i) t.j t.i + t.r else if a = t.i ∧ b = t.j then tieS (l.take i) t.i t.j + t.r else tieS (l.take i) a b)))
        ⟨_, _, _, sl, rfl, Keeps.rfl', s3, h3a, hl3, h3t, .inl ⟨rfl, hS3, hM3⟩⟩ ?_ ?_
      · rintro m σ H4 hm ⟨w5, w6, w9, sl, rfl, kp, s4, h4a, hsl4, h4t, hc⟩
        rcases hc with ⟨rfl, hS4, hM4⟩ | ⟨rfl, hS4, hM4⟩ | ⟨rfl, _⟩
        · have hm0 := hm
          have hU : t.i < sl.length := by rw [hsl4]; exact okt.i
          have eU := List.getElem?_eq_getElem hU
          obtain ⟨r, row, hr', hrow, hrl4, hrv⟩ := hM4.at_ okt.i
          have hV : t.j < row.length := by rw [hrl4]; exact okt.j
          have eV := List.getElem?_eq_getElem hV
          have rpa : pa ≠ r := fun e => hpar (e ▸ List.mem_of_getElem? hr')
          have rpt : pt ≠ r := fun e => hptr (e ▸ List.mem_of_getElem? hr')
          refine ⟨_, rfl, _, rfl, _, _, _, _, rfl, rfl, .inl (.inl (kp _ _ hpt0 rfl)), rfl, _, rfl, _, rfl, _, _, rfl, rfl, _, _, _, _, rfl, rfl, .inl (.inl (kp _ _ hpt0 rfl)), rfl, (by show 2 ≤ sizeLine; decide), fun t2 ft2 => ?_⟩
          have s5 := Same.new (o := .lst [.int (t.i : Int), .int (t.j : Int)]) ft2
          refine ⟨_, _, rfl, .inl (.inl upd_same), rfl, _, _, rfl, _, _, rfl, rfl, _, rfl, _, rfl, _, _, _, _, rfl, rfl, .inl (.inl (s5 _ _ h4a)), (atI_nat eU), _, rfl, _, rfl, _, _, rfl, rfl, _, _, _, _, rfl, rfl, .inl (.inl (s5 _ _ (kp _ _ hpt0 rfl))), rfl, _, _, rfl, _, _, (hS4 t.i _ eU).up s5, (hxa.keep kp).up s5, (okS0 ok ap aw i _).ok0 (by decide), okt.a.ok0 (by decide), fun vs H5 s6 hvs => ?_⟩
          have s46 := Same.trans s5 s6
          refine ⟨_, rfl, _, rfl, _, _, _, _, rfl, rfl, (s46 _ _ h4a), Evl.ixN_nat hU, ?_⟩
          have kp7 : Keeps H5 (upd H5 pa (.lst (sl.set t.i vs))) := Keeps.upd (s46 _ _ h4a) rfl
          have h7t : (upd H5 pa (.lst (sl.set t.i vs))) pt = some (.lst (rl.map V.ref)) := by rw [upd_ne hpapt.symm]; exact s46 _ _ h4t
          have h7r : (upd H5 pa (.lst (sl.set t.i vs))) r = some (.lst row) := by rw [upd_ne rpa.symm]; exact s46 _ _ hrow
          have s7 : Same H (upd H5 pa (.lst (sl.set t.i vs))) := Same.mut (Same.trans s4 s46) fpa
          have m7 := (hM4.up s46).frame (o := .lst (sl.set t.i vs)) (s46 _ _ h4a) rfl hpar
          have i7 : ItF (upd H5 pa (.lst (sl.set t.i vs))) (sl.set t.i vs) _ := ((hS4.keep (Keeps.of s46)).set (i := t.i) hvs).keep kp7
          have kpA := Keeps.trans kp (Keeps.trans (Keeps.of s46) kp7)
          have hV7 := ((hrv t.j _ eV trivial).up s46).keep kp7
          generalize hH7 : upd H5 pa (.lst (sl.set t.i vs)) = H7
          rw [hH7] at h7t h7r s7 m7 i7 kpA hV7
          have h7a : H7 pa = some (.lst (sl.set t.i vs)) := by rw [← hH7]; exact upd_same
          clear hH7
          refine ⟨_, rfl, _, rfl, _, _, _, _, rfl, rfl, .inl (.inl h7t), (atI_nat (by rw [List.getElem?_map, hr']; rfl)), _, rfl, _, _, _, _, rfl, rfl, .inl (.inl h7r), (atI_nat eV), _, rfl, _, _, _, _, rfl, rfl, .inl (.inl (kpA _ _ hpt0 rfl)), rfl, _, _, rfl, _, _, hV7, hxr.keep kpA, ok_tie okl l16 _ _, okt.r.ok0 (by decide), fun vt H8 s8 hvt => ?_⟩
          refine ⟨_, rfl, _, rfl, _, _, _, _, rfl, rfl, .inl (.inl (s8 _ _ h7t)), (atI_nat (by rw [List.getElem?_map, hr']; rfl)), _, rfl, _, _, _, _, rfl, rfl, (s8 _ _ h7r), Evl.ixN_nat hV, ?_⟩
          have kp9 : Keeps H8 (upd H8 r (.lst (row.set t.j vt))) := Keeps.upd (s8 _ _ h7r) rfl
          refine ⟨_, _, _, sl.set t.i vs, rfl, Keeps.trans kpA (Keeps.trans (Keeps.of s8) kp9), Same.mut (Same.trans s7 s8) (hrf r (List.mem_of_getElem? hr')), ?_, by simp [hsl4], ?_, .inr (.inl ⟨rfl, i7.keep (Keeps.trans (Keeps.of s8) kp9), (m7.up s8).set hr' (s8 _ _ h7r) hvt⟩)⟩
          · rw [upd_ne rpa]
            exact s8 _ _ h7a
          · rw [upd_ne rpt]
            exact s8 _ _ h7t
        · have nij : ¬ t.j = t.i := fun e => okt.ne e.symm
          have hS5 : ∀ (y : V), sl[t.j]? = some y → IsF H4 y ((ps t.j - ws t.j) + heldS (l.take i) t.j) := fun y e => by
            have := hS4 t.j y e
            simpa [nij] using this
          have hU : t.j < sl.length := by rw [hsl4]; exact okt.j
          have eU := List.getElem?_eq_getElem hU
          obtain ⟨r, row, hr', hrow, hrl4, hrv⟩ := hM4.at_ okt.j
          have hV : t.i < row.length := by rw [hrl4]; exact okt.i
          have eV := List.getElem?_eq_getElem hV
          have rpa : pa ≠ r := fun e => hpar (e ▸ List.mem_of_getElem? hr')
          have rpt : pt ≠ r := fun e => hptr (e ▸ List.mem_of_getElem? hr')
          refine ⟨_, rfl, _, rfl, _, _, _, _, rfl, rfl, .inl (.inl (kp _ _ hpt0 rfl)), rfl, _, rfl, _, rfl, _, _, rfl, rfl, _, _, _, _, rfl, rfl, .inl (.inl (kp _ _ hpt0 rfl)), rfl, (by show 2 ≤ sizeLine; decide), fun t2 ft2 => ?_⟩
          have s5 := Same.new (o := .lst [.int (t.j : Int), .int (t.i : Int)]) ft2
          refine ⟨_, _, rfl, .inl (.inl upd_same), rfl, _, _, rfl, _, _, rfl, rfl, _, rfl, _, rfl, _, _, _, _, rfl, rfl, .inl (.inl (s5 _ _ h4a)), (atI_nat eU), _, rfl, _, rfl, _, _, rfl, rfl, _, _, _, _, rfl, rfl, .inl (.inl (s5 _ _ (kp _ _ hpt0 rfl))), rfl, _, _, rfl, _, _, (hS5 _ eU).up s5, (hxb.keep kp).up s5, (okS0 ok ap aw i _).ok0 (by decide), okt.b.ok0 (by decide), fun vs H5 s6 hvs => ?_⟩
          have s46 := Same.trans s5 s6
          refine ⟨_, rfl, _, rfl, _, _, _, _, rfl, rfl, (s46 _ _ h4a), Evl.ixN_nat hU, ?_⟩
          have kp7 : Keeps H5 (upd H5 pa (.lst (sl.set t.j vs))) := Keeps.upd (s46 _ _ h4a) rfl
          have h7t : (upd H5 pa (.lst (sl.set t.j vs))) pt = some (.lst (rl.map V.ref)) := by rw [upd_ne hpapt.symm]; exact s46 _ _ h4t
          have h7r : (upd H5 pa (.lst (sl.set t.j vs))) r = some (.lst row) := by rw [upd_ne rpa.symm]; exact s46 _ _ hrow
          have s7 : Same H (upd H5 pa (.lst (sl.set t.j vs))) := Same.mut (Same.trans s4 s46) fpa
          have m7 := (hM4.up s46).frame (o := .lst (sl.set t.j vs)) (s46 _ _ h4a) rfl hpar
          have i7 : ItF (upd H5 pa (.lst (sl.set t.j vs))) (sl.set t.j vs) _ := ((hS4.keep (Keeps.of s46)).set (i := t.j) hvs).keep kp7
          have kpA := Keeps.trans kp (Keeps.trans (Keeps.of s46) kp7)
          have hV7 : IsF (upd H5 pa (.lst (sl.set t.j vs))) (row[t.i]'hV) (tieS (l.take i) t.j t.i) := by
            have := ((hrv t.i _ eV trivial).up s46).keep kp7
            simpa [nij] using this
          generalize hH7 : upd H5 pa (.lst (sl.set t.j vs)) = H7
          rw [hH7] at h7t h7r s7 m7 i7 kpA hV7
          have h7a : H7 pa = some (.lst (sl.set t.j vs)) := by rw [← hH7]; exact upd_same
          clear hH7
          refine ⟨_, rfl, _, rfl, _, _, _, _, rfl, rfl, .inl (.inl h7t), (atI_nat (by rw [List.getElem?_map, hr']; rfl)), _, rfl, _, _, _, _, rfl, rfl, .inl (.inl h7r), (atI_nat eV), _, rfl, _, _, _, _, rfl, rfl, .inl (.inl (kpA _ _ hpt0 rfl)), rfl, _, _, rfl, _, _, hV7, hxr.keep kpA, ok_tie okl l16 _ _, okt.r.ok0 (by decide), fun vt H8 s8 hvt => ?_⟩
          refine ⟨_, rfl, _, rfl, _, _, _, _, rfl, rfl, .inl (.inl (s8 _ _ h7t)), (atI_nat (by rw [List.getElem?_map, hr']; rfl)), _, rfl, _, _, _, _, rfl, rfl, (s8 _ _ h7r), Evl.ixN_nat hV, ?_⟩
          have kp9 : Keeps H8 (upd H8 r (.lst (row.set t.i vt))) := Keeps.upd (s8 _ _ h7r) rfl
          refine ⟨_, _, _, sl.set t.j vs, rfl, Keeps.trans kpA (Keeps.trans (Keeps.of s8) kp9), Same.mut (Same.trans s7 s8) (hrf r (List.mem_of_getElem? hr')), ?_, by simp [hsl4], ?_, .inr (.inr ⟨rfl, i7.keep (Keeps.trans (Keeps.of s8) kp9), (m7.up s8).set hr' (s8 _ _ h7r) hvt⟩)⟩
          · rw [upd_ne rpa]
            exact s8 _ _ h7a
          · rw [upd_ne rpt]
            exact s8 _ _ h7t
        · omega
      · rintro σ H4 ⟨w5, w6, w9, sl, rfl, kp, s4, h4a, hsl4, h4t, hc⟩
        rcases hc with ⟨h, _⟩ | ⟨h, _⟩ | ⟨_, hS4, hM4⟩
        · cases h
        · cases h
        · refine ⟨_, _, _, _, _, sl, rfl, s4, h4a, hsl4, h4t, ?_, ?_⟩
          · have e : (fun k => (ps k - ws k) + heldS (l.take (i + 1)) k) = (fun k => if k = t.j then ((ps t.j - ws t.j) + heldS (l.take i) t.j) + t.b else (if k = t.i then (ps t.i - ws t.i) + heldS (l.take i) t.i + t.a else (ps k - ws k) + heldS (l.take i) k)) := by
              rw [bring_step (fun k => (ps k - ws k) + heldS (l.take i) k) t okt.ne, take_snoc ht, held_snoc]
              funext k
              rw [Rat.add_assoc]
            rw [e]
            exact hS4
          · have e : tieS (l.take (i + 1)) = (fun a b => if a = t.j ∧ b = t.i then tieS (l.take i) t.j t.i + t.r else if a = t.i ∧ b = t.j then tieS (l.take i) t.i t.j + t.r else tieS (l.take i) a b) := by
              funext a b
              rw [take_snoc ht, tie_snoc]
              unfold tieOf
              by_cases h1 : a = t.j ∧ b = t.i
              · obtain ⟨rfl, rfl⟩ := h1
                simp [okt.ne, Rat.zero_add]
              · by_cases h2 : a = t.i ∧ b = t.j
                · obtain ⟨rfl, rfl⟩ := h2
                  have : ¬ (t.i = t.j ∧ t.j = t.i) := fun e => okt.ne e.1
                  simp [this, okt.ne, Rat.add_zero]
                · have h1' : ¬ (t.j = a ∧ t.i = b) := fun e => h1 ⟨e.1.symm, e.2.symm⟩
                  have h2' : ¬ (t.i = a ∧ t.j = b) := fun e => h2 ⟨e.1.symm, e.2.symm⟩
                  rw [if_neg h1, if_neg h2, if_neg h1', if_neg h2', Rat.add_zero, Rat.add_zero]
            rw [e]
            exact hM4
    · rintro σ H3 ⟨u5, u6, u8, u9, u10, sl, rfl, s3, h3a, hl3, h3t, hS3, hM3⟩
      rw [hst.len, List.take_length] at hS3 hM3
      refine ⟨_, rfl, _, rfl, (by show 2 ≤ sizeLine; decide), fun p fp => ?_⟩
      have s4 := Same.new (o := .lst [.ref pa, .ref pt]) fp
      refine k _ _ (Same.trans s3 s4) ⟨p, pa, pt, sl, rl, rfl, upd_same, s4 _ _ h3a, hl3, fun j y e => ?_, s4 _ _ h3t, hM3.up s4⟩
      have e2 : (tbl l ps ws).s j = (ps j - ws j) + heldS l j := by
        show heldS l j + ps j - ws j = _
        grind
      rw [e2]
      exact (hS3 j y e).up s4
  · obtain ⟨u1, u2, u3, u4, rfl⟩ := four4 hl
    rfl
end
end R25

set_option Elab.async false
set_option linter.all false
set_option maxRecDepth 100000
set_option maxHeartbeats 4000000
namespace R25
open PySem PySem.Spec PyProof.Rows L2
section
variable {P : Program} {w : World} {K : PySem.W.Frag} {mg : Str → Option Value} {base : Heap}
theorem sm_ratio {q1 q2 : Rat} (a : Sm 3 2 q1) (b : Sm 3 2 q2) : Bd D0 30240 (q1 * q2⁻¹) := by
  obtain ⟨n1, d1, a1, a2, a3, a4, rfl⟩ := a
  obtain ⟨n2, d2, b1, b2, b3, b4, rfl⟩ := b
  rw [Rat.inv_divInt, div_mul a3 b1]
  exact bd_dv (N := 6) (Nat.mul_pos a3 b1) (dv2 d1 (by omega) n2 (by omega) a3 b1) (Nat.mul_le_mul a2 b4)
theorem sm_pull {r q1 q2 : Rat} (c : Sm 6 4 r) (a : Sm 3 2 q1) (b : Sm 3 2 q2) : Bd D0 181440 (r * (q1 * q2⁻¹)) := by
  obtain ⟨n1, d1, a1, a2, a3, a4, rfl⟩ := a
  obtain ⟨n2, d2, b1, b2, b3, b4, rfl⟩ := b
  obtain ⟨n0, d0, c1, c2, c3, c4, rfl⟩ := c
  rw [Rat.inv_divInt, div_mul a3 b1, div_mul c3 (Nat.mul_pos a3 b1)]
  exact bd_dv (N := 36) (Nat.mul_pos c3 (Nat.mul_pos a3 b1)) (dv2 d0 (by omega) (d1 * n2) (Nat.lt_of_le_of_lt (Nat.mul_le_mul a4 b2) (by decide)) c3 (Nat.mul_pos a3 b1)) (Nat.mul_le_mul c2 (Nat.mul_le_mul a2 b4))
theorem sc_law_edge : FnScope ["_law_deck_here", "_law_wares", "_law_stalls", "_law_purse", "_law_ware", "_law_scale", "_law_more", "_law_wish", "_law_stall_here", "_law_side", "_law_one", "_law_other", "_law_pull"] ["_law_deck_here", "_law_wares", "_law_stalls", "_law_purse"] (defScope s_law_edge) := ⟨rfl, rfl, rfl, by decide +kernel, rfl, by decide +kernel, by decide +kernel⟩
theorem ok_law_edge (T : Txt K mg) (D_law_made : Dfn P w K mg base CX0 2 "_law_made" ["_law_top", "_law_bottom"] (sp2 sp_law_made)) (D_law_pick : Dfn P w K mg base CX0 1 "_law_pick" ["_law_deck_here", "_law_many"] (sp2 sp_law_pick)) (D_law_product : Dfn P w K mg base CX0 3 "_law_product" ["_law_one", "_law_other"] (sp2 sp_law_product)) (D_law_added : Dfn P w K mg base CX0 3 "_law_added" ["_law_one", "_law_other"] (sp2 sp_law_added)) (D_law_taken : Dfn P w K mg base CX0 3 "_law_taken" ["_law_one", "_law_other"] (sp2 sp_law_taken)) : Dfn P w K mg base CX0 4 "_law_edge" ["_law_deck_here", "_law_wares", "_law_stalls", "_law_purse"] (sp4 sp_law_edge) := by
  obtain ⟨fd, F⟩ := T.f_law_edge
  refine ⟨T.g_law_edge, F.kp, fd, fnok_of F sc_law_edge (fun vs H Q E h => ?_) (fun vs H Q E h => ?_), F.binds (ps := ["_law_deck_here", "_law_wares", "_law_stalls", "_law_purse"]) fun _ _ _ _ _ _ us hl => ?_⟩
  · obtain ⟨a1, a2, a3, a4, rfl, _⟩ := h
    rfl
  · obtain ⟨a1, a2, a3, a4, rfl, h⟩ := h
    intro cdv A outer s hr
    refine ⟨_, (pss_cons (ps_setLc (i := 5) (own := [("_law_ware", 4)]) (g := gName 4) rfl sc_law_edge.nd rfl rfl (sw_true rfl rfl rfl (by decide +kernel)) (pi_range1 rfl T.b_range (pa_cons (pv 1) pa_nil)) (blkOk_by (N := ["_law_deck_here", "_law_wares", "_law_stalls", "_law_purse", "_law_ware", "_law_scale", "_law_more", "_law_wish", "_law_stall_here", "_law_side", "_law_one", "_law_other", "_law_pull"]) (sc := defScope s_law_edge) (by decide +kernel)) (fun _ _ _ _ _ => (pg_name (i := 4) sc_law_edge.nd rfl (Or.inl rfl))) (fun _ _ _ _ _ => pts_nil) (fun _ _ _ _ _ => (pe_callD D_law_made hr (pa_cons (pe_op op_add pe_int (pe_callD D_law_pick hr (pa_cons (pv 0) (pa_cons pe_int pa_nil)))) (pa_cons (pe_op op_add pe_int (pe_callD D_law_pick hr (pa_cons (pv 0) (pa_cons pe_int pa_nil)))) pa_nil)))))
      (pss_cons (ps_set (i := 6) sc_law_edge.nd rfl (Or.inl rfl) (pe_callTy call_list_of (by rfl) T.b_list (by decide +kernel) (pa_cons (pv 3) pa_nil)))
      (pss_cons (ps_set (i := 7) sc_law_edge.nd rfl (Or.inl rfl) (pe_callTy call_list_of (by rfl) T.b_list (by decide +kernel) (pa_cons (pv 3) pa_nil)))
      (pss_cons (ps_for PassesOwn.never rfl (pi_list (pv 2)) (pg_name (i := 8) sc_law_edge.nd rfl (Or.inl rfl)) (pss_one (ps_for PassesOwn.never rfl (pi_range1 rfl T.b_range (pa_cons pe_int pa_nil)) (pg_name (i := 9) sc_law_edge.nd rfl (Or.inl rfl)) (pss_cons (ps_asg (pe_lst (pa_cons (pe_ix ix_tup (pv 8) (pv 9) (fun _ _ => rfl)) (pa_cons (pe_ix ix_tup (pv 8) (pe_op op_sub pe_int (pv 9)) (fun _ _ => rfl)) pa_nil))) (pg_lst rfl (pgs_cons (pg_name (i := 10) sc_law_edge.nd rfl (Or.inl rfl)) (pgs_cons (pg_name (i := 11) sc_law_edge.nd rfl (Or.inl rfl)) pgs_nil))))
      (pss_cons (ps_set (i := 12) sc_law_edge.nd rfl (Or.inl rfl) (pe_callD D_law_product hr (pa_cons (pe_ix ix_tup (pv 8) pe_int (fun _ _ => rfl)) (pa_cons (pe_callD D_law_product hr (pa_cons (pe_ix ix_list (pv 5) (pv 11) (fun _ _ => rfl)) (pa_cons (pe_revP (pe_ix ix_list (pv 5) (pv 10) (fun _ _ => rfl))) pa_nil))) pa_nil))))
      (pss_one (ps_asg (pe_callD D_law_added hr (pa_cons (pe_ix ix_list (pv 7) (pv 10) (fun _ _ => rfl)) (pa_cons (pe_callD D_law_taken hr (pa_cons (pe_ix ix_tup (pv 8) (pe_op op_add pe_int (pv 9)) (fun _ _ => rfl)) (pa_cons (pv 12) pa_nil))) pa_nil))) (pg_sub (pv 7) (pv 10) set_list))))))))
      (pss_cons (ps_for PassesOwn.never rfl (pi_range1 rfl T.b_range (pa_cons (pv 1) pa_nil)) (pg_name (i := 4) sc_law_edge.nd rfl (Or.inl rfl)) (pss_one (ps_if (pt_cmpR op_lt (pe_ix ix_tup (pe_ix ix_list (pv 7) (pv 4) (fun _ _ => rfl)) pe_int (fun _ _ => rfl)) pe_int (nomark _)) (pss_cons (ps_asg (pe_callD D_law_taken hr (pa_cons (pe_ix ix_list (pv 3) (pv 4) (fun _ _ => rfl)) (pa_cons (pe_ix ix_list (pv 7) (pv 4) (fun _ _ => rfl)) pa_nil))) (pg_sub (pv 6) (pv 4) set_list))
      (pss_one (ps_asg (pe_tup (pa_cons pe_int (pa_cons pe_int pa_nil))) (pg_sub (pv 7) (pv 4) set_list)))) pss_nil)))
      (pss_one (ps_ret (pe_lst (pa_cons (pv 6) (pa_cons (pv 7) pa_nil)))))))))), ?_⟩
    obtain ⟨dk, ck, n, l, ps, rfl, hd, rfl, ⟨qs, vst, rfl, hqs, hst⟩, ok, hsm, ⟨pp, vp, rfl, hpp, hpl, hpf⟩, hps, ns1, ns2, k⟩ := h
    have n8 := ok.n8
    have l16 := ok.l16
    have hqd := ns1 _ _ rfl hqs
    have hpd := ns2 _ rfl
    refine ⟨_, rfl, _, rfl, by omega, by omega, fun D fD => ?_⟩
    have hDn := hd.ne fD
    refine lcm_range (n := n) (fun _ H' => FrD dk H H' ∧ DeckAt H' dk ck) (fun k y H => ∃ q, Sm 3 2 q ∧ IsF H y q) (Nat.lt_of_le_of_lt n8 (by decide)) (fun _ _ _ _ s ⟨q, a, b⟩ => ⟨q, a, b.keep s⟩) ⟨FrD.of (Same.new fD), hd.up (Same.new fD)⟩ (fun _ _ _ _ ⟨f, d⟩ _ => ⟨FrD.mine f fD, d.mut hDn.1 hDn.2⟩) ?_ ?_
    · rintro i H2 acc hi ⟨f2, d2⟩ hD hl C hC
      refine ⟨rfl, _, rfl, _, _, rfl, dk, ck, 3, rfl, d2, rfl, by decide, by decide, fun r1 H3 h1 f3 d3 => ⟨_, _, rfl, rfl, _, rfl, _, _, rfl, dk, ck, 2, rfl, d3, rfl, by decide, by decide, fun r2 H4 h2 f4 d4 => ⟨_, _, rfl, rfl, _, _, rfl, _, _, rfl, rfl, by omega, small_big (by omega), fun v H5 s5 h5 => ?_⟩⟩⟩
      have f25 := FrD.trans f3 (FrD.trans f4 (FrD.of s5))
      exact hC v H5 (f25 _ _ hD hDn.1) (FrD.keeps f25 d2) ⟨FrD.trans f2 f25, d4.up s5⟩ ⟨_, ⟨1 + r1, 1 + r2, by omega, by omega, by omega, by omega, rfl⟩, by simpa using h5⟩
    rintro H1 sc ⟨f1, d1⟩ hD hl hsc
    have scAt : ∀ i, i < n → ∃ q, Sm 3 2 q ∧ ∃ p, sc[i]? = some (V.ref p) ∧ H1 p = some (.tup [.int q.num, .int q.den]) := fun i hi => by
      have e := List.getElem?_eq_getElem (l := sc) (by rw [hl]; exact hi)
      obtain ⟨q, a, p, b, c⟩ := hsc i _ e
      exact ⟨q, a, p, by rw [e, b], c⟩
    have hpp1 := f1 _ _ hpp hpd
    have hqs1 := f1 _ _ hqs hqd
    have hpf1 : ItF H1 vp ps := hpf.keep (FrD.keeps f1 hd)
    have hst1 := hst.keep (FrD.keeps f1 hd)
    refine ⟨_, rfl, _, vp, rfl, .inl (.inl (.inl hpp1)), fun pm fpm => ?_⟩
    have sm := Same.new (o := .lst vp) fpm
    refine ⟨_, rfl, _, vp, rfl, .inl (.inl (.inl (sm _ _ hpp1))), fun pw fpw => ?_⟩
    have fpw1 := Same.free sm fpw
    have hmw : pm ≠ pw := fun e => by rw [← e, upd_same] at fpw; cases fpw
    have sw := Same.trans sm (Same.new (o := .lst vp) fpw)
    refine ⟨_, rfl, _, rfl, ⟨_, .inl (.inl (sw _ _ hqs1))⟩, ?_⟩
    refine for_list (xs := vst) (fun i σ H' => ∃ u4 u8 u9 u10 u11 u12 f lw, σ = [some (.ref dk), some (.int n), some (.ref qs), some (.ref pp), u4, some (.ref D), some (.ref pm), some (.ref pw), u8, u9, u10, u11, u12] ∧ Same H1 H' ∧ H' pm = some (.lst vp) ∧ H' pw = some (.lst lw) ∧ lw.length = n ∧ ItF H' lw f ∧ ∀ k, Bd D0 (20160 + i * 725760) (f k))
      ⟨_, _, _, _, _, _, ps, vp, rfl, sw, Same.new fpw _ _ upd_same, upd_same, hpl, hpf1.keep (Keeps.of sw), fun k => (hps k).1⟩ (fun i σ H' _ ⟨_, _, _, _, _, _, _, _, _, s, _⟩ => .inl (.inl (s _ _ hqs1))) ?_ ?_
    · rintro i x σ H3 hx ⟨u4, u8, u9, u10, u11, u12, f0, lw0, rfl, s13, hm3, hw3, hlw3, hf3, hb3⟩
      obtain ⟨t, ht, hS⟩ := hst1.2 i x hx
      obtain ⟨pt0, xa, xb, xr, rfl, hpt0, hxa, hxb, hxr⟩ := hS
      have htl := List.mem_of_getElem? ht
      have okt := ok.ok t htl
      have hi16 : i < 16 := by
        have := (List.getElem?_eq_some_iff.mp ht).1
        omega
      refine ⟨_, rfl, by decide, by decide, ?_⟩
      refine for_range (n := 2) (fun m σ H' => ∃ w9 w10 w11 w12 f lw, σ = [some (.ref dk), some (.int n), some (.ref qs), some (.ref pp), u4, some (.ref D), some (.ref pm), some (.ref pw), some (.ref pt0), w9, w10, w11, w12] ∧ Same H1 H' ∧ H' pm = some (.lst vp) ∧ H' pw = some (.lst lw) ∧ lw.length = n ∧ ItF H' lw f ∧ ∀ k, Bd D0 (20160 + i * 725760 + m * 362880) (f k))
        ⟨_, _, _, _, f0, lw0, rfl, s13, hm3, hw3, hlw3, hf3, fun k => (hb3 k)⟩ ?_ ?_
      · rintro m σ H4 hm ⟨w9, w10, w11, w12, f, lw, rfl, s14, hm4, hw4, hlw, hf4, hb4⟩
        have hmc : m = 0 ∨ m = 1 := by omega
        rcases hmc with rfl | rfl
        · have okt' := okt
          obtain ⟨qo, so, po, ho1, hpo⟩ : ∃ q, Sm 3 2 q ∧ ∃ p, sc[t.j]? = some (V.ref p) ∧ H1 p = some (.tup [.int q.num, .int q.den]) := scAt _ okt.j
          obtain ⟨qi, si, pi, hi1, hpi⟩ : ∃ q, Sm 3 2 q ∧ ∃ p, sc[t.i]? = some (V.ref p) ∧ H1 p = some (.tup [.int q.num, .int q.den]) := scAt _ okt.i
          have hU : t.i < lw.length := by rw [hlw]; exact okt.i
          have eU := List.getElem?_eq_getElem hU
          have hS4 : H4 pt0 = some (.tup [.int (t.i : Int), .int (t.j : Int), xa, xb, xr]) := s14 _ _ hpt0
          refine ⟨_, rfl, _, rfl, _, _, _, _, rfl, rfl, .inl (.inl hS4), rfl, _, rfl, _, rfl, _, _, rfl, rfl, _, _, _, _, rfl, rfl, .inl (.inl hS4), rfl, (by show 2 ≤ sizeLine; decide), fun t2 ft2 => ?_⟩
          have s5 := Same.new (o := .lst [.int (t.i : Int), .int (t.j : Int)]) ft2
          have s15 := Same.trans s14 s5
          refine ⟨_, _, rfl, .inl (.inl upd_same), rfl, _, _, rfl, _, _, rfl, rfl, _, rfl, _, _, _, _, rfl, rfl, .inl (.inl (s5 _ _ hS4)), rfl, _, rfl, _, rfl, _, _, _, _, rfl, rfl, .inl (.inl (s15 _ _ hD)), (atI_nat ho1), _, rfl, _, rfl, _, _, _, _, rfl, rfl, .inl (.inl (s15 _ _ hD)), (atI_nat hi1), _, _, _, rfl, .inl (.inl (s15 _ _ hpi)), fun pr fpr => ?_⟩
          have s6 := Same.new (o := .tup [.int (qi.den : Int), .int qi.num]) fpr
          have s16 := Same.trans s15 s6
          have qi0 := sm_ok si
          have oki := (sm_bd si (by decide)).ok0 (by decide)
          refine ⟨_, _, rfl, qo, qi⁻¹, ⟨po, rfl, s16 _ _ hpo⟩, IsF.inv qi0 upd_same, (sm_bd so (by decide)).ok0 (by decide), Ok.inv qi0 oki, fun v1 H7 s7 hv1 => ?_⟩
          have s17 := Same.trans s16 s7
          have b1 := sm_ratio so si
          have b2 := sm_pull (hsm t htl) so si
          refine ⟨_, _, rfl, t.r, qo * qi⁻¹, hxr.up s17, hv1, okt.r.ok0 (by decide), b1.ok0 (by decide), fun v2 H8 s8 hv2 => ?_⟩
          have s18 := Same.trans s17 s8
          have s48 := Same.trans s5 (Same.trans s6 (Same.trans s7 s8))
          refine ⟨_, rfl, _, rfl, _, _, _, _, rfl, rfl, .inl (.inl (s48 _ _ hw4)), (atI_nat eU), _, rfl, _, rfl, _, _, rfl, rfl, _, _, _, _, rfl, rfl, .inl (.inl (s18 _ _ hpt0)), rfl, _, rfl, _, _, rfl, _, _, hxa.up s18, hv2, okt.a.ok0 (by decide), b2.ok0 (by decide), fun v3 H9 s9 hv3 => ?_⟩
          have s49 := Same.trans s48 s9
          refine ⟨_, _, rfl, _, _, (hf4 t.i _ eU).up s49, hv3, (hb4 t.i).ok0 (by omega), (okt.a.sub b2).ok0 (by decide), fun v4 H10 s10 hv4 => ?_⟩
          have s410 := Same.trans s49 s10
          have kp := Keeps.upd (o := .lst (lw.set t.i v4)) (s410 _ _ hw4) rfl
          refine ⟨_, rfl, _, rfl, _, _, _, _, rfl, rfl, (s410 _ _ hw4), Evl.ixN_nat hU, _, _, _, _, _, lw.set t.i v4, rfl, Same.mut (Same.trans s14 s410) fpw1, ?_, upd_same, by simp [hlw], ((hf4.keep (Keeps.of s410)).set (i := t.i) hv4).keep kp, fun kk => ?_⟩
          · rw [upd_ne hmw]
            exact s410 _ _ hm4
          · show Bd D0 _ (if kk = t.i then _ else f kk)
            by_cases e : kk = t.i
            · rw [if_pos e]
              exact ((hb4 t.i).add (okt.a.sub b2)).mono (by omega)
            · rw [if_neg e]
              exact (hb4 kk).mono (by omega)
        · have okt' := okt
          obtain ⟨qo, so, po, ho1, hpo⟩ : ∃ q, Sm 3 2 q ∧ ∃ p, sc[t.i]? = some (V.ref p) ∧ H1 p = some (.tup [.int q.num, .int q.den]) := scAt _ okt.i
          obtain ⟨qi, si, pi, hi1, hpi⟩ : ∃ q, Sm 3 2 q ∧ ∃ p, sc[t.j]? = some (V.ref p) ∧ H1 p = some (.tup [.int q.num, .int q.den]) := scAt _ okt.j
          have hU : t.j < lw.length := by rw [hlw]; exact okt.j
          have eU := List.getElem?_eq_getElem hU
          have hS4 : H4 pt0 = some (.tup [.int (t.i : Int), .int (t.j : Int), xa, xb, xr]) := s14 _ _ hpt0
          refine ⟨_, rfl, _, rfl, _, _, _, _, rfl, rfl, .inl (.inl hS4), rfl, _, rfl, _, rfl, _, _, rfl, rfl, _, _, _, _, rfl, rfl, .inl (.inl hS4), rfl, (by show 2 ≤ sizeLine; decide), fun t2 ft2 => ?_⟩
          have s5 := Same.new (o := .lst [.int (t.j : Int), .int (t.i : Int)]) ft2
          have s15 := Same.trans s14 s5
          refine ⟨_, _, rfl, .inl (.inl upd_same), rfl, _, _, rfl, _, _, rfl, rfl, _, rfl, _, _, _, _, rfl, rfl, .inl (.inl (s5 _ _ hS4)), rfl, _, rfl, _, rfl, _, _, _, _, rfl, rfl, .inl (.inl (s15 _ _ hD)), (atI_nat ho1), _, rfl, _, rfl, _, _, _, _, rfl, rfl, .inl (.inl (s15 _ _ hD)), (atI_nat hi1), _, _, _, rfl, .inl (.inl (s15 _ _ hpi)), fun pr fpr => ?_⟩
          have s6 := Same.new (o := .tup [.int (qi.den : Int), .int qi.num]) fpr
          have s16 := Same.trans s15 s6
          have qi0 := sm_ok si
          have oki := (sm_bd si (by decide)).ok0 (by decide)
          refine ⟨_, _, rfl, qo, qi⁻¹, ⟨po, rfl, s16 _ _ hpo⟩, IsF.inv qi0 upd_same, (sm_bd so (by decide)).ok0 (by decide), Ok.inv qi0 oki, fun v1 H7 s7 hv1 => ?_⟩
          have s17 := Same.trans s16 s7
          have b1 := sm_ratio so si
          have b2 := sm_pull (hsm t htl) so si
          refine ⟨_, _, rfl, t.r, qo * qi⁻¹, hxr.up s17, hv1, okt.r.ok0 (by decide), b1.ok0 (by decide), fun v2 H8 s8 hv2 => ?_⟩
          have s18 := Same.trans s17 s8
          have s48 := Same.trans s5 (Same.trans s6 (Same.trans s7 s8))
          refine ⟨_, rfl, _, rfl, _, _, _, _, rfl, rfl, .inl (.inl (s48 _ _ hw4)), (atI_nat eU), _, rfl, _, rfl, _, _, rfl, rfl, _, _, _, _, rfl, rfl, .inl (.inl (s18 _ _ hpt0)), rfl, _, rfl, _, _, rfl, _, _, hxb.up s18, hv2, okt.b.ok0 (by decide), b2.ok0 (by decide), fun v3 H9 s9 hv3 => ?_⟩
          have s49 := Same.trans s48 s9
          refine ⟨_, _, rfl, _, _, (hf4 t.j _ eU).up s49, hv3, (hb4 t.j).ok0 (by omega), (okt.b.sub b2).ok0 (by decide), fun v4 H10 s10 hv4 => ?_⟩
          have s410 := Same.trans s49 s10
          have kp := Keeps.upd (o := .lst (lw.set t.j v4)) (s410 _ _ hw4) rfl
          refine ⟨_, rfl, _, rfl, _, _, _, _, rfl, rfl, (s410 _ _ hw4), Evl.ixN_nat hU, _, _, _, _, _, lw.set t.j v4, rfl, Same.mut (Same.trans s14 s410) fpw1, ?_, upd_same, by simp [hlw], ((hf4.keep (Keeps.of s410)).set (i := t.j) hv4).keep kp, fun kk => ?_⟩
          · rw [upd_ne hmw]
            exact s410 _ _ hm4
          · show Bd D0 _ (if kk = t.j then _ else f kk)
            by_cases e : kk = t.j
            · rw [if_pos e]
              exact ((hb4 t.j).add (okt.b.sub b2)).mono (by omega)
            · rw [if_neg e]
              exact (hb4 kk).mono (by omega)
      · rintro σ H4 ⟨w9, w10, w11, w12, f, lw, rfl, s14, hm4, hw4, hlw, hf4, hb4⟩
        exact ⟨_, _, _, _, _, _, f, lw, rfl, s14, hm4, hw4, hlw, hf4, fun k => (hb4 k).mono (by omega)⟩
    · rintro σ H3 ⟨u4, u8, u9, u10, u11, u12, f0, lw0, rfl, s13, hm3, hw3, hlw3, hf3, hb3⟩
      rw [hst.len] at hb3
      have hb3' : ∀ k, Bd D0 11632320 (f0 k) := fun k => (hb3 k).mono (by omega)
      refine ⟨_, rfl, _, rfl, by omega, by omega, ?_⟩
      refine for_range (n := n) (fun i σ H' => ∃ u4 fm fw lm lw, σ = [some (.ref dk), some (.int n), some (.ref qs), some (.ref pp), u4, some (.ref D), some (.ref pm), some (.ref pw), u8, u9, u10, u11, u12] ∧ Same H1 H' ∧ H' pm = some (.lst lm) ∧ lm.length = n ∧ H' pw = some (.lst lw) ∧ lw.length = n ∧ ItF H' lm fm ∧ ItF H' lw fw ∧ (∀ k, Bd D0 11700000 (fm k) ∧ 0 ≤ fm k) ∧ (∀ k, Bd D0 11632320 (fw k)) ∧ ∀ k, k < i → 0 ≤ fw k)
        ⟨_, ps, f0, vp, lw0, rfl, s13, hm3, hpl, hw3, hlw3, hpf1.keep (Keeps.of s13), hf3, fun k => ⟨(hps k).1.mono (by decide), (hps k).2⟩, hb3', fun k hk => absurd hk (by omega)⟩ ?_ ?_
      · rintro i σ H4 hi ⟨u4, fm, fw, lm, lw, rfl, s14, hm4, hlm, hw4, hlw, hfm, hfw, bm, bw, nn⟩
        rw [Int.zero_add]
        have eW := List.getElem?_eq_getElem (l := lw) (by rw [hlw]; exact hi)
        obtain ⟨py, ey, hpy⟩ := hfw i _ eW
        rw [ey] at eW
        refine ⟨_, rfl, _, rfl, _, _, _, _, rfl, rfl, .inl (.inl hw4), (atI_nat eW), _, _, _, _, rfl, rfl, .inl (.inl hpy), rfl, _, _, rfl, rfl, _, rfl, ite2 (fun hc => ?_) (fun hc => ?_)⟩
        · have hneg : fw i < 0 := num_neg.mp (of_decide_eq_true hc)
          have eP := List.getElem?_eq_getElem (l := vp) (by rw [hpl]; exact hi)
          have hpp4 := s14 _ _ hpp1
          refine ⟨_, rfl, _, rfl, _, _, _, _, rfl, rfl, .inl (.inl hpp4), (atI_nat eP), _, rfl, _, rfl, _, _, _, _, rfl, rfl, .inl (.inl hw4), (atI_nat eW), _, _, rfl, _, _, (hpf1 i _ eP).up s14, ⟨py, rfl, hpy⟩, (hps i).1.ok0 (by decide), (bw i).ok0 (by decide), fun v5 H5 s5 hv5 => ?_⟩
          refine ⟨_, rfl, _, rfl, _, _, _, _, rfl, rfl, (s5 _ _ hm4), Evl.ixN_nat (by omega), ?_⟩
          have kp6 := Keeps.upd (o := .lst (lm.set i v5)) (s5 _ _ hm4) rfl
          have s6 : Same H1 (upd H5 pm (.lst (lm.set i v5))) := Same.mut (Same.trans s14 s5) fpm
          have hw6 : (upd H5 pm (.lst (lm.set i v5))) pw = some (.lst lw) := by rw [upd_ne hmw.symm]; exact s5 _ _ hw4
          have hm6 : (upd H5 pm (.lst (lm.set i v5))) pm = some (.lst (lm.set i v5)) := upd_same
          have fm6 := ((hfm.keep (Keeps.of s5)).set (i := i) hv5).keep kp6
          have fw6 := (hfw.keep (Keeps.of s5)).keep kp6
          generalize hH6 : upd H5 pm (.lst (lm.set i v5)) = H6
          rw [hH6] at s6 hw6 hm6 fm6 fw6
          refine ⟨(by show 2 ≤ sizeLine; decide), fun t ft => ?_⟩
          have s7 := Same.new (o := .tup [.int 0, .int 1]) ft
          refine ⟨_, rfl, _, rfl, _, _, _, _, rfl, rfl, (s7 _ _ hw6), Evl.ixN_nat (by omega), ?_⟩
          have kp8 := Keeps.upd (o := .lst (lw.set i (.ref t))) (s7 _ _ hw6) rfl
          refine ⟨_, _, _, lm.set i v5, lw.set i (.ref t), rfl, Same.mut (Same.trans s6 s7) fpw1, ?_, by simp [hlm], upd_same, by simp [hlw], (fm6.keep (Keeps.of s7)).keep kp8, ((fw6.keep (Keeps.of s7)).set (i := i) (q := 0) ⟨t, rfl, upd_same⟩).keep kp8, fun kk => ?_, fun kk => ?_, fun kk hk => ?_⟩
          · rw [upd_ne hmw]
            exact s7 _ _ hm6
          · show Bd D0 _ (if kk = i then _ else _) ∧ 0 ≤ (if kk = i then _ else _)
            by_cases e : kk = i
            · rw [if_pos e]
              refine ⟨((hps i).1.sub (bw i)).mono (by decide), ?_⟩
              have := (hps i).2
              show 0 ≤ ps i - fw i
              grind
            · rw [if_neg e]
              exact bm kk
          · show Bd D0 _ (if kk = i then _ else _)
            by_cases e : kk = i
            · rw [if_pos e]
              exact Bd.zero
            · rw [if_neg e]
              exact bw kk
          · show 0 ≤ (if kk = i then _ else _)
            by_cases e : kk = i
            · rw [if_pos e]
              exact Rat.le_refl
            · rw [if_neg e]
              exact nn kk (by omega)
        · have hpos : ¬ fw i < 0 := fun h => hc (decide_eq_true (num_neg.mpr h))
          refine ⟨_, fm, fw, lm, lw, rfl, s14, hm4, hlm, hw4, hlw, hfm, hfw, bm, bw, fun kk hk => ?_⟩
          by_cases e : kk = i
          · rw [e]
            exact Rat.not_lt.mp hpos
          · exact nn kk (by omega)
      · rintro σ H4 ⟨u4, fm, fw, lm, lw, rfl, s14, hm4, hlm, hw4, hlw, hfm, hfw, bm, bw, nn⟩
        refine ⟨_, rfl, _, rfl, (by show 2 ≤ sizeLine; decide), fun p fp => ?_⟩
        have s5 := Same.new (o := .lst [.ref pm, .ref pw]) fp
        have s15 := Same.trans s14 s5
        have d5 := d1.up s15
        obtain ⟨nsd, q1, q2, q3, hdk, hck, hne⟩ := d1
        refine k p pm pw fm (fun k => if k < n then fw k else 0) _ (FrD.trans f1 (FrD.of s15)) d5 upd_same ⟨pm, lm, rfl, s5 _ _ hm4, hlm, hfm.keep (Keeps.of s5)⟩ ⟨pw, lw, rfl, s5 _ _ hw4, hlw, fun j y e => ?_⟩ bm (fun kk => ?_) ?_ ?_ ?_
        · have hj : j < n := by rw [← hlw]; exact (List.getElem?_eq_some_iff.mp e).1
          show IsF _ y (if j < n then fw j else 0)
          rw [if_pos hj]
          exact (hfw j y e).up s5
        · show Bd D0 _ (if kk < n then fw kk else 0) ∧ 0 ≤ (if kk < n then fw kk else 0)
          by_cases e : kk < n
          · rw [if_pos e]
            exact ⟨(bw kk).mono (by decide), nn kk e⟩
          · rw [if_neg e]
            exact ⟨Bd.zero, Rat.le_refl⟩
        · exact fun e => by rw [e, s14 _ _ hdk] at fp; cases fp
        · exact fun e => by rw [e, hdk] at fpm; cases fpm
        · exact fun e => by rw [e, hdk] at fpw1; cases fpw1
  · obtain ⟨u1, u2, u3, u4, rfl⟩ := four4 hl
    rfl
end
end R25

set_option Elab.async false
set_option linter.all false
set_option maxRecDepth 100000
set_option maxHeartbeats 4000000
namespace R25
open PySem PySem.Spec PyProof.Rows L2
/-! ### the law's own striking -/
def nearL (h : Nat) (rest : List Nat) (m : Tb) : List Nat := rest.filter fun j => decide (0 < m.t h j)
theorem natsV_ints (l : List Nat) : natsV l = (l.map fun (j : Nat) => (j : Int)).map V.int := by unfold natsV; rw [List.map_map]; rfl
theorem bad_near (h : Nat) (rest : List Nat) (m : Tb) : bad h rest m = (decide (m.s h < 0) || (decide (m.s h = 0) && decide (0 < (nearL h rest m).length))) := by
  unfold bad nearL
  congr 2
  by_cases e : rest.any (fun j => decide (0 < m.t h j)) = true
  · obtain ⟨j, hj, hp⟩ := List.any_eq_true.mp e
    rw [e, decide_eq_true (List.length_pos_of_mem (List.mem_filter.mpr ⟨hj, hp⟩))]
  · rw [Bool.eq_false_iff.mpr e, eq_comm]
    refine decide_eq_false fun hl => e (List.any_eq_true.mpr ?_)
    have := List.getElem_mem hl
    exact ⟨_, (List.mem_filter.mp this).1, (List.mem_filter.mp this).2⟩
theorem near_mem {h : Nat} {rest : List Nat} {m : Tb} {j : Nat} : j ∈ nearL h rest m ↔ j ∈ rest ∧ 0 < m.t h j := by
  unfold nearL
  rw [List.mem_filter, decide_eq_true_eq]
theorem not_near {h : Nat} {rest : List Nat} {m : Tb} (gd : Good m) {j : Nat} (hj : j ∈ rest) (hn : j ∉ nearL h rest m) : m.t h j = 0 :=
  Rat.le_antisymm (Rat.not_lt.mp fun hp => hn (near_mem.mpr ⟨hj, hp⟩)) (gd.nn h j)
theorem elim_s_l {h : Nat} {rest : List Nat} {m : Tb} (gd : Good m) {k : Nat} (hk : k ∈ rest) : (if k ∈ nearL h rest m then (elim h m).s k else m.s k) = (elim h m).s k := by
  by_cases hi : k ∈ nearL h rest m
  · rw [if_pos hi]
  · rw [if_neg hi]
    show m.s k = m.s k - m.t h k * m.t h k / m.s h
    rw [not_near gd hk hi, Rat.zero_mul, zero_div', sub_zero']
theorem elim_t_l {h : Nat} {rest : List Nat} {m : Tb} (gd : Good m) {a b : Nat} (ha : a ∈ rest) (hb : b ∈ rest) : (if a ∈ nearL h rest m ∧ b ∈ nearL h rest m then (elim h m).t a b else m.t a b) = (elim h m).t a b := by
  by_cases h1 : a ∈ nearL h rest m
  · by_cases h2 : b ∈ nearL h rest m
    · rw [if_pos ⟨h1, h2⟩]
    · rw [if_neg (fun e => h2 e.2)]
      show m.t a b = m.t a b + m.t h a * m.t h b / m.s h
      rw [not_near gd hb h2, Rat.mul_zero, zero_div', Rat.add_zero]
  · rw [if_neg (fun e => h1 e.1)]
    show m.t a b = m.t a b + m.t h a * m.t h b / m.s h
    rw [not_near gd ha h1, Rat.zero_mul, zero_div', Rat.add_zero]
theorem share_s (m : Tb) (h k : Nat) : m.s k - m.t h k * (m.t h k * (m.s h)⁻¹) = (elim h m).s k := by
  show _ = m.s k - m.t h k * m.t h k / m.s h
  rw [Rat.div_def, Rat.mul_assoc]
theorem share_t (m : Tb) (h a b : Nat) : m.t a b + m.t h b * (m.t h a * (m.s h)⁻¹) = (elim h m).t a b := by
  show _ = m.t a b + m.t h a * m.t h b / m.s h
  rw [Rat.div_def]
  congr 1
  rw [← Rat.mul_assoc, Rat.mul_comm (m.t h b)]
section
variable (K : PySem.W.Frag)
def sp_law_can_be_struck : F2 := fun a b H Q _ => ∃ (n : Nat) (m : Tb) (r : List Nat) (q : Addr), TabL H a n m ∧ b = .ref q ∧ H q = some (.lst (natsV r)) ∧ r.Nodup ∧ (∀ x ∈ r, x < n) ∧ n ≤ 8 ∧ Fine 0 m ∧ Good m ∧ ∀ H', Same H H' → Q (.bl (run r m)) H'
def sp_law_some : F1 := fun a H Q _ => ∃ n : Nat, a = .int (n : Int) ∧ n ≤ 8 ∧ ∀ p vs H', H p = none → Same H H' → H' p = some (.lst vs) → ItT K H' vs (alls n) → Q (.ref p) H'
/-- what a web's questions are asked of -/
def Asks (H : Hp) (b c d : V) (n : Nat) (l : List Stl) (ps ws : Nat → Rat) : Prop := StL H b l ∧ OkW n l ∧ NumL H c n ps ∧ NumL H d n ws ∧ Amt ps ∧ Amt ws
def sp_law_is_met : F4 := fun a b c d H Q _ => ∃ (n : Nat) (l : List Stl) (ps ws : Nat → Rat), a = .int (n : Int) ∧ Asks H b c d n l ps ws ∧ ∀ H', Same H H' → Q (.bl (run (List.range n) (tbl l ps ws))) H'
/-- the answer that is due -/
def AnsV (K : PySem.W.Frag) (H : Hp) (v : V) (o : Option (List Nat)) : Prop := (o = none ∧ v = .non) ∨ ∃ r, o = some r ∧ IsT K H v r
def sp_law_wares_due : F4 := fun a b c d H Q _ => ∃ (n : Nat) (l : List Stl) (ps ws : Nat → Rat), a = .int (n : Int) ∧ Asks H b c d n l ps ws ∧ ∀ v H', Same H H' → AnsV K H' v (leastOf n (tbl l ps ws)) → Q v H'
def sp_law_stalls_due : F4 := fun a b c d H Q _ => ∃ (n : Nat) (l : List Stl) (ps ws : Nat → Rat), a = .int (n : Int) ∧ Asks H b c d n l ps ws ∧ l.length ≤ 8 ∧ ∀ v H', Same H H' → AnsV K H' v (fewOf n l ps ws) → Q v H'
def sp_law_needed_due : F4 := fun a b c d H Q _ => ∃ (n : Nat) (l : List Stl) (ps ws : Nat → Rat), a = .int (n : Int) ∧ Asks H b c d n l ps ws ∧ ∀ v H', Same H H' → AnsV K H' v (needOf n l ps ws) → Q v H'
end
theorem Asks.up {H H' : Hp} {b c d : V} {n : Nat} {l : List Stl} {ps ws : Nat → Rat} (s : Same H H') (h : Asks H b c d n l ps ws) : Asks H' b c d n l ps ws := ⟨h.1.up s, h.2.1, h.2.2.1.up s, h.2.2.2.1.up s, h.2.2.2.2⟩
theorem AnsV.up {K : PySem.W.Frag} {H H' : Hp} {v : V} {o : Option (List Nat)} (s : Same H H') (h : AnsV K H v o) : AnsV K H' v o := h.imp id fun ⟨r, a, b⟩ => ⟨r, a, b.keep (Keeps.of s)⟩
end R25

set_option Elab.async false
set_option linter.all false
set_option maxRecDepth 100000
set_option maxHeartbeats 4000000
namespace R25
open PySem PySem.Spec PyProof.Rows L2
section
variable {P : Program} {w : World} {K : PySem.W.Frag} {mg : Str → Option Value} {base : Heap}
theorem sc_law_can_be_struck : FnScope ["_law_table_here", "_law_some_here", "_law_slants", "_law_ties", "_law_left", "_law_here", "_law_other", "_law_near", "_law_one", "_law_share", "_law_row"] ["_law_table_here", "_law_some_here"] (defScope s_law_can_be_struck) := ⟨rfl, rfl, rfl, by decide +kernel, rfl, by decide +kernel, by decide +kernel⟩
theorem ok_law_can_be_struck (T : Txt K mg) (D_law_product : Dfn P w K mg base CX0 3 "_law_product" ["_law_one", "_law_other"] (sp2 sp_law_product)) (D_law_taken : Dfn P w K mg base CX0 3 "_law_taken" ["_law_one", "_law_other"] (sp2 sp_law_taken)) (D_law_added : Dfn P w K mg base CX0 3 "_law_added" ["_law_one", "_law_other"] (sp2 sp_law_added)) : Dfn P w K mg base CX0 4 "_law_can_be_struck" ["_law_table_here", "_law_some_here"] (sp2 sp_law_can_be_struck) := by
  obtain ⟨fd, F⟩ := T.f_law_can_be_struck
  refine ⟨T.g_law_can_be_struck, F.kp, fd, fnok_of F sc_law_can_be_struck (fun vs H Q E h => ?_) (fun vs H Q E h => ?_), F.binds (ps := ["_law_table_here", "_law_some_here"]) fun _ _ _ _ _ _ us hl => ?_⟩
  · obtain ⟨a1, a2, rfl, _⟩ := h
    rfl
  · obtain ⟨a1, a2, rfl, h⟩ := h
    intro cdv A outer s hr
    refine ⟨_, (pss_cons (ps_set (i := 2) sc_law_can_be_struck.nd rfl (Or.inl rfl) (pe_callTy call_list_of (by rfl) T.b_list (by decide +kernel) (pa_cons (pe_ix ix_list (pv 0) pe_int (fun _ _ => rfl)) pa_nil)))
      (pss_cons (ps_set (i := 3) sc_law_can_be_struck.nd rfl (Or.inr rfl) (pe_lc (own := [("_law_row", 10)]) (g := gName 10) rfl sc_law_can_be_struck.nd (pi_list (pe_ix ix_list (pv 0) pe_int (fun _ _ => rfl))) (blkOk_by (N := ["_law_table_here", "_law_some_here", "_law_slants", "_law_ties", "_law_left", "_law_here", "_law_other", "_law_near", "_law_one", "_law_share", "_law_row"]) (sc := defScope s_law_can_be_struck) (by decide +kernel)) (fun _ _ _ _ _ => (pg_name (i := 10) sc_law_can_be_struck.nd rfl (Or.inl rfl))) (fun _ _ _ _ _ => pts_nil) (fun _ _ _ _ _ => (pe_callTy (call_listK (K := K)) (by rfl) T.b_list (by decide +kernel) (pa_cons (pv 10) pa_nil)))))
      (pss_cons (ps_set (i := 4) sc_law_can_be_struck.nd rfl (Or.inl rfl) (pe_callTy call_list_of (by rfl) T.b_list (by decide +kernel) (pa_cons (pv 1) pa_nil)))
      (pss_cons (ps_for PassesOwn.never rfl (pi_list (pv 1)) (pg_name (i := 5) sc_law_can_be_struck.nd rfl (Or.inr rfl)) (pss_cons (ps_expr (pe_bm PySem.F.plainAttrs_list PySem.F.slot_list_remove PySem.F.type_list_remove mt_remove (pv 4) (pa_cons (pv 5) pa_nil)))
      (pss_cons (ps_setLc (i := 7) (own := [("_law_other", 6)]) (g := gName 6) rfl sc_law_can_be_struck.nd rfl rfl (sw_true rfl rfl rfl (by decide +kernel)) (pi_list (pv 4)) (blkOk_by (N := ["_law_table_here", "_law_some_here", "_law_slants", "_law_ties", "_law_left", "_law_here", "_law_other", "_law_near", "_law_one", "_law_share", "_law_row"]) (sc := defScope s_law_can_be_struck) (by decide +kernel)) (fun _ _ _ _ _ => (pg_name (i := 6) sc_law_can_be_struck.nd rfl (Or.inl rfl))) (fun _ _ _ _ _ => (pts_one (pt_cmpR op_gt (pe_ix (ix_tupK (K := K)) (pe_ix (ix_listK (K := K)) (pe_ix (ix_listK (K := K)) (pv 3) (pv 5) (fun _ _ => rfl)) (pv 6) (fun _ _ => rfl)) pe_int (fun _ _ => rfl)) pe_int (nomark _)))) (fun _ _ _ _ _ => (pv 6)))
      (pss_cons (ps_if (PW.pt (pw_or (pt_cmpR op_lt (pe_ix ix_tup (pe_ix ix_list (pv 2) (pv 5) (fun _ _ => rfl)) pe_int (fun _ _ => rfl)) pe_int (nomark _)) (pw_or1 (PW.pt (pw_and (pt_cmpR op_eq (pe_ix ix_tup (pe_ix ix_list (pv 2) (pv 5) (fun _ _ => rfl)) pe_int (fun _ _ => rfl)) pe_int (nomark _)) (pw_and1 (pt_cmpR op_gt (pe_callB call_len_seq (by rfl) T.b_len (by decide +kernel) (pa_cons (pv 7) pa_nil)) pe_int (nomark _)))))))) (pss_one (ps_ret pe_bl)) pss_nil)
      (pss_one (ps_for PassesOwn.never rfl (pi_list (pv 7)) (pg_name (i := 8) sc_law_can_be_struck.nd rfl (Or.inl rfl)) (pss_cons (ps_set (i := 9) sc_law_can_be_struck.nd rfl (Or.inl rfl) (pe_callD D_law_product hr (pa_cons (pe_ix ix_list (pe_ix ix_list (pv 3) (pv 5) (fun _ _ => rfl)) (pv 8) (fun _ _ => rfl)) (pa_cons (pe_revP (pe_ix ix_list (pv 2) (pv 5) (fun _ _ => rfl))) pa_nil))))
      (pss_cons (ps_asg (pe_callD D_law_taken hr (pa_cons (pe_ix ix_list (pv 2) (pv 8) (fun _ _ => rfl)) (pa_cons (pe_callD D_law_product hr (pa_cons (pe_ix ix_list (pe_ix ix_list (pv 3) (pv 5) (fun _ _ => rfl)) (pv 8) (fun _ _ => rfl)) (pa_cons (pv 9) pa_nil))) pa_nil))) (pg_sub (pv 2) (pv 8) set_list))
      (pss_one (ps_for PassesOwn.never rfl (pi_list (pv 7)) (pg_name (i := 6) sc_law_can_be_struck.nd rfl (Or.inl rfl)) (pss_one (ps_if (pt_cmpR op_ne (pv 6) (pv 8) (nomark _)) (pss_one (ps_asg (pe_callD D_law_added hr (pa_cons (pe_ix ix_list (pe_ix ix_list (pv 3) (pv 8) (fun _ _ => rfl)) (pv 6) (fun _ _ => rfl)) (pa_cons (pe_callD D_law_product hr (pa_cons (pe_ix ix_list (pe_ix ix_list (pv 3) (pv 5) (fun _ _ => rfl)) (pv 6) (fun _ _ => rfl)) (pa_cons (pv 9) pa_nil))) pa_nil))) (pg_sub (pe_ix ix_list (pv 3) (pv 8) (fun _ _ => rfl)) (pv 6) set_list))) pss_nil))))))))))))
      (pss_one (ps_ret pe_bl)))))), ?_⟩
    obtain ⟨n, m, r, q, ⟨p, pa, pt0, sl0, rl0, rfl, hp, hpa, hsl0, hslf0, hpt0, hM0⟩, rfl, hq, rnd, rb, n8, fine0, good0, k⟩ := h
    have rl8 : r.length ≤ n := nodup_len n r rnd rb
    refine ⟨_, rfl, _, _, _, _, rfl, rfl, .inl (.inl hp), rfl, _, sl0, rfl, .inl (.inl (.inl hpa)), fun ps fps => ?_⟩
    have s1 := Same.new (o := .lst sl0) fps
    have hps1 : (upd H ps (.lst sl0)) ps = some (.lst sl0) := upd_same
    generalize hH1 : upd H ps (.lst sl0) = H1
    rw [hH1] at s1 hps1
    clear hH1
    refine ⟨_, rfl, _, _, _, _, rfl, rfl, .inl (.inl (s1 _ _ hp)), rfl, _, rfl, ⟨_, .inl (.inl (s1 _ _ hpt0))⟩, fun pt fpt => ?_⟩
    refine lc_list (xs := rl0.map V.ref) (fun i H' => ∃ rl : List Addr, rl.length = i ∧ rl.Nodup ∧ (∀ a ∈ rl, H1 a = none ∧ a ≠ pt) ∧ H' pt = some (.lst (rl.map V.ref)) ∧ Same H1 H' ∧ ∀ (j : Nat) a a0, rl[j]? = some a → rl0[j]? = some a0 → ∃ row, H1 a0 = some (.lst row) ∧ H' a = some (.lst row))
      ⟨[], rfl, List.nodup_nil, (fun a h => by cases h), upd_same, Same.new fpt, fun j a a0 h => by simp at h⟩ (fun i H' _ ⟨_, _, _, _, _, s, _⟩ => .inl (.inl (s _ _ (s1 _ _ hpt0)))) ?_ ?_
    · rintro i x H3 hx ⟨rl, h1, h2, h3, h4, h5, h6⟩
      rw [List.getElem?_map] at hx
      obtain ⟨a0, ha0, rfl⟩ := Option.map_eq_some_iff.mp hx
      obtain ⟨row, hrow, _, _⟩ := hM0.row i a0 ha0
      have hrow1 := s1 _ _ hrow
      have hi : i < n := by rw [← hM0.len]; exact (List.getElem?_eq_some_iff.mp ha0).1
      refine ⟨rfl, _, rfl, _, row, rfl, .inl (.inl (.inl (h5 _ _ hrow1))), fun a fa => ?_⟩
      have hapt : a ≠ pt := fun e => by rw [e, h4] at fa; cases fa
      have h43 := Same.new (o := .lst row) fa _ _ h4
      refine ⟨rl.map V.ref, h43, Nat.lt_of_lt_of_le (show (rl.map V.ref).length < 9 by rw [List.length_map]; omega) (by decide), rl ++ [a], by simp [h1], ?_, ?_, by rw [upd_same, List.map_append]; rfl, Same.mut (Same.trans h5 (Same.new fa)) fpt, ?_⟩
      · rw [List.nodup_append]
        refine ⟨h2, by simp, fun b hb c hc e => ?_⟩
        rw [List.mem_singleton] at hc
        subst hc
        obtain ⟨j, hj, ej⟩ := List.getElem_of_mem hb
        have ej : rl[j]? = some b := by rw [List.getElem?_eq_getElem hj, ej]
        have hj0 : j < rl0.length := by
          have := (List.getElem?_eq_some_iff.mp ha0).1
          omega
        obtain ⟨z, _, hz⟩ := h6 j b _ ej (List.getElem?_eq_getElem hj0)
        rw [e, fa] at hz
        cases hz
      · intro b hb
        rcases List.mem_append.mp hb with hb | hb
        · exact h3 b hb
        · rw [List.mem_singleton] at hb
          subst hb
          exact ⟨Same.free h5 fa, hapt⟩
      · intro j b b0 e1 e2
        by_cases hj : j < rl.length
        · rw [List.getElem?_append_left hj] at e1
          obtain ⟨z, z1, z2⟩ := h6 j b b0 e1 e2
          refine ⟨z, z1, ?_⟩
          rw [upd_ne (h3 b (List.mem_of_getElem? e1)).2]
          exact Same.new fa _ _ z2
        · have hj2 : j = i := by
            have := (List.getElem?_eq_some_iff.mp e1).1
            simp at this
            omega
          subst hj2
          rw [← h1] at e1
          simp at e1
          subst e1
          rw [ha0] at e2
          cases e2
          exact ⟨row, hrow1, by rw [upd_ne hapt]; exact upd_same⟩
    rintro H2 ⟨rl, hrl, hnd, hr0, hpt, s2, hrows⟩
    rw [List.length_map, hM0.len] at hrl
    have s12 := Same.trans s1 s2
    have hps2 := s2 _ _ hps1
    refine ⟨_, rfl, _, natsV r, rfl, .inl (.inl (.inl (s12 _ _ hq))), fun pl fpl => ?_⟩
    have s3 := Same.new (o := .lst (natsV r)) fpl
    have hpsr : ps ∉ rl := fun e => by
      have := (hr0 ps e).1
      rw [hps1] at this
      cases this
    have hptr : pt ∉ rl := fun e => (hr0 pt e).2 rfl
    have hplr : pl ∉ rl := fun e => by
      obtain ⟨j, hj, ej⟩ := List.getElem_of_mem e
      obtain ⟨z, _, hz⟩ := hrows j pl _ (by rw [List.getElem?_eq_getElem hj, ej]) (List.getElem?_eq_getElem (l := rl0) (by rw [hM0.len]; omega))
      rw [hz] at fpl
      cases fpl
    have hpspt : ps ≠ pt := fun e => by rw [← e, hps1] at fpt; cases fpt
    have hpspl : ps ≠ pl := fun e => by rw [← e, hps2] at fpl; cases fpl
    have hptpl : pt ≠ pl := fun e => by rw [← e, hpt] at fpl; cases fpl
    have hrf : ∀ a ∈ rl, H a = none := fun a h => Same.free s1 (hr0 a h).1
    have fps0 := fps
    have fpl0 : H pl = none := Same.free s12 fpl
    have hM2 : Mat (upd H2 pl (.lst (natsV r))) rl n (fun a b => a ∈ r.drop 0 ∧ b ∈ r.drop 0 ∧ a ≠ b) m.t := ⟨hnd, hrl, fun i a e => by
      have hi : i < n := by rw [← hrl]; exact (List.getElem?_eq_some_iff.mp e).1
      have e0 := List.getElem?_eq_getElem (l := rl0) (by rw [hM0.len]; exact hi)
      obtain ⟨row, h1, h2, h3⟩ := hM0.row i _ e0
      obtain ⟨z, z1, z2⟩ := hrows i a _ e e0
      rw [s1 _ _ h1] at z1
      cases z1
      exact ⟨row, s3 _ _ z2, h2, fun j y hy _ => ((h3 j y hy trivial).up s12).up s3⟩⟩
    have s13 := Same.trans s12 s3
    refine ⟨_, rfl, _, rfl, ⟨_, .inl (.inl (s13 _ _ hq))⟩, ?_⟩
    refine for_list (xs := natsV r) (fun i σ H' => ∃ u5 u6 u7 u8 u9 u10 Mi sl, σ = [some (.ref p), some (.ref q), some (.ref ps), some (.ref pt), some (.ref pl), u5, u6, u7, u8, u9, u10] ∧ Same H H' ∧ H' ps = some (.lst sl) ∧ sl.length = n ∧ H' pt = some (.lst (rl.map V.ref)) ∧ H' pl = some (.lst (natsV (r.drop i))) ∧ (∀ (kk : Nat) (y : V), sl[kk]? = some y → kk ∈ r.drop i → IsF H' y (Mi.s kk)) ∧
        Mat H' rl n (fun a b => a ∈ r.drop i ∧ b ∈ r.drop i ∧ a ≠ b) Mi.t ∧ run r m = run (r.drop i) Mi ∧ Good Mi ∧ Fine i Mi)
      ⟨_, _, _, _, _, _, m, sl0, rfl, s13, s3 _ _ hps2, hsl0, s3 _ _ hpt, upd_same, fun kk y e _ => (hslf0 kk y e).up s13, hM2, rfl, good0, fine0⟩ (fun i σ H' _ ⟨_, _, _, _, _, _, _, _, _, s, _⟩ => .inl (.inl (s _ _ hq))) ?_ ?_
    · rintro i x σ H3 hx ⟨u5, u6, u7, u8, u9, u10, Mi, sl, rfl, s3, h3s, hsl, h3t, h3l, hS3, hM3, hrun, gd, fn⟩
      obtain ⟨h, hh, rfl⟩ := natsV_at hx
      have hlt := (List.getElem?_eq_some_iff.mp hh).1
      have ed : r.drop i = h :: r.drop (i + 1) := by
        obtain ⟨h1, h2⟩ := List.getElem?_eq_some_iff.mp hh
        rw [← h2]
        exact (List.getElem_cons_drop h1).symm
      generalize hrest : r.drop (i + 1) = rest at ed
      rw [ed] at h3l hS3 hM3 hrun
      have nd : (h :: rest).Nodup := by rw [← ed]; exact rnd.sublist (List.drop_sublist _ _)
      have hhr : h ∉ rest := (List.nodup_cons.mp nd).1
      have rnd' := (List.nodup_cons.mp nd).2
      have hmem : ∀ y ∈ h :: rest, y < n := fun y hy => rb y (List.mem_of_mem_drop (ed ▸ hy))
      have hhn := hmem h (List.mem_cons_self)
      have hrn : ∀ y ∈ rest, y < n := fun y hy => hmem y (List.mem_cons_of_mem _ hy)
      have ei : (((h :: rest).map fun (j : Nat) => (j : Int)).eraseIdx 0).map V.int = natsV rest := (natsV_ints rest).symm
      refine ⟨_, rfl, .inl ⟨rfl, _, .inl (.inl h3l)⟩, _, rfl, pl, (h :: rest).map (fun (j : Nat) => (j : Int)), (h : Int), 0, rfl, rfl, by rw [← natsV_ints]; exact h3l, rfl, fun _ hm => absurd hm (by omega), ?_⟩
      rw [ei]
      have kp4 : Keeps H3 (upd H3 pl (.lst (natsV rest))) := Keeps.upd h3l rfl
      have s4 : Same H (upd H3 pl (.lst (natsV rest))) := Same.mut s3 fpl0
      have h4s : (upd H3 pl (.lst (natsV rest))) ps = some (.lst sl) := by rw [upd_ne hpspl]; exact h3s
      have h4t : (upd H3 pl (.lst (natsV rest))) pt = some (.lst (rl.map V.ref)) := by rw [upd_ne hptpl]; exact h3t
      have h4l : (upd H3 pl (.lst (natsV rest))) pl = some (.lst (natsV rest)) := upd_same
      have hM4 := hM3.frame (o := .lst (natsV rest)) h3l rfl hplr
      have hS4 : ∀ (kk : Nat) (y : V), sl[kk]? = some y → kk ∈ h :: rest → IsF (upd H3 pl (.lst (natsV rest))) y (Mi.s kk) := fun kk y e1 e2 => (hS3 kk y e1 e2).keep kp4
      generalize hH4 : upd H3 pl (.lst (natsV rest)) = H4
      rw [hH4] at s4 h4s h4t h4l hM4 hS4
      clear hH4 kp4 hS3 hM3 h3s h3t h3l
      obtain ⟨rh, rowh, erh, hrowh, hrowhl, hrowhf⟩ := hM4.at_ hhn
      have tieh : ∀ o, o ∈ rest → ∃ y, rowh[o]? = some y ∧ IsF H4 y (Mi.t h o) := fun o ho => by
        have e := List.getElem?_eq_getElem (l := rowh) (by rw [hrowhl]; exact hrn o ho)
        exact ⟨_, e, hrowhf o _ e ⟨List.mem_cons_self, List.mem_cons_of_mem _ ho, fun e => hhr (e ▸ ho)⟩⟩
      refine ⟨_, rfl, _, rfl, ⟨_, .inl (.inl h4l)⟩, fun D fD => ?_⟩
      refine lc_list (xs := natsV rest) (fun j H' => Same H4 H' ∧ H' D = some (.lst (natsV (nearL h (rest.take j) Mi)))) ⟨Same.new fD, upd_same⟩ (fun j H' _ ⟨s, _⟩ => .inl (.inl (s _ _ h4l))) ?_ ?_
      · rintro j x H5 hx ⟨s5, hD5⟩
        obtain ⟨o, ho, rfl⟩ := natsV_at hx
        obtain ⟨y, ey, py, rfl, hpy⟩ := tieh o (List.mem_of_getElem? ho)
        have ef : nearL h (rest.take (j + 1)) Mi = nearL h (rest.take j) Mi ++ if 0 < Mi.t h o then [o] else [] := by
          unfold nearL
          rw [take_snoc ho, List.filter_append]
          congr 1
          by_cases hp : 0 < Mi.t h o <;> simp [hp]
        have hll : (nearL h (rest.take j) Mi).length ≤ 8 := by
          have h1 := List.length_filter_le (fun j => decide (0 < Mi.t h j)) (rest.take j)
          have h2 := nodup_len n rest rnd' hrn
          rw [List.length_take] at h1
          unfold nearL
          omega
        refine ⟨rfl, _, rfl, _, rfl, _, _, _, _, rfl, rfl, .inl (.inl (s5 _ _ h4t)), (atI_nat (by rw [List.getElem?_map, erh]; rfl)), _, rfl, _, _, _, _, rfl, rfl, .inl (.inl (s5 _ _ hrowh)), (atI_nat ey), _, _, _, _, rfl, rfl, .inl (.inl (s5 _ _ hpy)), rfl, _, _, rfl, rfl, _, rfl, ite2 (fun hc => ⟨_, rfl, _, hD5, ?_, Same.mut s5 fD, ?_⟩) (fun hc => ⟨s5, ?_⟩)⟩
        · rw [natsV_len]
          exact Nat.lt_of_lt_of_le (show _ < 9 by omega) (by decide)
        · rw [upd_same, ef, if_pos (num_pos.mp (of_decide_eq_true hc)), natsV_snoc]
        · rw [ef, if_neg (fun h => hc (decide_eq_true (num_pos.mpr h))), List.append_nil]
          exact hD5
      rintro H5 ⟨s5, hD5⟩
      rw [natsV_len, List.take_length] at hD5
      have hDps : D ≠ ps := fun e => by rw [e, h4s] at fD; cases fD
      have hDpl : D ≠ pl := fun e => by rw [e, h4l] at fD; cases fD
      have hDr : D ∉ rl := fun e => by
        obtain ⟨j, hj, ej⟩ := List.getElem_of_mem e
        obtain ⟨row, hz, _⟩ := hM4.row j D (by rw [List.getElem?_eq_getElem hj, ej])
        rw [hz] at fD
        cases fD
      have hnd' : (nearL h rest Mi).Nodup := rnd'.sublist List.filter_sublist
      have hnl : (nearL h rest Mi).length ≤ 8 := by
        have h1 := List.length_filter_le (fun j => decide (0 < Mi.t h j)) rest
        have h2 := nodup_len n rest rnd' hrn
        unfold nearL
        omega
      have nm := @near_mem h rest Mi
      have ehs := List.getElem?_eq_getElem (l := sl) (by rw [hsl]; exact hhn)
      obtain ⟨ph, eph, hph⟩ := hS4 h _ ehs (List.mem_cons_self)
      rw [eph] at ehs
      have hph5 := s5 _ _ hph
      have h5s := s5 _ _ h4s
      have s05 := Same.trans s4 s5
      have bn := bad_near h rest Mi
      have er : run r m = if bad h rest Mi = true then false else run rest (elim h Mi) := hrun
      have cont : bad h rest Mi = false → _ := fun hb => (if_neg (by rw [hb]; decide) : (if bad h rest Mi = true then false else run rest (elim h Mi)) = run rest (elim h Mi))
      refine ⟨_, rfl, _, rfl, _, _, _, _, rfl, rfl, .inl (.inl h5s), (atI_nat ehs), _, _, _, _, rfl, rfl, .inl (.inl hph5), rfl, _, _, rfl, rfl, _, rfl, ite2 (fun hc => ?_) (fun hc => ?_)⟩
      · have hneg := num_neg.mp (of_decide_eq_true hc)
        rw [decide_eq_true hneg] at bn
        refine iteT ?_
        have := k H5 s05
        rw [er, if_pos (by rw [bn]; rfl)] at this
        exact this
      · have hneg : ¬ Mi.s h < 0 := fun e => hc (decide_eq_true (num_neg.mpr e))
        rw [decide_eq_false hneg, Bool.false_or] at bn
        refine ⟨_, rfl, _, rfl, _, _, _, _, rfl, rfl, .inl (.inl h5s), (atI_nat ehs), _, _, _, _, rfl, rfl, .inl (.inl hph5), rfl, rfl, _, rfl, ite2 (fun hd => ⟨_, rfl, _, _, rfl, .inl (.inl (.inl hD5)), _, _, rfl, rfl, _, rfl, ite2 (fun hl => ?_) (fun hl => ?_)⟩) (fun hd => iteF ?_)⟩
        · have hz : Mi.s h = 0 := num_zero.mp (by have := of_decide_eq_true hd; injection this)
          have hl := of_decide_eq_true hl
          rw [natsV_len] at hl
          rw [decide_eq_true hz, decide_eq_true (by omega), Bool.and_self] at bn
          have := k H5 s05
          rw [er, if_pos bn] at this
          exact this
        all_goals
          have bf : bad h rest Mi = false := by
            rw [bn]
            first
              | rw [decide_eq_false (fun e => hl (decide_eq_true (by rw [natsV_len]; omega)) : ¬ 0 < (nearL h rest Mi).length), Bool.and_false]
              | rw [decide_eq_false (fun e => hd (decide_eq_true (by rw [num_zero.mpr e])) : ¬ Mi.s h = 0), Bool.false_and]
          have bz := bad_false bf
          have fn' := fn.elim (h := h) bz.1
          have gd' := gd.elim (h := h) bz.1
          have spos : ∀ o, o ∈ nearL h rest Mi → 0 < Mi.s h := fun o ho => by
            by_cases h0 : Mi.s h = 0
            · exact absurd (nm.mp ho).2 (bz.2 h0 o (nm.mp ho).1)
            · exact Rat.not_le.mp fun hle => h0 (Rat.le_antisymm hle bz.1)
          have i6 : ∀ o, o ∈ nearL h rest Mi → i ≤ 6 := fun o ho => by
            have h2 := nodup_len n _ nd hmem
            have h3 := List.length_pos_of_mem (nm.mp ho).1
            have h4 : (r.drop i).length = rest.length + 1 := by rw [ed]; rfl
            rw [List.length_drop] at h4
            omega
          have kp45 := Keeps.of s5
          refine ⟨_, rfl, _, rfl, ⟨_, .inl (.inl hD5)⟩, ?_⟩
          refine for_list (xs := natsV (nearL h rest Mi)) (fun a σ H' => ∃ w6 w8 w9 sl, σ = [some (.ref p), some (.ref q), some (.ref ps), some (.ref pt), some (.ref pl), some (.int h), w6, some (.ref D), w8, w9, u10] ∧ Same H H' ∧ Keeps H5 H' ∧ H' ps = some (.lst sl) ∧ sl.length = n ∧ sl[h]? = some (.ref ph) ∧ H' pt = some (.lst (rl.map V.ref)) ∧ H' pl = some (.lst (natsV rest)) ∧ H' D = some (.lst (natsV (nearL h rest Mi))) ∧
              (∀ (kk : Nat) (y : V), sl[kk]? = some y → kk ∈ rest → IsF H' y (if kk ∈ (nearL h rest Mi).take a then (elim h Mi).s kk else Mi.s kk)) ∧
              Mat H' rl n (fun a b => (a = h ∧ b ∈ rest) ∨ (a ∈ rest ∧ b ∈ rest ∧ a ≠ b)) (fun x y => if x ∈ (nearL h rest Mi).take a ∧ y ∈ nearL h rest Mi then (elim h Mi).t x y else Mi.t x y))
            ⟨_, _, _, sl, rfl, s05, Keeps.rfl', h5s, hsl, ehs, s5 _ _ h4t, s5 _ _ h4l, hD5, fun kk y e1 e2 => by simpa using (hS4 kk y e1 (List.mem_cons_of_mem _ e2)).up s5, (hM4.up s5).congr fun a b _ _ hab => ⟨?_, by simp⟩⟩ (fun a σ H' _ ⟨_, _, _, _, _, _, _, _, _, _, _, _, h, _⟩ => .inl (.inl h)) ?_ ?_
          · rcases hab with ⟨rfl, hb⟩ | ⟨ha, hb, hne⟩
            · exact ⟨List.mem_cons_self, List.mem_cons_of_mem _ hb, fun e => hhr (e ▸ hb)⟩
            · exact ⟨List.mem_cons_of_mem _ ha, List.mem_cons_of_mem _ hb, hne⟩
          · rintro a x σ H6 hx ⟨w6, w8, w9, sl6, rfl, s6, kp6, h6s, hsl6, eh6, h6t, h6l, h6D, hS6, hM6⟩
            obtain ⟨o, ho, rfl⟩ := natsV_at hx
            have hom := List.mem_of_getElem? ho
            obtain ⟨hor, hot⟩ := nm.mp hom
            have hon := hrn o hor
            have hot' : o ∉ (nearL h rest Mi).take a := fun h => by
              have nd2 := hnd'
              rw [take_drop_at ho, List.nodup_append] at nd2
              exact nd2.2.2 o h o (List.mem_cons_self) rfl
            have hhN : h ∉ nearL h rest Mi := fun e => hhr (nm.mp e).1
            have hhT : h ∉ (nearL h rest Mi).take a := fun e => hhN (List.mem_of_mem_take e)
            have hoh : o ≠ h := fun e => hhr (e ▸ hor)
            have s0 := spos o hom
            have ki := i6 o hom
            obtain ⟨rh6, rowh6, erh6, hrowh6, hrowhl6, hrowhf6⟩ := hM6.at_ hhn
            have tieh6 : ∀ o, o ∈ rest → ∃ y, rowh6[o]? = some y ∧ IsF H6 y (Mi.t h o) := fun o ho => by
              have e := List.getElem?_eq_getElem (l := rowh6) (by rw [hrowhl6]; exact hrn o ho)
              have := hrowhf6 o _ e (.inl ⟨rfl, ho⟩)
              simp only [hhT, false_and, if_false] at this
              exact ⟨_, e, this⟩
            obtain ⟨yo, eyo, hyo⟩ := tieh6 o hor
            have hph6 := kp6 _ _ hph5 rfl
            have eso := List.getElem?_eq_getElem (l := sl6) (by rw [hsl6]; exact hon)
            have hso := hS6 o _ eso hor
            rw [if_neg hot'] at hso
            have oks := fn.okS (by omega) h
            refine ⟨_, rfl, _, rfl, _, _, _, _, rfl, rfl, .inl (.inl h6t), (atI_nat (by rw [List.getElem?_map, erh6]; rfl)), _, rfl, _, _, _, _, rfl, rfl, .inl (.inl hrowh6), (atI_nat eyo), _, rfl, _, rfl, _, _, _, _, rfl, rfl, .inl (.inl h6s), (atI_nat eh6), _, _, _, rfl, .inl (.inl hph6), fun pi fpi => ?_⟩
            have s7 := Same.new (o := .tup [.int ((Mi.s h).den : Int), .int (Mi.s h).num]) fpi
            have okts : Ok (Mi.t h o * (Mi.s h)⁻¹) := by
              rw [← Rat.div_def]
              exact fn.okTS ki _ _ _ s0
            refine ⟨_, _, rfl, Mi.t h o, (Mi.s h)⁻¹, hyo.up s7, IsF.inv s0 upd_same, fn.okT (by omega) _ _, Ok.inv s0 oks, fun vsh H8 s8 hsh => ?_⟩
            have s68 := Same.trans s7 s8
            have okxx : ∀ x, x ∈ nearL h rest Mi → Ok (Mi.t h x * (Mi.t h o * (Mi.s h)⁻¹)) := fun x _ => by
              rw [← Rat.mul_assoc, ← Rat.div_def]
              exact fn.okTTS ki _ _ _ _ _ s0
            refine ⟨_, rfl, _, rfl, _, _, _, _, rfl, rfl, .inl (.inl (s68 _ _ h6s)), (atI_nat eso), _, rfl, _, rfl, _, _, _, _, rfl, rfl, .inl (.inl (s68 _ _ h6t)), (atI_nat (by rw [List.getElem?_map, erh6]; rfl)), _, rfl, _, _, _, _, rfl, rfl, .inl (.inl (s68 _ _ hrowh6)), (atI_nat eyo), _, rfl, _, _, rfl, _, _, hyo.up s68, hsh, fn.okT (by omega) _ _, okts, fun vp H9 s9 hvp => ?_⟩
            have s69 := Same.trans s68 s9
            refine ⟨_, _, rfl, _, _, hso.up s69, hvp, fn.okS (by omega) _, okxx o hom, fun vn H10 s10 hvn => ?_⟩
            have s610 := Same.trans s69 s10
            have hvn : IsF H10 vn ((elim h Mi).s o) := by
              rw [← share_s]
              exact hvn
            refine ⟨_, rfl, _, rfl, _, _, _, _, rfl, rfl, (s610 _ _ h6s), Evl.ixN_nat (by omega), ?_⟩
            have kp11 := Keeps.upd (o := .lst (sl6.set o vn)) (s610 _ _ h6s) rfl
            have s11 : Same H (upd H10 ps (.lst (sl6.set o vn))) := Same.mut (Same.trans s6 s610) fps0
            have h11s : (upd H10 ps (.lst (sl6.set o vn))) ps = some (.lst (sl6.set o vn)) := upd_same
            have h11t : (upd H10 ps (.lst (sl6.set o vn))) pt = some (.lst (rl.map V.ref)) := by rw [upd_ne hpspt.symm]; exact s610 _ _ h6t
            have h11l : (upd H10 ps (.lst (sl6.set o vn))) pl = some (.lst (natsV rest)) := by rw [upd_ne hpspl.symm]; exact s610 _ _ h6l
            have h11D : (upd H10 ps (.lst (sl6.set o vn))) D = some (.lst (natsV (nearL h rest Mi))) := by rw [upd_ne hDps]; exact s610 _ _ h6D
            have hM11 := (hM6.up s610).frame (o := .lst (sl6.set o vn)) (s610 _ _ h6s) rfl hpsr
            have kp611 := Keeps.trans (Keeps.of s610) kp11
            have hsh11 : IsF (upd H10 ps (.lst (sl6.set o vn))) vsh (Mi.t h o * (Mi.s h)⁻¹) := (hsh.up (Same.trans s9 s10)).keep kp11
            have hS11 : ∀ (kk : Nat) (y : V), (sl6.set o vn)[kk]? = some y → kk ∈ rest → IsF (upd H10 ps (.lst (sl6.set o vn))) y (if kk ∈ (nearL h rest Mi).take (a + 1) then (elim h Mi).s kk else Mi.s kk) := fun kk y e1 e2 => by
              rw [List.getElem?_set] at e1
              rw [take_snoc ho]
              by_cases hk : o = kk
              · subst hk
                rw [if_pos rfl, if_pos (by omega)] at e1
                cases e1
                rw [if_pos (by simp)]
                exact hvn.keep kp11
              · rw [if_neg hk] at e1
                have := (hS6 kk y e1 e2).keep kp611
                have hk' : ¬ kk = o := fun e => hk e.symm
                simpa [hk'] using this
            have eh11 : (sl6.set o vn)[h]? = some (.ref ph) := by rw [List.getElem?_set, if_neg hoh]; exact eh6
            generalize hH11 : upd H10 ps (.lst (sl6.set o vn)) = H11
            rw [hH11] at s11 h11s h11t h11l h11D hM11 kp611 hsh11 hS11
            clear hH11 kp11
            refine ⟨_, rfl, _, rfl, ⟨_, .inl (.inl h11D)⟩, ?_⟩
            refine for_list (xs := natsV (nearL h rest Mi)) (fun b σ H' => ∃ z6, σ = [some (.ref p), some (.ref q), some (.ref ps), some (.ref pt), some (.ref pl), some (.int h), z6, some (.ref D), some (.int o), some vsh, u10] ∧ Same H H' ∧ Keeps H11 H' ∧ H' ps = some (.lst (sl6.set o vn)) ∧ H' pt = some (.lst (rl.map V.ref)) ∧ H' pl = some (.lst (natsV rest)) ∧ H' D = some (.lst (natsV (nearL h rest Mi))) ∧
                Mat H' rl n (fun a b => (a = h ∧ b ∈ rest) ∨ (a ∈ rest ∧ b ∈ rest ∧ a ≠ b)) (fun x y => if (x ∈ (nearL h rest Mi).take a ∧ y ∈ nearL h rest Mi) ∨ (x = o ∧ y ∈ (nearL h rest Mi).take b) then (elim h Mi).t x y else Mi.t x y))
              ⟨_, rfl, s11, Keeps.rfl', h11s, h11t, h11l, h11D, hM11.congr fun x y _ _ hxy => ⟨hxy, by simp⟩⟩ (fun b σ H' _ ⟨_, _, _, _, _, _, _, h, _⟩ => .inl (.inl h)) ?_ ?_
            · rintro b x σ H12 hx ⟨z6, rfl, s12', kp12, h12s, h12t, h12l, h12D, hM12⟩
              obtain ⟨o2, ho2, rfl⟩ := natsV_at hx
              have ho2m := List.mem_of_getElem? ho2
              obtain ⟨ho2r, ho2t⟩ := nm.mp ho2m
              have ho2n := hrn o2 ho2r
              have ho2t' : o2 ∉ (nearL h rest Mi).take b := fun h => by
                have nd2 := hnd'
                rw [take_drop_at ho2, List.nodup_append] at nd2
                exact nd2.2.2 o2 h o2 (List.mem_cons_self) rfl
              refine ⟨_, rfl, _, rfl, rfl, _, rfl, ite2 (fun hc => ?_) (fun hc => ?_)⟩
              · have hne : o2 ≠ o := fun e => by subst e; simp at hc
                obtain ⟨ro, rowo, ero, hrowo, hrowol, hrowof⟩ := hM12.at_ hon
                have e2 := List.getElem?_eq_getElem (l := rowo) (by rw [hrowol]; exact ho2n)
                have hv2 := hrowof o2 _ e2 (.inr ⟨hor, ho2r, fun e => hne e.symm⟩)
                have hcond : ¬ ((o ∈ (nearL h rest Mi).take a ∧ o2 ∈ nearL h rest Mi) ∨ (o = o ∧ o2 ∈ (nearL h rest Mi).take b)) := fun e => e.elim (fun e => hot' e.1) fun e => ho2t' e.2
                rw [if_neg hcond] at hv2
                obtain ⟨rh2, rowh2, erh2, hrowh2, hrowhl2, hrowhf2⟩ := hM12.at_ hhn
                have eh2 := List.getElem?_eq_getElem (l := rowh2) (by rw [hrowhl2]; exact ho2n)
                have hvh := hrowhf2 o2 _ eh2 (.inl ⟨rfl, ho2r⟩)
                have hcond2 : ¬ ((h ∈ (nearL h rest Mi).take a ∧ o2 ∈ nearL h rest Mi) ∨ (h = o ∧ o2 ∈ (nearL h rest Mi).take b)) := fun e => e.elim (fun e => hhT e.1) fun e => hoh e.1.symm
                rw [if_neg hcond2] at hvh
                have hsh12 := hsh11.keep kp12
                refine ⟨_, rfl, _, rfl, _, _, _, _, rfl, rfl, .inl (.inl h12t), (atI_nat (by rw [List.getElem?_map, ero]; rfl)), _, rfl, _, _, _, _, rfl, rfl, .inl (.inl hrowo), (atI_nat e2), _, rfl, _, rfl, _, _, _, _, rfl, rfl, .inl (.inl h12t), (atI_nat (by rw [List.getElem?_map, erh2]; rfl)), _, rfl, _, _, _, _, rfl, rfl, .inl (.inl hrowh2), (atI_nat eh2), _, rfl, _, _, rfl, _, _, hvh, hsh12, fn.okT (by omega) _ _, okts, fun vp2 H13 s13 hvp2 => ?_⟩
                refine ⟨_, _, rfl, _, _, hv2.up s13, hvp2, fn.okT (by omega) _ _, okxx o2 ho2m, fun vt H14 s14 hvt => ?_⟩
                have s1214 := Same.trans s13 s14
                have hvt : IsF H14 vt ((elim h Mi).t o o2) := by
                  rw [← share_t]
                  exact hvt
                have rops : ps ≠ ro := fun e => hpsr (e ▸ List.mem_of_getElem? ero)
                have ropt : pt ≠ ro := fun e => hptr (e ▸ List.mem_of_getElem? ero)
                have ropl : pl ≠ ro := fun e => hplr (e ▸ List.mem_of_getElem? ero)
                have roD : D ≠ ro := fun e => hDr (e ▸ List.mem_of_getElem? ero)
                refine ⟨_, rfl, _, rfl, _, _, _, _, rfl, rfl, .inl (.inl (s1214 _ _ h12t)), (atI_nat (by rw [List.getElem?_map, ero]; rfl)), _, rfl, _, _, _, _, rfl, rfl, (s1214 _ _ hrowo), Evl.ixN_nat (by omega), ?_⟩
                have kp15 := Keeps.upd (o := .lst (rowo.set o2 vt)) (s1214 _ _ hrowo) rfl
                refine ⟨_, rfl, Same.mut (Same.trans s12' s1214) (hrf ro (List.mem_of_getElem? ero)), Keeps.trans kp12 (Keeps.trans (Keeps.of s1214) kp15), by rw [upd_ne rops]; exact s1214 _ _ h12s, by rw [upd_ne ropt]; exact s1214 _ _ h12t, by rw [upd_ne ropl]; exact s1214 _ _ h12l, by rw [upd_ne roD]; exact s1214 _ _ h12D, ((hM12.up s1214).set ero (s1214 _ _ hrowo) hvt).congr fun x y _ _ hxy => ⟨hxy, ?_⟩⟩
                show (if x = o ∧ y = o2 then _ else _) = _
                rw [take_snoc ho2]
                by_cases hxy2 : x = o ∧ y = o2
                · obtain ⟨rfl, rfl⟩ := hxy2
                  rw [if_pos ⟨rfl, rfl⟩, if_pos (.inr ⟨rfl, by simp⟩)]
                · rw [if_neg hxy2]
                  have : (x = o ∧ y ∈ (nearL h rest Mi).take b ++ [o2]) ↔ (x = o ∧ y ∈ (nearL h rest Mi).take b) := by
                    rw [List.mem_append, List.mem_singleton]
                    exact ⟨fun e => ⟨e.1, e.2.resolve_right fun z => hxy2 ⟨e.1, z⟩⟩, fun e => ⟨e.1, .inl e.2⟩⟩
                  simp only [this]
              · have hne : o2 = o := by
                  by_cases e : o2 = o
                  · exact e
                  · exact absurd (by simp; omega) hc
                subst hne
                refine ⟨_, rfl, s12', kp12, h12s, h12t, h12l, h12D, hM12.congr fun x y _ _ hxy => ⟨hxy, ?_⟩⟩
                rw [take_snoc ho2]
                have : (x = o2 ∧ y ∈ (nearL h rest Mi).take b ++ [o2]) ↔ (x = o2 ∧ y ∈ (nearL h rest Mi).take b) := by
                  rw [List.mem_append, List.mem_singleton]
                  refine ⟨fun e => ⟨e.1, e.2.resolve_right fun z => ?_⟩, fun e => ⟨e.1, .inl e.2⟩⟩
                  rcases hxy with ⟨e1, _⟩ | ⟨_, _, e1⟩
                  · exact hoh (e.1.symm.trans e1)
                  · exact e1 (e.1.trans z.symm)
                simp only [this]
            · rintro σ H12 ⟨z6, rfl, s12', kp12, h12s, h12t, h12l, h12D, hM12⟩
              rw [natsV_len, List.take_length] at hM12
              refine ⟨_, _, _, sl6.set o vn, rfl, s12', Keeps.trans kp6 (Keeps.trans kp611 kp12), h12s, by simp [hsl6], eh11, h12t, h12l, h12D, fun kk y e1 e2 => (hS11 kk y e1 e2).keep kp12, hM12.congr fun x y _ _ hxy => ⟨hxy, ?_⟩⟩
              rw [take_snoc ho]
              have : (x ∈ (nearL h rest Mi).take a ++ [o] ∧ y ∈ nearL h rest Mi) ↔ ((x ∈ (nearL h rest Mi).take a ∧ y ∈ nearL h rest Mi) ∨ (x = o ∧ y ∈ nearL h rest Mi)) := by
                rw [List.mem_append, List.mem_singleton, or_and_right]
              simp only [this]
          · rintro σ H6 ⟨w6, w8, w9, sl6, rfl, s6, kp6, h6s, hsl6, eh6, h6t, h6l, h6D, hS6, hM6⟩
            rw [natsV_len, List.take_length] at hS6 hM6
            refine ⟨_, _, _, _, _, _, elim h Mi, sl6, rfl, s6, h6s, hsl6, h6t, h6l, fun kk y e1 e2 => ?_, hM6.congr fun x y _ _ hxy => ?_, by rw [er, cont bf], gd', fn'⟩
            · have := hS6 kk y e1 e2
              rw [elim_s_l gd e2] at this
              exact this
            · exact ⟨.inr hxy, elim_t_l gd hxy.1 hxy.2.1⟩
    · rintro σ H3 ⟨u5, u6, u7, u8, u9, u10, Mi, sl, rfl, s3, h3s, hsl, h3t, h3l, hS3, hM3, hrun, gd, fn⟩
      rw [natsV_len, List.drop_length] at hrun
      have := k H3 s3
      rw [hrun] at this
      exact this
  · obtain ⟨u1, u2, rfl⟩ := two2 hl
    rfl
end
end R25

set_option Elab.async false
set_option linter.all false
set_option maxRecDepth 100000
set_option maxHeartbeats 4000000
namespace R25
open PySem PySem.Spec PyProof.Rows L2
/-! ### tuples by masks -/
def maskRow (n mask : Nat) : List Nat := (List.range n).filter fun a => decide (mask / 2 ^ a % 2 = 1)
theorem maskRow_low {n a m : Nat} (ha : a < n) : (2 ^ n + m) / 2 ^ a % 2 = m / 2 ^ a % 2 := by
  have e : 2 ^ n = 2 ^ a * (2 * 2 ^ (n - a - 1)) := by
    rw [← Nat.mul_assoc, ← Nat.pow_succ, ← Nat.pow_add]
    congr 1
    omega
  rw [e, Nat.mul_add_div (Nat.two_pow_pos a)]
  omega
theorem maskRow_all : ∀ n : Nat, (List.range (2 ^ n)).map (maskRow n) = subs n
  | 0 => rfl
  | n + 1 => by
    have hp := Nat.two_pow_pos n
    rw [Nat.pow_succ, Nat.mul_two, List.range_add, List.map_append, List.map_map, subs, ← maskRow_all n, List.map_map]
    congr 1
    · refine List.map_congr_left fun m hm => ?_
      have hm := List.mem_range.mp hm
      unfold maskRow
      rw [range_filter_snoc, Nat.div_eq_of_lt hm]
      simp
    · refine List.map_congr_left fun m hm => ?_
      have hm := List.mem_range.mp hm
      show maskRow (n + 1) (2 ^ n + m) = maskRow n m ++ [n]
      unfold maskRow
      rw [range_filter_snoc]
      congr 1
      · refine List.filter_congr fun a ha => ?_
        rw [maskRow_low (List.mem_range.mp ha)]
      · rw [Nat.add_div_left _ hp, Nat.div_eq_of_lt hm]
        simp
/-! ### all stalls but one -/
theorem pickS_range {l : List Stl} : ∀ i, i ≤ l.length → pickS l (List.range i) = l.take i
  | 0, _ => by simp [pickS]
  | i + 1, h => by
    have e := List.getElem?_eq_getElem (l := l) (i := i) (by omega)
    rw [List.range_succ, pickS_snoc e, pickS_range i (by omega), take_snoc e]
theorem pickS_range' {l : List Stl} : ∀ b a, a + b = l.length → pickS l (List.range' a b) = l.drop a
  | 0, a, h => by simp [pickS, List.drop_of_length_le (show l.length ≤ a by omega)]
  | b + 1, a, h => by
    have e := List.getElem?_eq_getElem (l := l) (i := a) (by omega)
    have ih := pickS_range' (l := l) b (a + 1) (by omega)
    unfold pickS at ih ⊢
    rw [List.range'_succ, List.filterMap_cons, e]
    show l[a] :: _ = _
    rw [ih]
    exact List.getElem_cons_drop (by omega)
theorem pickS_app (l : List Stl) (r s : List Nat) : pickS l (r ++ s) = pickS l r ++ pickS l s := by unfold pickS; rw [List.filterMap_append]
theorem but_eq {L i : Nat} (h : i < L) : but L i = List.range i ++ List.range' (i + 1) (L - i - 1) := by
  have e : List.range L = List.range i ++ i :: List.range' (i + 1) (L - i - 1) := by
    have h1 : L = i + (L - i - 1 + 1) := by omega
    conv => lhs; rw [h1, List.range_add]
    congr 1
    rw [List.range_eq_range', List.map_add_range', Nat.add_zero, List.range'_succ]
  unfold but
  rw [e, List.filter_append, List.filter_cons_of_neg (by simp)]
  congr 1
  · exact List.filter_eq_self.mpr fun a ha => by have := List.mem_range.mp ha; simp; omega
  · exact List.filter_eq_self.mpr fun a ha => by rw [List.mem_range'_1] at ha; simp; omega
theorem pickS_but {l : List Stl} {i : Nat} (h : i < l.length) : pickS l (but l.length i) = l.take i ++ l.drop (i + 1) := by
  rw [but_eq h, pickS_app, pickS_range i (by omega), pickS_range' _ _ (by omega)]
theorem ItS.take_drop {H : Hp} {vs : List V} {l : List Stl} {i : Nat} (h : ItS H vs l) (hi : i < l.length) : ItS H (vs.take i ++ vs.drop (i + 1)) (l.take i ++ l.drop (i + 1)) := by
  have hl := h.1
  refine ⟨by simp [hl], fun k y e => ?_⟩
  by_cases hk : k < i
  · rw [List.getElem?_append_left (by rw [List.length_take]; omega), List.getElem?_take_of_lt hk] at e
    rw [List.getElem?_append_left (by rw [List.length_take]; omega), List.getElem?_take_of_lt hk]
    exact h.2 k y e
  · rw [List.getElem?_append_right (by rw [List.length_take]; omega), List.getElem?_drop] at e
    rw [List.getElem?_append_right (by rw [List.length_take]; omega), List.getElem?_drop]
    have e1 : (vs.take i).length = (l.take i).length := by rw [List.length_take, List.length_take, hl]
    rw [← e1]
    exact h.2 _ y e
theorem cutV_take (xs : List V) (j : Nat) : cutV xs none (some (j : Int)) = xs.take j := by
  unfold cutV
  rw [HT.sIx_none, HT.sIx_nat, List.drop_zero, Nat.sub_zero]
  by_cases h : j ≤ xs.length
  · rw [Nat.min_eq_left h]
  · rw [Nat.min_eq_right (by omega), List.take_of_length_le (Nat.le_refl _), List.take_of_length_le (by omega)]
end R25

set_option Elab.async false
set_option linter.all false
set_option maxRecDepth 100000
set_option maxHeartbeats 4000000
namespace R25
open PySem PySem.Spec PyProof.Rows L2
section
variable {P : Program} {w : World} {K : PySem.W.Frag} {mg : Str → Option Value} {base : Heap}
theorem sc_law_some : FnScope ["_law_many", "_law_found", "_law_mask", "_law_some_here", "_law_pair", "_law_at"] ["_law_many"] (defScope s_law_some) := ⟨rfl, rfl, rfl, by decide +kernel, rfl, by decide +kernel, by decide +kernel⟩
theorem ok_law_some (T : Txt K mg)  : Dfn P w K mg base CX0 1 "_law_some" ["_law_many"] (sp1 (sp_law_some K)) := by
  obtain ⟨fd, F⟩ := T.f_law_some
  refine ⟨T.g_law_some, F.kp, fd, fnok_of F sc_law_some (fun vs H Q E h => ?_) (fun vs H Q E h => ?_), F.binds (ps := ["_law_many"]) fun _ _ _ _ _ _ us hl => ?_⟩
  · obtain ⟨a1, rfl, _⟩ := h
    rfl
  · obtain ⟨a1, rfl, h⟩ := h
    intro cdv A outer s hr
    refine ⟨_, (pss_cons (ps_set (i := 1) sc_law_some.nd rfl (Or.inl rfl) (pe_lst pa_nil))
      (pss_cons (ps_for PassesOwn.never rfl (pi_range1 rfl T.b_range (pa_cons (pe_op op_shl pe_int (pv 0)) pa_nil)) (pg_name (i := 2) sc_law_some.nd rfl (Or.inr rfl)) (pss_cons (ps_set (i := 3) sc_law_some.nd rfl (Or.inl rfl) (pe_callTy call_tuple_of (by rfl) T.b_tuple (by decide +kernel) (pa_cons (pe_lc (own := [("_law_at", 5)]) (g := gName 5) rfl sc_law_some.nd (pi_range1 rfl T.b_range (pa_cons (pv 0) pa_nil)) (blkOk_by (N := ["_law_many", "_law_found", "_law_mask", "_law_some_here", "_law_pair", "_law_at"]) (sc := defScope s_law_some) (by decide +kernel)) (fun _ _ _ _ _ => (pg_name (i := 5) sc_law_some.nd rfl (Or.inl rfl))) (fun _ _ _ _ _ => (pts_one (pt_cmpR op_eq (pe_op op_and (pe_op op_shr (pv 2) (pv 5)) pe_int) pe_int (nomark _)))) (fun _ _ _ _ _ => (pv 5))) pa_nil)))
      (pss_one (ps_expr (pe_bm PySem.F.plainAttrs_list PySem.F.slot_list_append PySem.F.type_list_append mt_append (pv 1) (pa_cons (pe_tup (pa_cons (pe_callB call_len_seq (by rfl) T.b_len (by decide +kernel) (pa_cons (pv 3) pa_nil)) (pa_cons (pv 3) pa_nil))) pa_nil))))))
      (pss_one (ps_ret (pe_lc (own := [("_law_pair", 4)]) (g := gName 4) rfl sc_law_some.nd (pi_list (pe_callB (cr_sortR hr) (by rfl) T.b_sorted (by decide +kernel) (pa_cons (pv 1) pa_nil))) (blkOk_by (N := ["_law_many", "_law_found", "_law_mask", "_law_some_here", "_law_pair", "_law_at"]) (sc := defScope s_law_some) (by decide +kernel)) (fun _ _ _ _ _ => (pg_name (i := 4) sc_law_some.nd rfl (Or.inl rfl))) (fun _ _ _ _ _ => pts_nil) (fun _ _ _ _ _ => (pe_ix (ix_tupK (K := K)) (pv 4) pe_int (fun _ _ => rfl)))))))), ?_⟩
    obtain ⟨n, rfl, n8, k⟩ := h
    refine ⟨(by decide), fun fp ffp => ⟨_, rfl, _, _, rfl, rfl, ⟨by omega, by omega, by decide⟩, _, rfl, ?_⟩⟩
    have ep : (1 * 2 ^ ((n : Int)).toNat : Int) = ((2 ^ n : Nat) : Int) := by
      rw [Int.one_mul, Int.toNat_natCast]
      simp
    have h256 : 2 ^ n ≤ 256 := Nat.pow_le_pow_right (by decide) (show n ≤ 8 by omega)
    rw [ep]
    generalize hN : 2 ^ n = N at *
    refine ⟨by omega, by omega, ?_⟩
    rw [Int.toNat_natCast]
    refine for_range (n := N) (fun i σ H' => ∃ u2 u3 u4 u5 vs, σ = [some (.int n), some (.ref fp), u2, u3, u4, u5] ∧ Same H H' ∧ H' fp = some (.lst vs) ∧ vs.length = i ∧ ∀ (k : Nat) (y : V), vs[k]? = some y → IsRowP K H' y (maskRow n k)) ⟨_, _, _, _, [], rfl, Same.new ffp, upd_same, rfl, fun k y e => by simp at e⟩ ?_ ?_
    · rintro i σ H1 hi ⟨u2, u3, u4, u5, vs, rfl, s1, hf, hvl, hr1⟩
      rw [Int.zero_add]
      refine ⟨_, rfl, _, rfl, by omega, by omega, fun D fD => ?_⟩
      refine lc_range (n := n) (fun j H' => Same H1 H' ∧ H' D = some (.lst (natsV (maskRow j i)))) ⟨Same.new fD, upd_same⟩ ?_ ?_
      · rintro j H2 hj ⟨s2, hD2⟩
        rw [Int.zero_add]
        have ef := range_filter_snoc (fun a => decide (i / 2 ^ a % 2 = 1)) j
        have hlen : (maskRow j i).length ≤ 8 := by
          have := List.length_filter_le (fun a => decide (i / 2 ^ a % 2 = 1)) (List.range j)
          rw [List.length_range] at this
          unfold maskRow
          omega
        have eb : Builtin.bitAnd ((i : Int) / 2 ^ ((j : Int)).toNat) 1 = ((i / 2 ^ j % 2 : Nat) : Int) := by
          rw [PyProof.Rows.bitAnd_m1, Int.toNat_natCast]
          simp
        refine ⟨rfl, _, rfl, _, rfl, _, _, rfl, rfl, by omega, _, _, rfl, rfl, rfl, _, rfl, ite2 (fun hc => ⟨_, rfl, _, hD2, ?_, Same.mut s2 fD, ?_⟩) (fun hc => ⟨s2, ?_⟩)⟩
        · rw [natsV_len]
          exact Nat.lt_of_lt_of_le (show _ < 9 by omega) (by decide)
        · have h1 : i / 2 ^ j % 2 = 1 := by
            have this : V.int (Builtin.bitAnd ((i : Int) / 2 ^ ((j : Int)).toNat) 1) = V.int 1 := of_decide_eq_true hc
            injection this with this
            rw [eb] at this
            omega
          rw [upd_same]
          unfold maskRow
          rw [ef, if_pos (decide_eq_true h1), natsV_snoc]
        · have h1 : ¬ i / 2 ^ j % 2 = 1 := fun e => hc (decide_eq_true (by show V.int (Builtin.bitAnd ((i : Int) / 2 ^ ((j : Int)).toNat) 1) = V.int 1; rw [eb, e]; rfl))
          rw [show maskRow (j + 1) i = maskRow j i by unfold maskRow; rw [ef, if_neg (by simp [h1]), List.append_nil]]
          exact hD2
      · rintro H2 ⟨s2, hD2⟩
        refine ⟨_, _, rfl, .inl ⟨.inl (.inl hD2), fun q fq => ?_⟩⟩
        have s3 := Same.new (o := .tup (natsV (maskRow n i))) fq
        have s13 := Same.trans s2 s3
        refine ⟨_, rfl, .inl ⟨rfl, _, .inl (.inl (s13 _ _ hf))⟩, _, rfl, _, _, rfl, .inr (.inl (.inl upd_same)), _, rfl, (by show 2 ≤ sizeLine; decide), fun t ft => ?_⟩
        have s4 := Same.new (o := .tup [.int ((natsV (maskRow n i)).length : Int), .ref q]) ft
        have s14 := Same.trans s13 s4
        have hf4 := s14 _ _ hf
        have kp := Keeps.upd (o := .lst (vs ++ [.ref t])) hf4 rfl
        refine ⟨fp, vs, _, rfl, rfl, hf4, Nat.lt_of_lt_of_le (show vs.length < 256 by omega) (by decide), _, _, _, _, vs ++ [.ref t], rfl, Same.mut (Same.trans s1 s14) ffp, upd_same, by simp [hvl], fun kk y e => ?_⟩
        by_cases hk : kk < vs.length
        · rw [List.getElem?_append_left hk] at e
          exact (hr1 kk y e).keep (Keeps.trans (Keeps.of s14) kp)
        · have hk2 : kk = vs.length := by
            have := (List.getElem?_eq_some_iff.mp e).1
            simp at this
            omega
          subst hk2
          simp at e
          subst e
          rw [hvl]
          exact ⟨t, q, rfl, .inl (.inl (kp _ _ (by rw [upd_same, natsV_len]) rfl)), .inl (.inl (kp _ _ (s4 _ _ upd_same) rfl))⟩
    · rintro σ H1 ⟨u2, u3, u4, u5, vs, rfl, s1, hf, hvl, hr1⟩
      have hpair : Paired (IsRowP K H1) vs (subs n) := paired_of (by rw [hvl, subs_len, hN]) fun kk y e => by
        have hk := (List.getElem?_eq_some_iff.mp e).1
        refine ⟨maskRow n kk, ?_, hr1 kk y e⟩
        rw [← maskRow_all, List.getElem?_map, hN, List.getElem?_range (by omega)]
        rfl
      refine ⟨_, rfl, _, vs, subs n, rfl, .inl (.inl hf), hpair, fun p ys fp2 hp => ?_⟩
      have s3 := Same.new (o := .lst ys) fp2
      have hyl : ys.length = (alls n).length := hp.length
      have hya : ys.length ≤ 256 := by rw [hyl, alls_len, hN]; exact h256
      refine ⟨_, rfl, ⟨_, .inl (.inl upd_same)⟩, fun D2 fD2 => ?_⟩
      refine lcm_list (xs := ys) (fun _ H' => Same (upd H1 p (.lst ys)) H') (fun k y H => ∃ r, (alls n)[k]? = some r ∧ IsT K H y r) (Nat.lt_of_le_of_lt hya (by decide)) (fun _ _ _ _ s ⟨r, a, b⟩ => ⟨r, a, b.keep s⟩) (Same.new fD2) (fun _ _ _ s => .inl (.inl (s _ _ upd_same))) (fun _ _ _ _ s _ => Same.mut s fD2) ?_ ?_
      · rintro j x H4 acc2 hx s4 hD4 hl4 C hC
        obtain ⟨r, hr', pr, q, rfl, hpr, hq⟩ := paired_at hp j x hx
        have kp := Keeps.of (Same.trans s3 s4)
        exact ⟨rfl, _, rfl, _, _, _, _, rfl, rfl, SqT.keep kp hpr, rfl, hC _ _ hD4 Keeps.rfl' s4 ⟨r, hr', q, rfl, SqT.keep kp hq⟩⟩
      · rintro H4 acc2 s4 hD4 hl4 hR4
        have sA := Same.trans s1 s3
        exact k D2 acc2 H4 (Same.free sA fD2) (Same.trans sA s4) hD4 ⟨by rw [hl4, hyl], hR4⟩
  · obtain ⟨u1, rfl⟩ := one1 hl
    rfl
theorem sc_law_is_met : FnScope ["_law_wares", "_law_stalls", "_law_purse", "_law_wish"] ["_law_wares", "_law_stalls", "_law_purse", "_law_wish"] (defScope s_law_is_met) := ⟨rfl, rfl, rfl, by decide +kernel, rfl, by decide +kernel, by decide +kernel⟩
theorem ok_law_is_met (T : Txt K mg) (D_law_can_be_struck : Dfn P w K mg base CX0 4 "_law_can_be_struck" ["_law_table_here", "_law_some_here"] (sp2 sp_law_can_be_struck)) (D_law_table : Dfn P w K mg base CX0 4 "_law_table" ["_law_wares", "_law_stalls", "_law_purse", "_law_wish"] (sp4 sp_law_table)) : Dfn P w K mg base CX0 5 "_law_is_met" ["_law_wares", "_law_stalls", "_law_purse", "_law_wish"] (sp4 sp_law_is_met) := by
  obtain ⟨fd, F⟩ := T.f_law_is_met
  refine ⟨T.g_law_is_met, F.kp, fd, fnok_of F sc_law_is_met (fun vs H Q E h => ?_) (fun vs H Q E h => ?_), F.binds (ps := ["_law_wares", "_law_stalls", "_law_purse", "_law_wish"]) fun _ _ _ _ _ _ us hl => ?_⟩
  · obtain ⟨a1, a2, a3, a4, rfl, _⟩ := h
    rfl
  · obtain ⟨a1, a2, a3, a4, rfl, h⟩ := h
    intro cdv A outer s hr
    refine ⟨_, (pss_one (ps_ret (pe_callD D_law_can_be_struck hr (pa_cons (pe_callD D_law_table hr (pa_cons (pv 0) (pa_cons (pv 1) (pa_cons (pv 2) (pa_cons (pv 3) pa_nil))))) (pa_cons (pe_listRg rfl rfl T.b_list (prg_1 rfl T.b_range (pv 0))) pa_nil))))), ?_⟩
    obtain ⟨n, l, ps, ws, rfl, ⟨hl, ok, hp, hw, ap, aw⟩, k⟩ := h
    have n8 := ok.n8
    have fit := fit_web ok ap aw
    obtain ⟨ql, vl, rfl, hql, hvl⟩ := hl
    obtain ⟨qp, vp, rfl, hqp, hvp⟩ := hp
    obtain ⟨qw, vw, rfl, hqw, hvw⟩ := hw
    refine ⟨_, rfl, _, rfl, _, rfl, _, rfl, _, _, _, _, rfl, n, l, ps, ws, rfl, ⟨_, _, rfl, hql, hvl⟩, ok, ⟨_, _, rfl, hqp, hvp⟩, ⟨_, _, rfl, hqw, hvw⟩, ap, aw, fun vt H1 s1 ht => ?_⟩
    refine ⟨_, rfl, _, rfl, RgOk.of_le (by omega) (by omega) (by omega) (by omega), fun q fq => ?_⟩
    have e : rgV 0 (n : Int) = natsV (List.range n) := by
      unfold rgV natsV
      refine List.map_congr_left fun i _ => ?_
      simp
    rw [e]
    have s2 := Same.new (o := .lst (natsV (List.range n))) fq
    exact ⟨_, _, rfl, n, _, List.range n, q, ht.up s2, rfl, upd_same, List.nodup_range, fun x hx => List.mem_range.mp hx, n8, fit.fine, fit.good, fun H3 s3 => k H3 (Same.trans s1 (Same.trans s2 s3))⟩
  · obtain ⟨u1, u2, u3, u4, rfl⟩ := four4 hl
    rfl
theorem sc_law_wares_due : FnScope ["_law_wares", "_law_stalls", "_law_purse", "_law_wish", "_law_table_here", "_law_some_here"] ["_law_wares", "_law_stalls", "_law_purse", "_law_wish"] (defScope s_law_wares_due) := ⟨rfl, rfl, rfl, by decide +kernel, rfl, by decide +kernel, by decide +kernel⟩
theorem ok_law_wares_due (T : Txt K mg) (D_law_is_met : Dfn P w K mg base CX0 5 "_law_is_met" ["_law_wares", "_law_stalls", "_law_purse", "_law_wish"] (sp4 sp_law_is_met)) (D_law_table : Dfn P w K mg base CX0 4 "_law_table" ["_law_wares", "_law_stalls", "_law_purse", "_law_wish"] (sp4 sp_law_table)) (D_law_some : Dfn P w K mg base CX0 1 "_law_some" ["_law_many"] (sp1 (sp_law_some K))) (D_law_can_be_struck : Dfn P w K mg base CX0 4 "_law_can_be_struck" ["_law_table_here", "_law_some_here"] (sp2 sp_law_can_be_struck)) : Dfn P w K mg base CX0 6 "_law_wares_due" ["_law_wares", "_law_stalls", "_law_purse", "_law_wish"] (sp4 (sp_law_wares_due K)) := by
  obtain ⟨fd, F⟩ := T.f_law_wares_due
  refine ⟨T.g_law_wares_due, F.kp, fd, fnok_of F sc_law_wares_due (fun vs H Q E h => ?_) (fun vs H Q E h => ?_), F.binds (ps := ["_law_wares", "_law_stalls", "_law_purse", "_law_wish"]) fun _ _ _ _ _ _ us hl => ?_⟩
  · obtain ⟨a1, a2, a3, a4, rfl, _⟩ := h
    rfl
  · obtain ⟨a1, a2, a3, a4, rfl, h⟩ := h
    intro cdv A outer s hr
    refine ⟨_, (pss_cons (ps_if (pt_val (pe_callD D_law_is_met hr (pa_cons (pv 0) (pa_cons (pv 1) (pa_cons (pv 2) (pa_cons (pv 3) pa_nil)))))) (pss_one (ps_ret pe_non)) pss_nil)
      (pss_cons (ps_set (i := 4) sc_law_wares_due.nd rfl (Or.inl rfl) (pe_callD D_law_table hr (pa_cons (pv 0) (pa_cons (pv 1) (pa_cons (pv 2) (pa_cons (pv 3) pa_nil))))))
      (pss_cons (ps_for PassesOwn.never rfl (pi_list (pe_callD D_law_some hr (pa_cons (pv 0) pa_nil))) (pg_name (i := 5) sc_law_wares_due.nd rfl (Or.inl rfl)) (pss_one (ps_if (pt_not (pt_val (pe_callD D_law_can_be_struck hr (pa_cons (pv 4) (pa_cons (pe_callTy call_list_of (by rfl) T.b_list (by decide +kernel) (pa_cons (pv 5) pa_nil)) pa_nil))))) (pss_one (ps_ret (pv 5))) pss_nil)))
      (pss_one (ps_ret pe_non))))), ?_⟩
    obtain ⟨n, l, ps, ws, rfl, as, k⟩ := h
    have ok := as.2.1
    have n8 := ok.n8
    obtain ⟨ql, vl, rfl, _⟩ := as.1
    obtain ⟨qp, vp, rfl, _⟩ := as.2.2.1
    obtain ⟨qw, vw, rfl, _⟩ := as.2.2.2.1
    have fit := fit_web ok as.2.2.2.2.1 as.2.2.2.2.2
    refine ⟨_, rfl, _, rfl, _, rfl, _, rfl, _, _, _, _, rfl, n, l, ps, ws, rfl, as, fun H1 s1 => ⟨_, rfl, ite2 (fun hr => ?_) (fun hr => ?_)⟩⟩
    · exact k .non H1 s1 (.inl ⟨by unfold leastOf; rw [if_pos hr], rfl⟩)
    · have as1 := as.up s1
      refine ⟨_, rfl, _, rfl, _, rfl, _, rfl, _, _, _, _, rfl, n, l, ps, ws, rfl, as1.1, ok, as1.2.2.1, as1.2.2.2.1, as1.2.2.2.2.1, as1.2.2.2.2.2, fun vt H2 s2 ht => ?_⟩
      refine ⟨_, rfl, _, rfl, n, rfl, n8, fun pa va H3 fa s3 hpa hta => ⟨_, rfl, ⟨_, .inl (.inl hpa)⟩, ?_⟩⟩
      have s13 := Same.trans s1 (Same.trans s2 s3)
      have eD : leastOf n (tbl l ps ws) = (alls n).find? fun r => !run r (tbl l ps ws) := by
        unfold leastOf
        rw [if_neg hr]
      refine for_list (xs := va) (fun i σ H' => ∃ u5, σ = [some (.int n), some (.ref ql), some (.ref qp), some (.ref qw), some vt, u5] ∧ Same H3 H' ∧ ∀ (j : Nat) (r' : List Nat), j < i → (alls n)[j]? = some r' → (!run r' (tbl l ps ws)) = false) ⟨_, rfl, (fun _ _ h => h), fun j r' hj => absurd hj (by omega)⟩ (fun i σ H' _ ⟨_, _, s, _⟩ => .inl (.inl (s _ _ hpa))) ?_ ?_
      · rintro i x σ H4 hx ⟨u5, rfl, s4, hn⟩
        obtain ⟨r, hri, q, rfl, hq⟩ := (hta.keep (Keeps.of s4)).2 i x hx
        obtain ⟨rn, rb⟩ := alls_mem (List.mem_of_getElem? hri)
        refine ⟨_, rfl, _, rfl, _, _, rfl, .inr hq, fun q2 fq2 => ?_⟩
        have s5 := Same.new (o := .lst (natsV r)) fq2
        refine ⟨_, _, rfl, n, _, r, q2, ht.up (Same.trans s3 (Same.trans s4 s5)), rfl, upd_same, rn, rb, n8, fit.fine, fit.good, fun H6 s6 => ⟨_, rfl, ite2 (fun hc => ⟨_, rfl, k (.ref q) H6 (Same.trans s13 (Same.trans s4 (Same.trans s5 s6))) (.inr ⟨r, ?_, q, rfl, SqT.keep (Keeps.of (Same.trans s5 s6)) hq⟩)⟩) (fun hc => ⟨_, rfl, Same.trans s4 (Same.trans s5 s6), fun j r' hj e => ?_⟩)⟩⟩
        · rw [eD]
          exact find_at hri hc hn
        · by_cases hji : j = i
          · subst hji
            rw [hri] at e
            cases e
            exact Bool.eq_false_iff.mpr hc
          · exact hn j r' (by omega) e
      · rintro σ H4 ⟨u5, rfl, s4, hn⟩
        refine k .non H4 (Same.trans s13 s4) (.inl ⟨?_, rfl⟩)
        rw [eD]
        refine find_no fun j r' e => hn j r' ?_ e
        rw [hta.1]
        exact (List.getElem?_eq_some_iff.mp e).1
  · obtain ⟨u1, u2, u3, u4, rfl⟩ := four4 hl
    rfl
theorem sc_law_stalls_due : FnScope ["_law_wares", "_law_stalls", "_law_purse", "_law_wish", "_law_some_here", "_law_at"] ["_law_wares", "_law_stalls", "_law_purse", "_law_wish"] (defScope s_law_stalls_due) := ⟨rfl, rfl, rfl, by decide +kernel, rfl, by decide +kernel, by decide +kernel⟩
theorem ok_law_stalls_due (T : Txt K mg) (D_law_is_met : Dfn P w K mg base CX0 5 "_law_is_met" ["_law_wares", "_law_stalls", "_law_purse", "_law_wish"] (sp4 sp_law_is_met)) (D_law_some : Dfn P w K mg base CX0 1 "_law_some" ["_law_many"] (sp1 (sp_law_some K))) : Dfn P w K mg base CX0 6 "_law_stalls_due" ["_law_wares", "_law_stalls", "_law_purse", "_law_wish"] (sp4 (sp_law_stalls_due K)) := by
  obtain ⟨fd, F⟩ := T.f_law_stalls_due
  refine ⟨T.g_law_stalls_due, F.kp, fd, fnok_of F sc_law_stalls_due (fun vs H Q E h => ?_) (fun vs H Q E h => ?_), F.binds (ps := ["_law_wares", "_law_stalls", "_law_purse", "_law_wish"]) fun _ _ _ _ _ _ us hl => ?_⟩
  · obtain ⟨a1, a2, a3, a4, rfl, _⟩ := h
    rfl
  · obtain ⟨a1, a2, a3, a4, rfl, h⟩ := h
    intro cdv A outer s hr
    refine ⟨_, (pss_cons (ps_for PassesOwn.never rfl (pi_list (pe_callD D_law_some hr (pa_cons (pe_callB call_len_seq (by rfl) T.b_len (by decide +kernel) (pa_cons (pv 1) pa_nil)) pa_nil))) (pg_name (i := 4) sc_law_stalls_due.nd rfl (Or.inl rfl)) (pss_one (ps_if (pt_val (pe_callD D_law_is_met hr (pa_cons (pv 0) (pa_cons (pe_lc (own := [("_law_at", 5)]) (g := gName 5) rfl sc_law_stalls_due.nd (pi_tup (pv 4)) (blkOk_by (N := ["_law_wares", "_law_stalls", "_law_purse", "_law_wish", "_law_some_here", "_law_at"]) (sc := defScope s_law_stalls_due) (by decide +kernel)) (fun _ _ _ _ _ => (pg_name (i := 5) sc_law_stalls_due.nd rfl (Or.inl rfl))) (fun _ _ _ _ _ => pts_nil) (fun _ _ _ _ _ => (pe_ix (ix_listK (K := K)) (pv 1) (pv 5) (fun _ _ => rfl)))) (pa_cons (pv 2) (pa_cons (pv 3) pa_nil)))))) (pss_one (ps_ret (pv 4))) pss_nil)))
      (pss_one (ps_ret pe_non))), ?_⟩
    obtain ⟨n, l, ps, ws, rfl, as, l8, k⟩ := h
    have ok := as.2.1
    obtain ⟨ql, vl, rfl, hql, hvl⟩ := as.1
    obtain ⟨qp, vp, rfl, _⟩ := as.2.2.1
    obtain ⟨qw, vw, rfl, _⟩ := as.2.2.2.1
    have hll := hvl.len
    refine ⟨_, rfl, _, _, rfl, .inl (.inl (.inl hql)), _, rfl, l.length, by rw [hll], l8, fun pa va H3 fa s3 hpa hta => ⟨_, rfl, ⟨_, .inl (.inl hpa)⟩, ?_⟩⟩
    refine for_list (xs := va) (fun i σ H' => ∃ u4 u5, σ = [some (.int n), some (.ref ql), some (.ref qp), some (.ref qw), u4, u5] ∧ Same H3 H' ∧ ∀ (j : Nat) (r' : List Nat), j < i → (alls l.length)[j]? = some r' → run (List.range n) (tbl (pickS l r') ps ws) = false) ⟨_, _, rfl, (fun _ _ h => h), fun j r' hj => absurd hj (by omega)⟩ (fun i σ H' _ ⟨_, _, _, s, _⟩ => .inl (.inl (s _ _ hpa))) ?_ ?_
    · rintro i x σ H4 hx ⟨u4, u5, rfl, s4, hn⟩
      obtain ⟨r, hri, q, rfl, hq⟩ := (hta.keep (Keeps.of s4)).2 i x hx
      obtain ⟨rn, rb⟩ := alls_mem (List.mem_of_getElem? hri)
      have rl := nodup_len _ r rn rb
      have s34 := Same.trans s3 s4
      refine ⟨_, rfl, _, rfl, _, rfl, ⟨_, hq⟩, fun D fD => ?_⟩
      refine lcm_tup (xs := natsV r) (fun _ H' => Same H4 H') (fun k y H => ∃ t, (pickS l r)[k]? = some t ∧ IsS H y t) (by rw [natsV_len]; exact Nat.lt_of_lt_of_le (show r.length < 9 by omega) (by decide)) (fun _ _ _ _ s ⟨t, a, b⟩ => ⟨t, a, b.keep s⟩) (Same.new fD) (fun _ _ _ s => SqT.keep (Keeps.of s) hq) (fun _ _ _ _ s _ => Same.mut s fD) ?_ ?_
      · rintro j x H5 acc hx s5 hD hl C hC
        obtain ⟨ri, hri2, rfl⟩ := natsV_at hx
        have hlt := rb ri (List.mem_of_getElem? hri2)
        have hv := List.getElem?_eq_getElem (l := vl) (by rw [hll]; exact hlt)
        obtain ⟨t, ht, hS⟩ := hvl.2 ri _ hv
        exact ⟨rfl, _, rfl, _, rfl, _, _, _, _, rfl, rfl, .inl (.inl (s5 _ _ (s34 _ _ hql))), (atI_nat hv), hC _ _ hD Keeps.rfl' s5 ⟨t, by rw [pickS_at rb hri2]; exact ht, hS.keep (Keeps.of (Same.trans s34 s5))⟩⟩
      · rintro H5 acc s5 hD hl hR
        rw [natsV_len] at hl
        have as5 := as.up (Same.trans s34 s5)
        refine ⟨_, rfl, _, rfl, _, _, _, _, rfl, n, pickS l r, ps, ws, rfl, ⟨⟨D, acc, rfl, hD, by rw [hl, pickS_len rb], hR⟩, pickS_ok ok rb (by omega), as5.2.2.1, as5.2.2.2.1, as5.2.2.2.2⟩, fun H6 s6 => ⟨_, rfl, ite2 (fun hc => ⟨_, rfl, k (.ref q) H6 (Same.trans s34 (Same.trans s5 s6)) (.inr ⟨r, find_at hri hc hn, q, rfl, SqT.keep (Keeps.of (Same.trans s5 s6)) hq⟩)⟩) (fun hc => ⟨_, _, rfl, Same.trans s4 (Same.trans s5 s6), fun j r' hj e => ?_⟩)⟩⟩
        by_cases hji : j = i
        · subst hji
          rw [hri] at e
          cases e
          exact Bool.eq_false_iff.mpr hc
        · exact hn j r' (by omega) e
    · rintro σ H4 ⟨u4, u5, rfl, s4, hn⟩
      refine k .non H4 (Same.trans s3 s4) (.inl ⟨find_no fun j r' e => hn j r' ?_ e, rfl⟩)
      rw [hta.1]
      exact (List.getElem?_eq_some_iff.mp e).1
  · obtain ⟨u1, u2, u3, u4, rfl⟩ := four4 hl
    rfl
theorem sc_law_needed_due : FnScope ["_law_wares", "_law_stalls", "_law_purse", "_law_wish", "_law_found", "_law_at"] ["_law_wares", "_law_stalls", "_law_purse", "_law_wish"] (defScope s_law_needed_due) := ⟨rfl, rfl, rfl, by decide +kernel, rfl, by decide +kernel, by decide +kernel⟩
theorem ok_law_needed_due (T : Txt K mg) (D_law_is_met : Dfn P w K mg base CX0 5 "_law_is_met" ["_law_wares", "_law_stalls", "_law_purse", "_law_wish"] (sp4 sp_law_is_met)) : Dfn P w K mg base CX0 6 "_law_needed_due" ["_law_wares", "_law_stalls", "_law_purse", "_law_wish"] (sp4 (sp_law_needed_due K)) := by
  obtain ⟨fd, F⟩ := T.f_law_needed_due
  refine ⟨T.g_law_needed_due, F.kp, fd, fnok_of F sc_law_needed_due (fun vs H Q E h => ?_) (fun vs H Q E h => ?_), F.binds (ps := ["_law_wares", "_law_stalls", "_law_purse", "_law_wish"]) fun _ _ _ _ _ _ us hl => ?_⟩
  · obtain ⟨a1, a2, a3, a4, rfl, _⟩ := h
    rfl
  · obtain ⟨a1, a2, a3, a4, rfl, h⟩ := h
    intro cdv A outer s hr
    refine ⟨_, (pss_cons (ps_if (pt_not (pt_val (pe_callD D_law_is_met hr (pa_cons (pv 0) (pa_cons (pv 1) (pa_cons (pv 2) (pa_cons (pv 3) pa_nil))))))) (pss_one (ps_ret pe_non)) pss_nil)
      (pss_cons (ps_set (i := 4) sc_law_needed_due.nd rfl (Or.inl rfl) (pe_lst pa_nil))
      (pss_cons (ps_for PassesOwn.never rfl (pi_range1 rfl T.b_range (pa_cons (pe_callB call_len_seq (by rfl) T.b_len (by decide +kernel) (pa_cons (pv 1) pa_nil)) pa_nil)) (pg_name (i := 5) sc_law_needed_due.nd rfl (Or.inl rfl)) (pss_one (ps_if (pt_not (pt_val (pe_callD D_law_is_met hr (pa_cons (pv 0) (pa_cons (pe_op op_cat (pe_slice sl_list (pv 1) po_none (po_some (pv 5))) (pe_slice sl_list (pv 1) (po_some (pe_op op_add (pv 5) pe_int)) po_none)) (pa_cons (pv 2) (pa_cons (pv 3) pa_nil))))))) (pss_one (ps_expr (pe_bm PySem.F.plainAttrs_list PySem.F.slot_list_append PySem.F.type_list_append mt_append (pv 4) (pa_cons (pv 5) pa_nil)))) pss_nil)))
      (pss_one (ps_ret (pe_callTy call_tuple_of (by rfl) T.b_tuple (by decide +kernel) (pa_cons (pv 4) pa_nil))))))), ?_⟩
    obtain ⟨n, l, ps, ws, rfl, as, k⟩ := h
    have ok := as.2.1
    have l16 := ok.l16
    obtain ⟨ql, vl, rfl, hql, hvl⟩ := as.1
    obtain ⟨qp, vp, rfl, _⟩ := as.2.2.1
    obtain ⟨qw, vw, rfl, _⟩ := as.2.2.2.1
    have hll := hvl.len
    refine ⟨_, rfl, _, rfl, _, rfl, _, rfl, _, _, _, _, rfl, n, l, ps, ws, rfl, as, fun H1 s1 => ⟨_, rfl, ite2 (fun hr => ?_) (fun hr => ?_)⟩⟩
    · exact k .non H1 s1 (.inl ⟨by unfold needOf; rw [if_neg (by simpa using hr)], rfl⟩)
    · have hr : run (List.range n) (tbl l ps ws) = true := by simpa using hr
      refine ⟨(by decide), fun fp ffp => ?_⟩
      have s2 := Same.new (o := .lst []) ffp
      refine ⟨_, rfl, _, _, rfl, .inl (.inl (.inl (s2 _ _ (s1 _ _ hql)))), _, rfl, by omega, by omega, ?_⟩
      rw [show ((vl.length : Int)).toNat = l.length by rw [hll]; omega]
      refine for_range (n := l.length) (fun i σ H' => ∃ u5, σ = [some (.int n), some (.ref ql), some (.ref qp), some (.ref qw), some (.ref fp), u5] ∧ Same H1 H' ∧ H' fp = some (.lst (natsV ((List.range i).filter fun i => !run (List.range n) (tbl (pickS l (but l.length i)) ps ws))))) ⟨_, rfl, s2, upd_same⟩ ?_ ?_
      · rintro i σ H3 hi ⟨u5, rfl, s3, hf3⟩
        rw [Int.zero_add]
        have s13 := Same.trans s1 s3
        have hql3 := s13 _ _ hql
        refine ⟨_, rfl, _, rfl, _, rfl, _, rfl, _, _, rfl, .inl (.inl hql3), fun p1 f1 => ?_⟩
        have s4 := Same.new (o := .lst (cutV vl none (some (i : Int)))) f1
        refine ⟨_, rfl, _, rfl, _, _, rfl, rfl, _, rfl, _, _, rfl, .inl (.inl (s4 _ _ hql3)), fun p2 f2 => ?_⟩
        have s5 := Same.new (o := .lst (cutV vl (some ((i : Int) + 1)) none)) f2
        refine ⟨p1, p2, _, _, rfl, rfl, s5 _ _ upd_same, upd_same, ?_, fun p3 f3 => ?_⟩
        · have h1 := cutV_length vl none (some (i : Int))
          have h2 := cutV_length vl (some ((i : Int) + 1)) none
          exact Nat.le_trans (show _ ≤ 64 by omega) (by decide)
        · rw [show (i : Int) + 1 = ((i + 1 : Nat) : Int) by omega, cutV_take, cutV_drop]
          rw [cutV_take] at s4
          rw [show (i : Int) + 1 = ((i + 1 : Nat) : Int) by omega, cutV_take, cutV_drop] at s5 f3
          have s6 := Same.new (o := .lst (vl.take i ++ vl.drop (i + 1))) f3
          have s36 := Same.trans s4 (Same.trans s5 s6)
          have as6 := as.up (Same.trans s13 s36)
          have hb : ∀ x ∈ but l.length i, x < l.length := fun x hx => List.mem_range.mp (List.mem_filter.mp hx).1
          have hbl : (but l.length i).length ≤ 16 := by
            have := List.length_filter_le (fun j => decide (j ≠ i)) (List.range l.length)
            rw [List.length_range] at this
            exact Nat.le_trans this l16
          refine ⟨_, rfl, _, rfl, _, _, _, _, rfl, n, pickS l (but l.length i), ps, ws, rfl, ⟨⟨p3, _, rfl, upd_same, ?_⟩, pickS_ok ok hb hbl, as6.2.2.1, as6.2.2.2.1, as6.2.2.2.2⟩, fun H7 s7 => ⟨_, rfl, ?_⟩⟩
          · rw [pickS_but hi]
            exact (hvl.take_drop hi).keep (Keeps.of (Same.trans s13 s36))
          · have s37 := Same.trans s36 s7
            have hf7 := s37 _ _ hf3
            have ef := range_filter_snoc (fun i => !run (List.range n) (tbl (pickS l (but l.length i)) ps ws)) i
            refine ite2 (fun hc => ⟨_, rfl, .inl ⟨rfl, _, .inl (.inl hf7)⟩, _, rfl, fp, _, _, rfl, rfl, hf7, ?_, _, rfl, Same.mut (Same.trans s3 s37) ffp, ?_⟩) (fun hc => ⟨_, rfl, Same.trans s3 s37, ?_⟩)
            · rw [natsV_len]
              have := List.length_filter_le (fun i => !run (List.range n) (tbl (pickS l (but l.length i)) ps ws)) (List.range i)
              rw [List.length_range] at this
              exact Nat.lt_of_lt_of_le (show _ < 17 by omega) (by decide)
            · rw [upd_same, ef, if_pos hc, natsV_snoc]
            · rw [ef, if_neg hc, List.append_nil]
              exact hf7
      · rintro σ H3 ⟨u5, rfl, s3, hf3⟩
        refine ⟨_, rfl, _, _, rfl, .inl ⟨.inl (.inl hf3), fun q fq => k (.ref q) _ (Same.trans s1 (Same.trans s3 (Same.new fq))) (.inr ⟨_, ?_, q, rfl, .inl (.inl upd_same)⟩)⟩⟩
        unfold needOf
        rw [if_pos hr]
  · obtain ⟨u1, u2, u3, u4, rfl⟩ := four4 hl
    rfl
end
end R25

set_option Elab.async false
set_option linter.all false
set_option maxRecDepth 100000
set_option maxHeartbeats 4000000
namespace R25
open PySem PySem.Spec PyProof.Rows L2
theorem hu65 {k : Nat} {A : Around} (r : Room k A) : A.units + 65 < cLine := by have := r.un; omega
theorem op_in_seqK {X : Cx} {K : PySem.W.Frag} (hK : X.K = K := by rfl) : OpR X (compareOp .In) (rIn K false) := by
  subst hK
  exact op_in_seq
/-! ### stalls and tuples as data -/
def fD (q : Rat) : PyData := .tuple [.int q.num, .int q.den]
def stD (t : Stl) : PyData := .tuple [.int t.i, .int t.j, fD t.a, fD t.b, fD t.r]
theorem IsF.dp {K : PySem.W.Frag} {H : Hp} {v : V} {q : Rat} (h : IsF H v q) : Dp K H v (fD q) := by
  obtain ⟨p, rfl, hp⟩ := h
  exact .tup (.inl (.inl hp)) (.cons (.int _) (.cons (.int _) .nil))
theorem IsS.dp {K : PySem.W.Frag} {H : Hp} {v : V} {t : Stl} (h : IsS H v t) : Dp K H v (stD t) := by
  obtain ⟨p, x, y, z, rfl, hp, hx, hy, hz⟩ := h
  exact .tup (.inl (.inl hp)) (.cons (.int _) (.cons (.int _) (.cons hx.dp (.cons hy.dp (.cons hz.dp .nil)))))
theorem ItS.dp {K : PySem.W.Frag} {H : Hp} : ∀ {vs : List V} {l : List Stl}, ItS H vs l → DpAll K H vs (l.map stD)
  | [], [], _ => .nil
  | [], _ :: _, h => by have := h.1; cases this
  | _ :: _, [], h => by have := h.1; cases this
  | v :: vs, t :: l, h => by
    obtain ⟨t', e, f⟩ := h.2 0 v rfl
    cases e
    exact .cons f.dp (ItS.dp ⟨by simpa using h.1, fun k y e => h.2 (k + 1) y (by simpa using e)⟩)
theorem stD_lay (t : Stl) : (stD t).canLay0 = true := by simp [stD, fD, PyData.canLay0, PyData.canLayAll0]
theorem stD_depth (t : Stl) : (stD t).depth ≤ 3 := by simp [stD, fD, PyData.depth, PyData.depthAll]
theorem stDs_lay : ∀ l : List Stl, PyData.canLayAll0 (l.map stD) = true
  | [] => by simp [PyData.canLayAll0]
  | t :: l => by simp [PyData.canLayAll0, stD_lay t, stDs_lay l]
theorem stDs_depth : ∀ l : List Stl, PyData.depthAll (l.map stD) ≤ 3
  | [] => by simp [PyData.depthAll]
  | t :: l => by
    have h1 := stDs_depth l
    have h2 := stD_depth t
    simp only [List.map_cons, PyData.depthAll]
    omega
theorem stD_shaped (t : Stl) : SeqAt.shaped (stD t) = true := by
  have h := stD_depth t
  unfold SeqAt.shaped
  rw [Bool.and_eq_true]
  exact ⟨stD_lay t, decide_eq_true (by omega)⟩
theorem stDs_shaped (l : List Stl) : SeqAt.shaped (.list (l.map stD)) = true := by
  have h1 := stDs_depth l
  have h2 : PyData.depth (.list (l.map stD)) ≤ 64 := by
    simp only [PyData.depth]
    omega
  unfold SeqAt.shaped
  rw [Bool.and_eq_true]
  exact ⟨by simp only [PyData.canLay0]; exact stDs_lay l, decide_eq_true h2⟩
theorem stD_ij {t u : Stl} (h : PyData.eqv (stD t) (stD u) = true) : t.i = u.i ∧ t.j = u.j := by
  unfold stD at h
  simp only [PyData.eqv, PyData.eqvAll, Bool.and_eq_true] at h
  have h1 := beq_iff_eq.mp h.1
  have h2 := beq_iff_eq.mp h.2.1
  exact ⟨by omega, by omega⟩
/-- not among the inner ones: the ends tell -/
theorem inner_any {r : List Nat} {l : List Stl} {t : Stl} (ht : t ∈ l) : (((inn r l).map stD).any fun z => PyData.eqv z (stD t)) = decide (t.i ∈ r ∧ t.j ∈ r) := by
  by_cases h : t.i ∈ r ∧ t.j ∈ r
  · rw [decide_eq_true h]
    exact List.any_eq_true.mpr ⟨stD t, List.mem_map.mpr ⟨t, inn_mem.mpr ⟨ht, h⟩, rfl⟩, PySem.SeqAt.eqv_refl _ (stD_lay t)⟩
  · rw [decide_eq_false h]
    refine Bool.eq_false_iff.mpr fun e => h ?_
    obtain ⟨z, hz, e⟩ := List.any_eq_true.mp e
    obtain ⟨u, hu, rfl⟩ := List.mem_map.mp hz
    obtain ⟨a, b⟩ := stD_ij e
    rw [← a, ← b]
    exact (inn_mem.mp hu).2
theorem dp_nats {K : PySem.W.Frag} {H : Hp} : ∀ r : List Nat, DpAll K H (natsV r) (r.map fun (i : Nat) => PyData.int (i : Int))
  | [] => .nil
  | i :: r => .cons (.int _) (dp_nats r)
theorem lay_nats : ∀ r : List Nat, PyData.canLayAll0 (r.map fun (i : Nat) => PyData.int (i : Int)) = true
  | [] => by simp [PyData.canLayAll0]
  | i :: r => by simp [PyData.canLayAll0, PyData.canLay0, lay_nats r]
theorem depth_nats : ∀ r : List Nat, PyData.depthAll (r.map fun (i : Nat) => PyData.int (i : Int)) ≤ 1
  | [] => by simp [PyData.depthAll]
  | i :: r => by
    have h1 := depth_nats r
    simp only [List.map_cons, PyData.depthAll, PyData.depth]
    omega
theorem shaped_nats (r : List Nat) : SeqAt.shaped (.tuple (r.map fun (i : Nat) => PyData.int (i : Int))) = true := by
  have h1 := depth_nats r
  have h2 : PyData.depth (.tuple (r.map fun (i : Nat) => PyData.int (i : Int))) ≤ 64 := by
    simp only [PyData.depth]
    omega
  unfold SeqAt.shaped
  rw [Bool.and_eq_true]
  exact ⟨by simp only [PyData.canLay0]; exact lay_nats r, decide_eq_true h2⟩
theorem eqv_nats (r : List Nat) : PyData.eqv (.tuple (r.map fun (i : Nat) => PyData.int (i : Int))) (.tuple (r.map fun (i : Nat) => PyData.int (i : Int))) = true := PySem.SeqAt.eqv_refl _ (SeqAt.canLay_of_shaped (shaped_nats r))
theorem tyx_tup {K : PySem.W.Frag} {H : Hp} {a : Addr} {xs : List V} (h : SqT K H a xs) : TyX K H (.ref a) (.type "tuple") := by
  rcases h with (h | ⟨o, h⟩) | ⟨o, _, _, h, c, _⟩
  · exact .base (.tup h)
  · exact .fTuple h
  · exact .kTuple h c
theorem flat_nats (r : List Nat) : (natsV r).all flatV = true := by
  unfold natsV
  rw [List.all_map]
  exact List.all_eq_true.mpr fun x _ => rfl
theorem inV_nats (i : Nat) (r : List Nat) : inV (.int (i : Int)) (natsV r) = decide (i ∈ r) := by
  unfold inV natsV
  rw [List.any_map]
  by_cases h : i ∈ r
  · rw [decide_eq_true h]
    refine List.any_eq_true.mpr ⟨i, h, ?_⟩
    simp [eqV]
  · rw [decide_eq_false h]
    refine Bool.eq_false_iff.mpr fun e => h ?_
    obtain ⟨x, hx, e⟩ := List.any_eq_true.mp e
    have : x = i := by
      simp [eqV] at e
      omega
    exact this ▸ hx
theorem subs_order : ∀ (n : Nat) (r : List Nat), r ∈ subs n → (List.range n).filter (fun x => decide (x ∈ r)) = r
  | 0, r, h => by
    rw [subs, List.mem_singleton] at h
    subst h
    rfl
  | n + 1, r, h => by
    rw [range_filter_snoc]
    rw [subs, List.mem_append] at h
    rcases h with h | h
    · have hn : n ∉ r := fun e => by
        have := (subs_mem n r h).2 n e
        omega
      rw [if_neg (by simp [hn]), List.append_nil, subs_order n r h]
    · obtain ⟨r', h', rfl⟩ := List.mem_map.mp h
      rw [if_pos (by simp)]
      congr 1
      refine Eq.trans (List.filter_congr fun a ha => ?_) (subs_order n r' h')
      have := List.mem_range.mp ha
      have hne : a ≠ n := by omega
      simp [hne]
theorem least_some {n : Nat} {m : Tb} {r : List Nat} (h : leastOf n m = some r) : r.Nodup ∧ (∀ x ∈ r, x < n) ∧ (List.range n).filter (fun x => decide (x ∈ r)) = r ∧ run r m = false := by
  unfold leastOf at h
  split at h
  · cases h
  · have hm := List.mem_of_find?_eq_some h
    have hp := List.find?_some h
    have hs : r ∈ subs n := (List.mergeSort_perm _ _).mem_iff.mp hm
    exact ⟨(subs_mem n r hs).1, (subs_mem n r hs).2, subs_order n r hs, by simpa using hp⟩
theorem inn_ok {n : Nat} {l : List Stl} {r : List Nat} (o : OkW n l) : OkW n (inn r l) := ⟨o.n1, o.n8, Nat.le_trans (List.length_filter_le _ _) o.l16, fun t ht => o.ok t (inn_mem.mp ht).1⟩
theorem more_amt {n : Nat} {l : List Stl} {r : List Nat} {ps : Nat → Rat} (o : OkW n l) (h : Am ps) : Amt (moreB r l ps) := fun k =>
  ⟨((h k).1.add (ext_bd o.ok k)).mono (Nat.le_trans (Nat.add_le_add_left (Nat.mul_le_mul_right _ o.l16) _) (by decide)), Rat.add_nonneg (h k).2 (ext_nn o.ok k)⟩
theorem later_amt {r : List Nat} {ws : Nat → Rat} (h : Am ws) : Amt (laterB r ws) := fun k => by
  show Bd D0 _ (if k ∈ r then ws k else 0) ∧ 0 ≤ (if k ∈ r then ws k else 0)
  split
  · exact h.amt k
  · exact ⟨Bd.zero, Rat.le_refl⟩
theorem all_blF {acc : List V} (h : ∀ (k : Nat) (y : V), acc[k]? = some y → y = V.bl false) : acc = (List.replicate acc.length false).map V.bl := by
  apply List.ext_getElem?
  intro k
  by_cases hk : k < acc.length
  · rw [List.getElem?_map, List.getElem?_replicate, if_pos hk]
    have e := List.getElem?_eq_getElem hk
    rw [e, h k _ e]
    rfl
  · rw [List.getElem?_eq_none (by omega), List.getElem?_eq_none (by simp; omega)]
theorem Ans.of {K : PySem.W.Frag} {H : Hp} {Q : VK} {o : Option (List Nat)} (h : ∀ v H', Same H H' → AnsV K H' v o → Q v H') : Ans K H Q o := fun H' s => ⟨fun e => h .non H' s (.inl ⟨e, rfl⟩), fun r v e ht => h v H' s (.inr ⟨r, e, ht⟩)⟩
theorem AnsV.non {K : PySem.W.Frag} {H : Hp} {v : V} {o : Option (List Nat)} (h : AnsV K H v o) : decide (v = .non) = o.isNone := by
  rcases h with ⟨rfl, rfl⟩ | ⟨r, rfl, q, rfl, _⟩
  · exact decide_eq_true rfl
  · exact decide_eq_false (by rintro ⟨⟩)
theorem least_none (n : Nat) (m : Tb) (h : run (List.range n) m = false) (hn : n ≤ 8) : (leastOf n m).isNone = false := by
  have hm : List.range n ∈ alls n := by
    refine (List.mergeSort_perm _ _).mem_iff.mpr ?_
    have : ∀ n, List.range n ∈ subs n := fun n => by
      induction n with
      | zero => exact List.mem_singleton.mpr rfl
      | succ n ih =>
        rw [subs, List.range_succ]
        exact List.mem_append.mpr (.inr (List.mem_map.mpr ⟨_, ih, rfl⟩))
    exact this n
  unfold leastOf
  rw [if_neg (by rw [h]; decide)]
  cases e : (alls n).find? fun r => !run r m with
  | some r => rfl
  | none =>
    rw [List.find?_eq_none] at e
    have := e _ hm
    rw [h] at this
    exact absurd rfl this
theorem least_len {n : Nat} {m : Tb} {r : List Nat} (h : leastOf n m = some r) (hn : n ≤ 8) : r.length ≤ 64 := by
  obtain ⟨a, b, _⟩ := least_some h
  have := nodup_len n r a b
  omega
theorem few_len {n : Nat} {l : List Stl} {ps ws : Nat → Rat} {r : List Nat} (h : fewOf n l ps ws = some r) (hn : l.length ≤ 8) : r.length ≤ 64 := by
  obtain ⟨a, b⟩ := alls_mem (List.mem_of_find?_eq_some h)
  have := nodup_len _ r a b
  omega
theorem need_len {n : Nat} {l : List Stl} {ps ws : Nat → Rat} {r : List Nat} (h : needOf n l ps ws = some r) (hn : l.length ≤ 16) : r.length ≤ 64 := by
  unfold needOf at h
  split at h
  · cases h
    have := List.length_filter_le (fun i => !run (List.range n) (tbl (pickS l (but l.length i)) ps ws)) (List.range l.length)
    rw [List.length_range] at this
    omega
  · cases h
theorem inn_snoc {r : List Nat} {l : List Stl} {t : Stl} : inn r (l ++ [t]) = inn r l ++ if t.i ∈ r ∧ t.j ∈ r then [t] else [] := by
  unfold inn
  rw [List.filter_append]
  congr 1
  by_cases h : t.i ∈ r ∧ t.j ∈ r <;> simp [h]
theorem ItF.congr {H : Hp} {vs : List V} {f g : Nat → Rat} {n : Nat} (h : ItF H vs f) (hl : vs.length = n) (e : ∀ k, k < n → f k = g k) : ItF H vs g := fun k y hy => e k (by rw [← hl]; exact (List.getElem?_eq_some_iff.mp hy).1) ▸ h k y hy
section
variable (K : PySem.W.Frag)
def sp_law_is_told : F2 := fun a b H Q _ => ∃ o, AnsV K H a o ∧ AnsV K H b o ∧ (∀ r, o = some r → r.length ≤ 64) ∧ ∀ H', Same H H' → Q (.bl true) H'
def sp_law_is_barred : F5 := fun a b c d e H Q _ => ∃ (n : Nat) (l : List Stl) (ps ws : Nat → Rat) (r : List Nat), a = .int (n : Int) ∧ Asks H b c d n l ps ws ∧ Am ps ∧ Am ws ∧ IsT K H e r ∧ leastOf n (tbl l ps ws) = some r ∧ ∀ H', Same H H' → Q (.bl true) H'
def sp_law_is_well : F4 := fun a b c d H Q _ => ∃ (n : Nat) (l : List Stl) (ps ws : Nat → Rat), WebAt K H a n l ∧ Asks H b c d n l ps ws ∧ Am ps ∧ Am ws ∧ ∀ H', Same H H' → Q (.bl true) H'
end
end R25

set_option Elab.async false
set_option linter.all false
set_option maxRecDepth 100000
set_option maxHeartbeats 4000000
namespace R25
open PySem PySem.Spec PyProof.Rows L2
section
variable {P : Program} {w : World} {K : PySem.W.Frag} {mg : Str → Option Value} {base : Heap}
theorem sc_law_is_told : FnScope ["_law_found", "_law_due", "_law_at"] ["_law_found", "_law_due"] (defScope s_law_is_told) := ⟨rfl, rfl, rfl, by decide +kernel, rfl, by decide +kernel, by decide +kernel⟩
theorem ok_law_is_told (T : Txt K mg)  : Dfn P w K mg base CX0 1 "_law_is_told" ["_law_found", "_law_due"] (sp2 (sp_law_is_told K)) := by
  obtain ⟨fd, F⟩ := T.f_law_is_told
  refine ⟨T.g_law_is_told, F.kp, fd, fnok_of F sc_law_is_told (fun vs H Q E h => ?_) (fun vs H Q E h => ?_), F.binds (ps := ["_law_found", "_law_due"]) fun _ _ _ _ _ _ us hl => ?_⟩
  · obtain ⟨a1, a2, rfl, _⟩ := h
    rfl
  · obtain ⟨a1, a2, rfl, h⟩ := h
    intro cdv A outer s hr
    refine ⟨_, (pss_cons (ps_if (pt_cmpR op_isN (pv 1) pe_non (nomark _)) (pss_one (ps_ret (pe_cmpR op_isN (pv 0) pe_non (nomark _)))) pss_nil)
      (pss_one (ps_ret (pe_and (pe_callB call_isi (by rfl) T.b_isinstance (by decide +kernel) (pa_cons (pv 0) (pa_cons (pe_bltn (v := .ty "tuple") rfl T.b_tuple (by decide +kernel) rfl) pa_nil))) (pe_and (pe_cmpR (op_eqD hr.units) (pv 0) (pv 1) (nomark _)) (pe_one (pe_not (pe_callB (cr_any rfl) (by rfl) T.b_any (by decide +kernel) (pa_cons (pe_lc (own := [("_law_at", 2)]) (g := gName 2) rfl sc_law_is_told.nd (pi_tup (pv 0)) (blkOk_by (N := ["_law_found", "_law_due", "_law_at"]) (sc := defScope s_law_is_told) (by decide +kernel)) (fun _ _ _ _ _ => (pg_name (i := 2) sc_law_is_told.nd rfl (Or.inl rfl))) (fun _ _ _ _ _ => pts_nil) (fun _ _ _ _ _ => (pe_callB (call_isiA (K := K)) (by rfl) T.b_isinstance (by decide +kernel) (pa_cons (pv 2) (pa_cons (pe_bltn (v := .ty "bool") rfl T.b_bool (by decide +kernel) rfl) pa_nil))))) pa_nil))))))))), ?_⟩
    obtain ⟨o, ha, hb, hlen, k⟩ := h
    rcases ha with ⟨rfl, rfl⟩ | ⟨r, rfl, qa, rfl, ha⟩
    · rcases hb with ⟨_, rfl⟩ | ⟨r, e, _⟩
      · exact ⟨_, rfl, rfl, _, rfl, iteT ⟨_, rfl, rfl, qbl (decide_eq_true rfl) (k H fun _ _ h => h)⟩⟩
      · cases e
    · rcases hb with ⟨e, _⟩ | ⟨r', e, qb, rfl, hb⟩
      · cases e
      · cases e
        have hl := hlen r rfl
        refine ⟨_, rfl, rfl, _, rfl, iteN rfl ⟨_, rfl, _, _, _, _, true, rfl, .ty "tuple", tyx_tup ha, kit_ty (by decide +kernel), _, rfl, iteT ⟨_, rfl, _, rfl, _, _, .tup ha (dp_nats r), .tup hb (dp_nats r), shaped_nats r, shaped_nats r, _, rfl, iteP (eqv_nats r) ⟨_, rfl, _, rfl, ⟨_, ha⟩, fun D fD => ?_⟩⟩⟩⟩
        refine lcm_tup (xs := natsV r) (fun _ H' => Same H H') (fun _ y _ => y = .bl false) (by rw [natsV_len]; exact Nat.lt_of_lt_of_le (show r.length < 65 by omega) (by decide)) (fun _ _ _ _ _ h => h) (Same.new fD) (fun _ _ _ s => SqT.keep (Keeps.of s) ha) (fun _ _ _ _ s _ => Same.mut s fD) ?_ ?_
        · rintro i x H2 acc hx s2 hD hl C hC
          obtain ⟨u, hu, rfl⟩ := natsV_at hx
          exact ⟨rfl, _, rfl, _, _, _, _, false, rfl, .ty "bool", .base (.int _), kit_ty (by decide +kernel), hC _ _ hD Keeps.rfl' s2 rfl⟩
        · rintro H2 acc s2 hD hl hR
          refine ⟨D, List.replicate acc.length false, rfl, by rw [← all_blF hR]; exact .inl (.inl hD), _, rfl, qbl (by simp) (k H2 s2)⟩
  · obtain ⟨u1, u2, rfl⟩ := two2 hl
    rfl
theorem sc_law_is_barred : FnScope ["_law_wares", "_law_stalls", "_law_purse", "_law_wish", "_law_some_here", "_law_stall_here", "_law_inner", "_law_later", "_law_more", "_law_side", "_law_ware", "_law_pair"] ["_law_wares", "_law_stalls", "_law_purse", "_law_wish", "_law_some_here"] (defScope s_law_is_barred) := ⟨rfl, rfl, rfl, by decide +kernel, rfl, by decide +kernel, by decide +kernel⟩
theorem ok_law_is_barred (T : Txt K mg) (D_law_added : Dfn P w K mg base CX0 3 "_law_added" ["_law_one", "_law_other"] (sp2 sp_law_added)) (D_scales : Dfn P w K mg base CX0 9 "scales" ["web", "purse", "wish"] (sp3 (sp_scales K))) (K_Web : Mkd P w K mg base CX0 6 "Web" ["self", "wares", "stalls"] (sp3 (sp_Web_init K))) : Dfn P w K mg base CX0 10 "_law_is_barred" ["_law_wares", "_law_stalls", "_law_purse", "_law_wish", "_law_some_here"] (sp5 (sp_law_is_barred K)) := by
  obtain ⟨fd, F⟩ := T.f_law_is_barred
  refine ⟨T.g_law_is_barred, F.kp, fd, fnok_of F sc_law_is_barred (fun vs H Q E h => ?_) (fun vs H Q E h => ?_), F.binds (ps := ["_law_wares", "_law_stalls", "_law_purse", "_law_wish", "_law_some_here"]) fun _ _ _ _ _ _ us hl => ?_⟩
  · obtain ⟨a1, a2, a3, a4, a5, rfl, _⟩ := h
    rfl
  · obtain ⟨a1, a2, a3, a4, a5, rfl, h⟩ := h
    intro cdv A outer s hr
    refine ⟨_, (pss_cons (ps_setLc (i := 6) (own := [("_law_stall_here", 5)]) (g := gName 5) rfl sc_law_is_barred.nd rfl rfl (sw_true rfl rfl rfl (by decide +kernel)) (pi_list (pv 1)) (blkOk_by (N := ["_law_wares", "_law_stalls", "_law_purse", "_law_wish", "_law_some_here", "_law_stall_here", "_law_inner", "_law_later", "_law_more", "_law_side", "_law_ware", "_law_pair"]) (sc := defScope s_law_is_barred) (by decide +kernel)) (fun _ _ _ _ _ => (pg_name (i := 5) sc_law_is_barred.nd rfl (Or.inl rfl))) (fun _ _ _ _ _ => (pts_one (PW.pt (pw_and (pt_cmpR (op_in_seqK (K := K)) (pe_ix (ix_tupK (K := K)) (pv 5) pe_int (fun _ _ => rfl)) (pv 4) (by rfl)) (pw_and1 (pt_cmpR (op_in_seqK (K := K)) (pe_ix (ix_tupK (K := K)) (pv 5) pe_int (fun _ _ => rfl)) (pv 4) (by rfl))))))) (fun _ _ _ _ _ => (pv 5)))
      (pss_cons (ps_set (i := 7) sc_law_is_barred.nd rfl (Or.inl rfl) (pe_callTy call_list_of (by rfl) T.b_list (by decide +kernel) (pa_cons (pv 3) pa_nil)))
      (pss_cons (ps_set (i := 8) sc_law_is_barred.nd rfl (Or.inl rfl) (pe_callTy call_list_of (by rfl) T.b_list (by decide +kernel) (pa_cons (pv 2) pa_nil)))
      (pss_cons (ps_for PassesOwn.never rfl (pi_list (pv 1)) (pg_name (i := 5) sc_law_is_barred.nd rfl (Or.inl rfl)) (pss_one (ps_for PassesOwn.never rfl (pi_range1 rfl T.b_range (pa_cons pe_int pa_nil)) (pg_name (i := 9) sc_law_is_barred.nd rfl (Or.inl rfl)) (pss_one (ps_if (PW.pt (pw_and (pt_cmpR (op_notInD (hu65 hr)) (pv 5) (pv 6) (by rfl)) (pw_and1 (pt_cmpR op_in_seq (pe_ix ix_tup (pv 5) (pv 9) (fun _ _ => rfl)) (pv 4) (by rfl))))) (pss_one (ps_asg (pe_callD D_law_added hr (pa_cons (pe_ix ix_list (pv 8) (pe_ix ix_tup (pv 5) (pv 9) (fun _ _ => rfl)) (fun _ _ => rfl)) (pa_cons (pe_ix ix_tup (pv 5) (pe_op op_add pe_int (pv 9)) (fun _ _ => rfl)) pa_nil))) (pg_sub (pv 8) (pe_ix ix_tup (pv 5) (pv 9) (fun _ _ => rfl)) set_list))) pss_nil)))))
      (pss_cons (ps_for PassesOwn.never rfl (pi_range1 rfl T.b_range (pa_cons (pv 0) pa_nil)) (pg_name (i := 10) sc_law_is_barred.nd rfl (Or.inl rfl)) (pss_one (ps_if (pt_cmpR op_notIn_seq (pv 10) (pv 4) (by rfl)) (pss_one (ps_asg (pe_tup (pa_cons pe_int (pa_cons pe_int pa_nil))) (pg_sub (pv 7) (pv 10) set_list))) pss_nil)))
      (pss_cons (ps_if (pt_cmpR op_ge (pe_callB (cr_max rfl) (by rfl) T.b_max (by decide +kernel) (pa_cons (pe_lc (own := [("_law_pair", 11)]) (g := gName 11) rfl sc_law_is_barred.nd (pi_list (pv 8)) (blkOk_by (N := ["_law_wares", "_law_stalls", "_law_purse", "_law_wish", "_law_some_here", "_law_stall_here", "_law_inner", "_law_later", "_law_more", "_law_side", "_law_ware", "_law_pair"]) (sc := defScope s_law_is_barred) (by decide +kernel)) (fun _ _ _ _ _ => (pg_name (i := 11) sc_law_is_barred.nd rfl (Or.inl rfl))) (fun _ _ _ _ _ => pts_nil) (fun _ _ _ _ _ => (pe_callB (cr_maxTK (K := K) hr) (by rfl) T.b_max (by decide +kernel) (pa_cons (pv 11) pa_nil)))) pa_nil)) (pe_op op_pow pe_int pe_int) (nomark _)) (pss_one (ps_ret pe_bl)) pss_nil)
      (pss_one (ps_ret (pe_cmpR op_isN (pe_callD D_scales hr (pa_cons (pe_makeD K_Web hr (pa_cons (pv 0) (pa_cons (pv 6) pa_nil))) (pa_cons (pv 8) (pa_cons (pv 7) pa_nil)))) pe_non (nomark _)))))))))), ?_⟩
    obtain ⟨n, l, ps, ws, r, rfl, ⟨⟨ql, vl, rfl, hql, hvl⟩, ok, ⟨qp, vp, rfl, hqp, hpl, hpf⟩, ⟨qw, vw, rfl, hqw, hwl, hwf⟩, ap, aw⟩, amp, amw, ⟨q, rfl, hq⟩, hleast, k⟩ := h
    have n8 := ok.n8
    have n1 := ok.n1
    have l16 := ok.l16
    obtain ⟨rnd, rb, rord, hrun⟩ := least_some hleast
    have hnone := barred rnd rord (fun k => (amp k).2) hrun
    refine ⟨_, rfl, _, rfl, ⟨_, .inl (.inl hql)⟩, fun D fD => ?_⟩
    refine lc_list (xs := vl) (fun j H' => Same H H' ∧ ∃ acc, H' D = some (.lst acc) ∧ ItS H acc (inn r (l.take j))) ⟨Same.new fD, [], upd_same, rfl, fun k y e => by simp at e⟩ (fun j H' _ ⟨s, _⟩ => .inl (.inl (s _ _ hql))) ?_ ?_
    · rintro j x H2 hx ⟨s2, acc, hD, hI⟩
      obtain ⟨t, ht, hS⟩ := hvl.2 j x hx
      have hS2 := hS.keep (Keeps.of s2)
      obtain ⟨pt, xa, xb, xr, rfl, hpt, _⟩ := id hS2
      have hq2 := SqT.keep (Keeps.of s2) hq
      have hal : acc.length ≤ 16 := by
        rw [hI.1]
        refine Nat.le_trans (List.length_filter_le _ _) ?_
        rw [List.length_take]
        omega
      have e1 : inV (V.int (t.i : Int)) (natsV r) = decide (t.i ∈ r) := inV_nats _ _
      have e2 : inV (V.int (t.j : Int)) (natsV r) = decide (t.j ∈ r) := inV_nats _ _
      have kp := Keeps.upd (o := .lst (acc ++ [.ref pt])) hD rfl
      refine ⟨rfl, _, rfl, _, _, _, _, rfl, rfl, .inl (.inl hpt), rfl, _, rfl, _, _, rfl, .inr hq2, rfl, flat_nats r, _, rfl, ?_⟩
      by_cases h1 : t.i ∈ r
      · refine iteP (e1.trans (decide_eq_true h1)) ⟨_, rfl, _, _, _, _, rfl, rfl, .inl (.inl hpt), rfl, _, rfl, _, _, rfl, .inr hq2, rfl, flat_nats r, _, rfl, ?_⟩
        by_cases h2 : t.j ∈ r
        · refine iteP (e2.trans (decide_eq_true h2)) ⟨_, rfl, acc, hD, Nat.lt_of_lt_of_le (show acc.length < 17 by omega) (by decide), Same.mut s2 fD, _, upd_same, ?_⟩
          rw [take_snoc ht, inn_snoc, if_pos ⟨h1, h2⟩]
          exact hI.snoc hS
        · refine iteN (e2.trans (decide_eq_false h2)) ⟨s2, acc, hD, ?_⟩
          rw [take_snoc ht, inn_snoc, if_neg (fun e => h2 e.2), List.append_nil]
          exact hI
      · refine iteN (e1.trans (decide_eq_false h1)) (iteF ⟨s2, acc, hD, ?_⟩)
        rw [take_snoc ht, inn_snoc, if_neg (fun e => h1 e.1), List.append_nil]
        exact hI
    rintro H1 ⟨s1, acc, hD, hI⟩
    rw [hvl.len, List.take_length] at hI
    refine ⟨_, rfl, _, vw, rfl, .inl (.inl (.inl (s1 _ _ hqw))), fun p2 f2 => ?_⟩
    have s2 := Same.new (o := .lst vw) f2
    have s12 := Same.trans s1 s2
    refine ⟨_, rfl, _, vp, rfl, .inl (.inl (.inl (s12 _ _ hqp))), fun p3 f3a => ?_⟩
    have s3 := Same.new (o := .lst vp) f3a
    have s13 := Same.trans s12 s3
    have f3 : H p3 = none := Same.free s12 f3a
    have f2' : H p2 = none := Same.free s1 f2
    have hI3 : D ≠ p3 := fun e => by rw [← e, s2 _ _ hD] at f3a; cases f3a
    have hl3 : p2 ≠ p3 := fun e => by rw [← e, upd_same] at f3a; cases f3a
    have hI2 : D ≠ p2 := fun e => by rw [← e, hD] at f2; cases f2
    refine ⟨_, rfl, _, rfl, ⟨_, .inl (.inl (s13 _ _ hql))⟩, ?_⟩
    refine for_list (xs := vl) (fun i σ H' => ∃ u5 u9 u10 u11 lm, σ = [some (.int n), some (.ref ql), some (.ref qp), some (.ref qw), some (.ref q), u5, some (.ref D), some (.ref p2), some (.ref p3), u9, u10, u11] ∧ Same H H' ∧ H' D = some (.lst acc) ∧ H' p2 = some (.lst vw) ∧ H' p3 = some (.lst lm) ∧ lm.length = n ∧ ItF H' lm (fun k => ps k + sumL (ext r k) (l.take i)))
      ⟨_, _, _, _, vp, rfl, s13, s3 _ _ (s2 _ _ hD), s3 _ _ upd_same, upd_same, hpl, (hpf.keep (Keeps.of s13)).congr hpl fun k _ => (Rat.add_zero _).symm⟩ (fun i σ H' _ ⟨_, _, _, _, _, _, s, _⟩ => .inl (.inl (s _ _ hql))) ?_ ?_
    · rintro i x σ H3 hx ⟨u5, u9, u10, u11, lm0, rfl, s3, h3I, h3l, h3m, hlm0, hf3⟩
      obtain ⟨t, ht, hS⟩ := hvl.2 i x hx
      obtain ⟨pt, xa, xb, xr, rfl, hpt, hxa, hxb, hxr⟩ := id hS
      have htl := List.mem_of_getElem? ht
      have okt := ok.ok t htl
      have okb : ∀ k, Bd D0 (12000000 + 16 * 362880) (ps k + sumL (ext r k) (l.take i)) := fun k => ((amp k).1.add (ext_bd (fun t h => ok.ok t (List.mem_of_mem_take h)) k)).mono (Nat.add_le_add_left (Nat.mul_le_mul_right _ (by rw [List.length_take]; omega)) _)
      refine ⟨_, rfl, by decide, by decide, ?_⟩
      refine for_range (n := 2) (fun m σ H' => ∃ w9 u11' lm, σ = [some (.int n), some (.ref ql), some (.ref qp), some (.ref qw), some (.ref q), some (.ref pt), some (.ref D), some (.ref p2), some (.ref p3), w9, u10, u11'] ∧ Same H H' ∧ H' D = some (.lst acc) ∧ H' p2 = some (.lst vw) ∧ H' p3 = some (.lst lm) ∧ lm.length = n ∧
          (m = 0 ∧ ItF H' lm (fun k => ps k + sumL (ext r k) (l.take i)) ∨ m = 1 ∧ ItF H' lm (fun k => ps k + sumL (ext r k) (l.take i) + (if ¬ (t.i ∈ r ∧ t.j ∈ r) ∧ t.i ∈ r ∧ k = t.i then t.a else 0)) ∨ m = 2 ∧ ItF H' lm (fun k => ps k + sumL (ext r k) (l.take i) + (if ¬ (t.i ∈ r ∧ t.j ∈ r) ∧ t.i ∈ r ∧ k = t.i then t.a else 0) + (if ¬ (t.i ∈ r ∧ t.j ∈ r) ∧ t.j ∈ r ∧ k = t.j then t.b else 0))))
        ⟨_, _, lm0, rfl, s3, h3I, h3l, h3m, hlm0, .inl ⟨rfl, hf3⟩⟩ ?_ ?_
      · rintro m σ H4 hm ⟨w9, u11', lm, rfl, s4, h4I, h4l, h4m, hlm, hcase⟩
        have hpt4 := s4 _ _ hpt
        have hS4 := hS.keep (Keeps.of s4)
        have hI4 : ItS H4 acc (inn r l) := hI.keep (Keeps.of s4)
        have hxa4 := hxa.up s4
        have hxb4 := hxb.up s4
        rcases hcase with ⟨rfl, hf4⟩ | ⟨rfl, hf4⟩ | ⟨rfl, _⟩
        · have okk := okb
          by_cases both : t.i ∈ r ∧ t.j ∈ r
          · refine ⟨_, rfl, _, rfl, stD t, _, hS4.dp, .lst (.inl (.inl h4I)) hI4.dp, stD_shaped t, stDs_shaped _, _, rfl, ?_⟩
            rw [inner_any htl, decide_eq_true both]
            refine iteF ⟨_, _, lm, rfl, s4, h4I, h4l, h4m, hlm, .inr (.inl ⟨rfl, ?_⟩)⟩
            simpa [both, Rat.add_zero] using hf4
          · refine ⟨_, rfl, _, rfl, stD t, _, hS4.dp, .lst (.inl (.inl h4I)) hI4.dp, stD_shaped t, stDs_shaped _, _, rfl, ?_⟩
            rw [inner_any htl, decide_eq_false both]
            refine iteT ⟨_, rfl, _, rfl, _, _, _, _, rfl, rfl, .inl (.inl hpt4), rfl, _, rfl, _, _, rfl, .inr (SqT.keep (Keeps.of s4) hq), rfl, flat_nats r, _, rfl, ?_⟩
            have ein : inV (V.int (t.i : Int)) (natsV r) = decide (t.i ∈ r) := inV_nats _ _
            by_cases hin : t.i ∈ r
            · have hU := rb _ hin
              have eU := List.getElem?_eq_getElem (l := lm) (by rw [hlm]; exact hU)
              refine iteP (ein.trans (decide_eq_true hin)) ⟨_, rfl, _, rfl, _, rfl, _, _, _, _, rfl, rfl, .inl (.inl hpt4), rfl, _, _, _, _, rfl, rfl, .inl (.inl h4m), atI_nat eU, _, rfl, _, rfl, _, _, rfl, rfl, _, _, _, _, rfl, rfl, .inl (.inl hpt4), rfl, _, _, rfl, _, _, hf4 t.i _ eU, hxa4, (okb t.i).ok0 (by decide), okt.a.ok0 (by decide), fun v5 H5 s5 hv5 => ?_⟩
              refine ⟨_, rfl, _, rfl, _, rfl, _, _, _, _, rfl, rfl, .inl (.inl (s5 _ _ hpt4)), rfl, _, _, _, _, rfl, rfl, s5 _ _ h4m, Evl.ixN_nat (by omega), ?_⟩
              have kp := Keeps.upd (o := .lst (lm.set t.i v5)) (s5 _ _ h4m) rfl
              refine ⟨_, _, lm.set t.i v5, rfl, Same.mut (Same.trans s4 s5) f3, by rw [upd_ne hI3]; exact s5 _ _ h4I, by rw [upd_ne hl3]; exact s5 _ _ h4l, upd_same, by simp [hlm], .inr (.inl ⟨rfl, ?_⟩)⟩
              refine (((hf4.keep (Keeps.of s5)).set (i := t.i) hv5).keep kp).congr (n := n) (by simp [hlm]) fun kk _ => ?_
              show (if kk = t.i then _ else _) = _
              by_cases e : kk = t.i
              · subst e
                rw [if_pos rfl]
                have hno : t.j ∉ r := fun e => both ⟨hin, e⟩
                simp [both, hin, hno]
              · rw [if_neg e]
                simp [e, Rat.add_zero]
            · refine iteN (ein.trans (decide_eq_false hin)) ⟨_, _, lm, rfl, s4, h4I, h4l, h4m, hlm, .inr (.inl ⟨rfl, ?_⟩)⟩
              simpa [hin, Rat.add_zero] using hf4
        · have okk : Bd D0 (12000000 + 16 * 362880 + 181440) (ps t.j + sumL (ext r t.j) (l.take i) + (if ¬ (t.i ∈ r ∧ t.j ∈ r) ∧ t.i ∈ r ∧ t.j = t.i then t.a else 0)) := (okb t.j).add okt.a.ite
          by_cases both : t.i ∈ r ∧ t.j ∈ r
          · refine ⟨_, rfl, _, rfl, stD t, _, hS4.dp, .lst (.inl (.inl h4I)) hI4.dp, stD_shaped t, stDs_shaped _, _, rfl, ?_⟩
            rw [inner_any htl, decide_eq_true both]
            refine iteF ⟨_, _, lm, rfl, s4, h4I, h4l, h4m, hlm, .inr (.inr ⟨rfl, ?_⟩)⟩
            simpa [both, Rat.add_zero] using hf4
          · refine ⟨_, rfl, _, rfl, stD t, _, hS4.dp, .lst (.inl (.inl h4I)) hI4.dp, stD_shaped t, stDs_shaped _, _, rfl, ?_⟩
            rw [inner_any htl, decide_eq_false both]
            refine iteT ⟨_, rfl, _, rfl, _, _, _, _, rfl, rfl, .inl (.inl hpt4), rfl, _, rfl, _, _, rfl, .inr (SqT.keep (Keeps.of s4) hq), rfl, flat_nats r, _, rfl, ?_⟩
            have ein : inV (V.int (t.j : Int)) (natsV r) = decide (t.j ∈ r) := inV_nats _ _
            by_cases hin : t.j ∈ r
            · have hU := rb _ hin
              have eU := List.getElem?_eq_getElem (l := lm) (by rw [hlm]; exact hU)
              refine iteP (ein.trans (decide_eq_true hin)) ⟨_, rfl, _, rfl, _, rfl, _, _, _, _, rfl, rfl, .inl (.inl hpt4), rfl, _, _, _, _, rfl, rfl, .inl (.inl h4m), atI_nat eU, _, rfl, _, rfl, _, _, rfl, rfl, _, _, _, _, rfl, rfl, .inl (.inl hpt4), rfl, _, _, rfl, _, _, hf4 t.j _ eU, hxb4, okk.ok0 (by decide), okt.b.ok0 (by decide), fun v5 H5 s5 hv5 => ?_⟩
              refine ⟨_, rfl, _, rfl, _, rfl, _, _, _, _, rfl, rfl, .inl (.inl (s5 _ _ hpt4)), rfl, _, _, _, _, rfl, rfl, s5 _ _ h4m, Evl.ixN_nat (by omega), ?_⟩
              have kp := Keeps.upd (o := .lst (lm.set t.j v5)) (s5 _ _ h4m) rfl
              refine ⟨_, _, lm.set t.j v5, rfl, Same.mut (Same.trans s4 s5) f3, by rw [upd_ne hI3]; exact s5 _ _ h4I, by rw [upd_ne hl3]; exact s5 _ _ h4l, upd_same, by simp [hlm], .inr (.inr ⟨rfl, ?_⟩)⟩
              refine (((hf4.keep (Keeps.of s5)).set (i := t.j) hv5).keep kp).congr (n := n) (by simp [hlm]) fun kk _ => ?_
              show (if kk = t.j then _ else _) = _
              by_cases e : kk = t.j
              · subst e
                rw [if_pos rfl]
                have hno : t.i ∉ r := fun e => both ⟨e, hin⟩
                simp [both, hin, hno]
              · rw [if_neg e]
                simp [e, Rat.add_zero]
            · refine iteN (ein.trans (decide_eq_false hin)) ⟨_, _, lm, rfl, s4, h4I, h4l, h4m, hlm, .inr (.inr ⟨rfl, ?_⟩)⟩
              simpa [hin, Rat.add_zero] using hf4
        · omega
      · rintro σ H4 ⟨w9, u11', lm, rfl, s4, h4I, h4l, h4m, hlm, hcase⟩
        rcases hcase with ⟨h, _⟩ | ⟨h, _⟩ | ⟨_, hf4⟩
        · cases h
        · cases h
        · refine ⟨_, _, _, _, lm, rfl, s4, h4I, h4l, h4m, hlm, hf4.congr hlm fun k _ => ?_⟩
          rw [take_snoc ht, sumL_snoc]
          unfold ext
          by_cases both : t.i ∈ r ∧ t.j ∈ r
          · simp [both, Rat.add_zero]
          · simp only [both, if_false, not_false_eq_true, true_and]
            grind
    · rintro σ H3 ⟨u5, u9, u10, u11, lm, rfl, s3, h3I, h3l, h3m, hlm, hf3⟩
      rw [hvl.len, List.take_length] at hf3
      refine ⟨_, rfl, _, rfl, by omega, by omega, ?_⟩
      refine for_range (n := n) (fun i σ H' => ∃ u10 ll, σ = [some (.int n), some (.ref ql), some (.ref qp), some (.ref qw), some (.ref q), u5, some (.ref D), some (.ref p2), some (.ref p3), u9, u10, u11] ∧ Same H H' ∧ Keeps H3 H' ∧ H' D = some (.lst acc) ∧ H' p2 = some (.lst ll) ∧ ll.length = n ∧ H' p3 = some (.lst lm) ∧ ItF H' ll (fun k => if k < i ∧ k ∉ r then 0 else ws k))
        ⟨_, vw, rfl, s3, Keeps.rfl', h3I, h3l, hwl, h3m, (hwf.keep (Keeps.of s3)).congr hwl fun k _ => by simp⟩ ?_ ?_
      · rintro i σ H4 hi ⟨u10', ll, rfl, s4, kp4, h4I, h4l, hll, h4m, hf4⟩
        rw [Int.zero_add]
        have e1 : (!inV (V.int (i : Int)) (natsV r)) = !decide (i ∈ r) := by rw [inV_nats]
        refine ⟨_, rfl, _, rfl, _, _, rfl, .inr (SqT.keep (Keeps.of s4) hq), rfl, flat_nats r, _, rfl, ?_⟩
        by_cases h1 : i ∈ r
        · refine iteN (e1.trans (by simp [h1])) ⟨_, ll, rfl, s4, kp4, h4I, h4l, hll, h4m, hf4.congr hll fun k _ => ?_⟩
          by_cases e : k = i
          · subst e
            simp [h1]
          · have : k < i + 1 ↔ k < i := by omega
            simp only [this]
        · refine iteP (e1.trans (by simp [h1])) ⟨(by show 2 ≤ sizeLine; decide), fun tp ft => ?_⟩
          have s5 := Same.new (o := .tup [.int 0, .int 1]) ft
          refine ⟨_, rfl, _, rfl, _, _, _, _, rfl, rfl, (s5 _ _ h4l), Evl.ixN_nat (by omega), ?_⟩
          have kp := Keeps.upd (o := .lst (ll.set i (.ref tp))) (s5 _ _ h4l) rfl
          refine ⟨_, ll.set i (.ref tp), rfl, Same.mut (Same.trans s4 s5) f2', Keeps.trans kp4 (Keeps.trans (Keeps.of s5) kp), by rw [upd_ne hI2]; exact s5 _ _ h4I, upd_same, by simp [hll], by rw [upd_ne hl3.symm]; exact s5 _ _ h4m, (((hf4.keep (Keeps.of s5)).set (i := i) (q := 0) ⟨tp, rfl, upd_same⟩).keep kp).congr (n := n) (by simp [hll]) fun k _ => ?_⟩
          show (if k = i then _ else _) = _
          by_cases e : k = i
          · subst e
            simp [h1]
          · have : k < i + 1 ↔ k < i := by omega
            rw [if_neg e]
            simp only [this]
      · rintro σ H4 ⟨u10', ll, rfl, s4, kp4, h4I, h4l, hll, h4m, hf4⟩
        have hf4 : ItF H4 ll (laterB r ws) := hf4.congr hll fun k hk => by
          unfold laterB
          by_cases h1 : k ∈ r
          · simp [h1]
          · simp [h1, hk]
        have hm4 := hf3.keep kp4
        have hI4 := hI.keep (Keeps.of s4)
        refine ⟨_, rfl, _, rfl, ⟨_, .inl (.inl h4m)⟩, fun D2 fD2 => ?_⟩
        refine lcm_list (xs := lm) (fun _ H' => Same H4 H') (fun _ y _ => ∃ z : Int, y = .int z) (by rw [hlm]; exact Nat.lt_of_lt_of_le (show n < 9 by omega) (by decide)) (fun _ _ _ _ _ h => h) (Same.new fD2) (fun _ _ _ s => .inl (.inl (s _ _ h4m))) (fun _ _ _ _ s _ => Same.mut s fD2) ?_ ?_
        · rintro i x H5 acc2 hx s5 hD5 hl5 C hC
          obtain ⟨px, rfl, hpx⟩ := (hm4 i x hx).up s5
          exact ⟨rfl, _, rfl, _, _, [_], rfl, .inl (.inl hpx), hC _ _ hD5 Keeps.rfl' s5 ⟨_, rfl⟩⟩
        · rintro H5 acc2 s5 hD5 hl5 hR5
          obtain ⟨zs, rfl⟩ := ints_of hR5
          rw [List.length_map, hlm] at hl5
          have s15 := Same.trans s4 s5
          refine ⟨_, zs, rfl, .inl (.inl hD5), by omega, fun mx _ _ => ⟨_, _, rfl, rfl, ⟨by decide, by decide, by decide⟩, _, _, rfl, rfl, _, rfl, ite2 (fun _ => k H5 s15) (fun _ => ?_)⟩⟩
          refine ⟨_, rfl, _, rfl, ?_⟩
          intro x dx nx ndx hne
          have sX : Same H5 (upd (upd H5 dx (.own x)) x (.ins (CW K) dx [])) := Same.trans (Same.new ndx) (Same.new (by rw [upd_ne (fun e => hne e.symm)]; exact nx))
          refine ⟨_, _, _, rfl, x, dx, D, acc, n, inn r l, rfl, upd_same, rfl, rfl, sX _ _ (s5 _ _ h4I), (hI4.keep (Keeps.of s5)).keep (Keeps.of sX), inn_ok ok, fun q' H6 e1 e2 kk => ⟨rfl, ?_⟩⟩
          have s6 : Same H5 H6 := fun y o hy => kk y o (sX _ _ hy) (ne_of_none hy nx)
          have s46 := Same.trans s5 s6
          refine ⟨_, rfl, _, rfl, _, _, _, rfl, n, inn r l, moreB r l ps, laterB r ws, ⟨inn_ok ok, x, dx, q', acc, rfl, e1, .inl (.inl e2), (hI4.keep (Keeps.of s46))⟩, ⟨p3, lm, rfl, s46 _ _ h4m, hlm, hm4.keep (Keeps.of s46)⟩, ⟨p2, ll, rfl, s46 _ _ h4l, hll, hf4.keep (Keeps.of s46)⟩, more_amt ok amp, later_amt amw, fun hr => ?_, fun _ H7 s7 => ⟨rfl, qbl (decide_eq_true rfl) (k H7 (Same.trans s4 (Same.trans s46 s7)))⟩⟩
          rw [hnone] at hr
          cases hr
  · obtain ⟨u1, u2, u3, u4, u5, rfl⟩ := five5 hl
    rfl
end
end R25

set_option Elab.async false
set_option linter.all false
set_option maxRecDepth 100000
set_option maxHeartbeats 4000000
namespace R25
open PySem PySem.Spec PyProof.Rows L2
section
variable {P : Program} {w : World} {K : PySem.W.Frag} {mg : Str → Option Value} {base : Heap}
theorem least_isNone {n : Nat} {m : Tb} (hn : n ≤ 8) : (leastOf n m).isNone = run (List.range n) m := by
  cases e : run (List.range n) m with
  | true => unfold leastOf; rw [if_pos e]; rfl
  | false => exact least_none n m e hn
theorem sc_law_is_well : FnScope ["_law_web", "_law_stalls", "_law_purse", "_law_wish", "_law_wares", "_law_due"] ["_law_web", "_law_stalls", "_law_purse", "_law_wish"] (defScope s_law_is_well) := ⟨rfl, rfl, rfl, by decide +kernel, rfl, by decide +kernel, by decide +kernel⟩
theorem ok_law_is_well (T : Txt K mg) (D_law_wares_due : Dfn P w K mg base CX0 6 "_law_wares_due" ["_law_wares", "_law_stalls", "_law_purse", "_law_wish"] (sp4 (sp_law_wares_due K))) (D_law_stalls_due : Dfn P w K mg base CX0 6 "_law_stalls_due" ["_law_wares", "_law_stalls", "_law_purse", "_law_wish"] (sp4 (sp_law_stalls_due K))) (D_law_needed_due : Dfn P w K mg base CX0 6 "_law_needed_due" ["_law_wares", "_law_stalls", "_law_purse", "_law_wish"] (sp4 (sp_law_needed_due K))) (D_law_is_told : Dfn P w K mg base CX0 1 "_law_is_told" ["_law_found", "_law_due"] (sp2 (sp_law_is_told K))) (D_law_is_barred : Dfn P w K mg base CX0 10 "_law_is_barred" ["_law_wares", "_law_stalls", "_law_purse", "_law_wish", "_law_some_here"] (sp5 (sp_law_is_barred K))) (D_least_wares : Dfn P w K mg base CX0 10 "least_wares" ["web", "purse", "wish"] (sp3 (sp_least_wares K))) (D_fewest_stalls : Dfn P w K mg base CX0 10 "fewest_stalls" ["web", "purse", "wish"] (sp3 (sp_fewest_stalls K))) (D_needed : Dfn P w K mg base CX0 10 "needed" ["web", "purse", "wish"] (sp3 (sp_needed K))) (D_scales : Dfn P w K mg base CX0 9 "scales" ["web", "purse", "wish"] (sp3 (sp_scales K))) : Dfn P w K mg base CX0 11 "_law_is_well" ["_law_web", "_law_stalls", "_law_purse", "_law_wish"] (sp4 (sp_law_is_well K)) := by
  obtain ⟨fd, F⟩ := T.f_law_is_well
  refine ⟨T.g_law_is_well, F.kp, fd, fnok_of F sc_law_is_well (fun vs H Q E h => ?_) (fun vs H Q E h => ?_), F.binds (ps := ["_law_web", "_law_stalls", "_law_purse", "_law_wish"]) fun _ _ _ _ _ _ us hl => ?_⟩
  · obtain ⟨a1, a2, a3, a4, rfl, _⟩ := h
    rfl
  · obtain ⟨a1, a2, a3, a4, rfl, h⟩ := h
    intro cdv A outer s hr
    refine ⟨_, (pss_cons (ps_set (i := 4) sc_law_is_well.nd rfl (Or.inl rfl) (pe_fld (pv 0) rfl))
      (pss_cons (ps_set (i := 5) sc_law_is_well.nd rfl (Or.inl rfl) (pe_callD D_law_wares_due hr (pa_cons (pv 4) (pa_cons (pv 1) (pa_cons (pv 2) (pa_cons (pv 3) pa_nil))))))
      (pss_cons (ps_if (PW.pt (pw_or (pt_not (pt_val (pe_callD D_law_is_told hr (pa_cons (pe_callD D_least_wares hr (pa_cons (pv 0) (pa_cons (pv 2) (pa_cons (pv 3) pa_nil)))) (pa_cons (pv 5) pa_nil))))) (pw_or1 (pt_cmpR op_ne (pe_cmpR op_isN (pv 5) pe_non (nomark _)) (pe_cmpR op_notN (pe_callD D_scales hr (pa_cons (pv 0) (pa_cons (pv 2) (pa_cons (pv 3) pa_nil)))) pe_non (nomark _)) (nomark _))))) (pss_one (ps_ret pe_bl)) pss_nil)
      (pss_cons (ps_if (pt_cmpR op_lt (pe_callB call_len_seq (by rfl) T.b_len (by decide +kernel) (pa_cons (pv 1) pa_nil)) pe_int (nomark _)) (pss_one (ps_if (pt_not (pt_val (pe_callD D_law_is_told hr (pa_cons (pe_callD D_fewest_stalls hr (pa_cons (pv 0) (pa_cons (pv 2) (pa_cons (pv 3) pa_nil)))) (pa_cons (pe_callD D_law_stalls_due hr (pa_cons (pv 4) (pa_cons (pv 1) (pa_cons (pv 2) (pa_cons (pv 3) pa_nil))))) pa_nil))))) (pss_one (ps_ret pe_bl)) pss_nil)) pss_nil)
      (pss_cons (ps_if (pt_not (pt_val (pe_callD D_law_is_told hr (pa_cons (pe_callD D_needed hr (pa_cons (pv 0) (pa_cons (pv 2) (pa_cons (pv 3) pa_nil)))) (pa_cons (pe_callD D_law_needed_due hr (pa_cons (pv 4) (pa_cons (pv 1) (pa_cons (pv 2) (pa_cons (pv 3) pa_nil))))) pa_nil))))) (pss_one (ps_ret pe_bl)) pss_nil)
      (pss_one (ps_ret (pe_or (pe_cmpR op_isN (pv 5) pe_non (nomark _)) (pe_one (pe_callD D_law_is_barred hr (pa_cons (pv 4) (pa_cons (pv 1) (pa_cons (pv 2) (pa_cons (pv 3) (pa_cons (pv 5) pa_nil))))))))))))))), ?_⟩
    obtain ⟨n, l, ps, ws, hw, as, amp, amw, k⟩ := h
    have ok := hw.1
    have n8 := ok.n8
    have l16 := ok.l16
    obtain ⟨_, wp, wdx, wq, wvs, rfl, hwp, hwq, hws⟩ := id hw
    obtain ⟨ql, vl, rfl, hql, hvl⟩ := id as.1
    obtain ⟨qp, vp, rfl, hqp, hpl, hpf⟩ := id as.2.2.1
    obtain ⟨qw, vw, rfl, hqw, hwl, hwf⟩ := id as.2.2.2.1
    have hll := hvl.len
    have np : NumL H (.ref qp) n ps := ⟨_, _, rfl, hqp, hpl, hpf⟩
    have nw : NumL H (.ref qw) n ws := ⟨_, _, rfl, hqw, hwl, hwf⟩
    refine ⟨_, rfl, _, _, _, _, _, rfl, hwp, T.c_Web, T.n_wares, (wF_wares n wq), _, rfl, _, rfl, _, rfl, _, rfl, _, _, _, _, rfl, n, l, ps, ws, rfl, as, fun vd H1 s1 hd => ?_⟩
    refine ⟨_, rfl, _, rfl, _, rfl, _, _, _, rfl, n, l, ps, ws, hw.up s1, np.up s1, nw.up s1, amp.amt, amw.amt, Ans.of fun vf H2 s2 hf => ?_⟩
    refine ⟨_, rfl, _, _, rfl, _, hf, hd.up s2, fun r e => least_len e n8, fun H3 s3 => ⟨_, rfl, iteN rfl ?_⟩⟩
    have s13 := Same.trans s1 (Same.trans s2 s3)
    have hd3 := hd.up (Same.trans s2 s3)
    have nd3 := hd3.non
    rw [least_isNone n8] at nd3
    refine ⟨_, rfl, rfl, _, rfl, _, rfl, _, rfl, _, _, _, rfl, n, l, ps, ws, hw.up s13, np.up s13, nw.up s13, amp.amt, amw.amt, ?_, ?_⟩
    all_goals
      intro hr
      first
        | intro p H4 s4
        | intro H4 s4
      have s14 := Same.trans s13 s4
      have hd4 := hd3.up s4
      refine ⟨rfl, rfl, _, rfl, iteN ?_ ?_⟩
      · first
          | (show (!decide (V.bl (decide (vd = .non)) = V.bl (!decide (V.ref p = .non)))) = false; rw [nd3, hr]; rfl)
          | (show (!decide (V.bl (decide (vd = .non)) = V.bl (!decide (V.non = .non)))) = false; rw [nd3, hr]; rfl)
      refine ⟨_, rfl, _, _, rfl, .inl (.inl (.inl (s14 _ _ hql))), _, _, rfl, rfl, _, rfl, ite2 (fun hc => ?_) (fun hc => ?_)⟩
      · have l8 : l.length ≤ 8 := by have := of_decide_eq_true hc; omega
        refine ⟨_, rfl, _, rfl, _, rfl, _, _, _, rfl, n, l, ps, ws, hw.up s14, np.up s14, nw.up s14, amp.amt, amw.amt, l8, Ans.of fun vf5 H5 s5 hf5 => ?_⟩
        have s15 := Same.trans s14 s5
        refine ⟨_, rfl, _, rfl, _, rfl, _, rfl, _, _, _, _, rfl, n, l, ps, ws, rfl, as.up s15, l8, fun vd6 H6 s6 hd6 => ?_⟩
        refine ⟨_, _, rfl, _, hf5.up s6, hd6, fun r e => few_len e l8, fun H7 s7 => ⟨_, rfl, iteN rfl ?_⟩⟩
        have s17 := Same.trans s15 (Same.trans s6 s7)
        have hd7 := hd4.up (Same.trans s5 (Same.trans s6 s7))
        refine ⟨_, rfl, _, rfl, _, rfl, _, _, _, rfl, n, l, ps, ws, hw.up s17, np.up s17, nw.up s17, amp.amt, amw.amt, Ans.of fun vf8 H8 s8 hf8 => ?_⟩
        have s18 := Same.trans s17 s8
        refine ⟨_, rfl, _, rfl, _, rfl, _, rfl, _, _, _, _, rfl, n, l, ps, ws, rfl, as.up s18, fun vd9 H9 s9 hd9 => ?_⟩
        refine ⟨_, _, rfl, _, hf8.up s9, hd9, fun r e => need_len e l16, fun H10 s10 => ⟨_, rfl, iteN rfl ?_⟩⟩
        have s110 := Same.trans s18 (Same.trans s9 s10)
        have hd10 := hd7.up (Same.trans s8 (Same.trans s9 s10))
        refine ⟨_, rfl, rfl, _, rfl, ?_⟩
        rcases hd10 with ⟨e, rfl⟩ | ⟨r, e, hr10⟩
        · exact iteP (decide_eq_true rfl) (k _ s110)
        · obtain ⟨qd, rfl, hqd⟩ := hr10
          exact iteN rfl ⟨_, rfl, _, rfl, _, rfl, _, rfl, _, rfl, _, _, _, _, _, rfl, n, l, ps, ws, r, rfl, as.up s110, amp, amw, ⟨qd, rfl, hqd⟩, e, fun H11 s11 => k _ (Same.trans s110 s11)⟩
      · have s17 := s14
        have hd7 := hd4
        refine ⟨_, rfl, _, rfl, _, rfl, _, _, _, rfl, n, l, ps, ws, hw.up s17, np.up s17, nw.up s17, amp.amt, amw.amt, Ans.of fun vf8 H8 s8 hf8 => ?_⟩
        have s18 := Same.trans s17 s8
        refine ⟨_, rfl, _, rfl, _, rfl, _, rfl, _, _, _, _, rfl, n, l, ps, ws, rfl, as.up s18, fun vd9 H9 s9 hd9 => ?_⟩
        refine ⟨_, _, rfl, _, hf8.up s9, hd9, fun r e => need_len e l16, fun H10 s10 => ⟨_, rfl, iteN rfl ?_⟩⟩
        have s110 := Same.trans s18 (Same.trans s9 s10)
        have hd10 := hd7.up (Same.trans s8 (Same.trans s9 s10))
        refine ⟨_, rfl, rfl, _, rfl, ?_⟩
        rcases hd10 with ⟨e, rfl⟩ | ⟨r, e, hr10⟩
        · exact iteP (decide_eq_true rfl) (k _ s110)
        · obtain ⟨qd, rfl, hqd⟩ := hr10
          exact iteN rfl ⟨_, rfl, _, rfl, _, rfl, _, rfl, _, rfl, _, _, _, _, _, rfl, n, l, ps, ws, r, rfl, as.up s110, amp, amw, ⟨qd, rfl, hqd⟩, e, fun H11 s11 => k _ (Same.trans s110 s11)⟩
  · obtain ⟨u1, u2, u3, u4, rfl⟩ := four4 hl
    rfl
end
end R25

set_option Elab.async false
set_option linter.all false
set_option maxRecDepth 100000
set_option maxHeartbeats 4000000
namespace R25
open PySem PySem.Spec PyProof.Rows L2
/-! ### what raises -/
section
variable {X : Cx} {C : Addr} {bmB : List Value} {B newId initId : String}
theorem pmk_own0 {x : Str} {p pos : Pos} (F : ExcBaseFacts B newId initId bmB) (q : PySem.W.excIn X.K C bmB newId = true) (gC : X.mg x = some (.ref C)) (kC : PySem.W.keepIn X.K (.ref C) = true) (r : Raises X (.ref C)) (hg : Gl X x)
    (hdb : (x == ("__debug__" : Str)) = false := by decide) : PMk X (.Call (.Name x p) [] [] pos) (fun _ H Q => Q (.ref C) none H) := by
  intro pins s σ H Q I h
  refine wpAny_Call_Name_kw (ld_glob I hg gC ?_ hdb)
  refine PySem.W.callWith_K0 I.kIn kC ?_
  show wpAny _ _ (call (.ref C) []) _ _ _
  obtain ⟨bm, N, nm, qn, bs, hdct, sn, sub, ab, col, dd, k0, k1, k2, k3, k5, mN, hC, hN, hni, T⟩ := exc_obj I.kIn q
  refine wpAny_call_exc_subT F T hC hN hni (fun h' e hm => ?_) (by show 0 ≤ sizeLine; omega)
  exact mk_of I hm r h (I.hok.gone hm.new)
end
section
variable {P : Program} {w : World} {K : PySem.W.Frag} {mg : Str → Option Value} {base : Heap} {x qual : Str} {st : Stmt} {f : Addr} {fd : FuncData} {N ps : List Str} {k : Nat}
theorem fnok_ofX {sp : Sp} (F : Fun K x qual st f fd) (S : FnScope N ps (defScope st)) (len : ∀ vs H Q E, sp vs H Q E → vs.length = ps.length)
    (hb : ∀ vs H Q E, sp vs H Q E → ∀ (cdv : Value) (A : Around) (outer : List Env) (s : Shared), Room k (A.deeper (envOfC qual (defScope st) s.heap.objs.size f cdv)) →
      ∃ t, PSs (cxOf (L2.CX P w) P w K mg base N qual (defScope st) f cdv A outer s H E) (defBody st) t ∧ t { nx := fun _ H' => Q .non H', rt := Q } (start N vs) H) : FnOk P w K mg base (L2.CX P w) (k + 1) f fd ps sp :=
  F.okX S len fun cdv A outer s H vs Q E hr h => hb vs H Q E h cdv A outer s hr
end
section
variable {X : Cx} {k j : Nat} {x : Str} {ps : List Str} {sp : Sp} {p pos : Pos} {e : Expr} {es : List Expr} {t : TA} {W : WX}
theorem pe_callSD (D : Dfn X.prog X.w X.K X.mg X.base (L2.CX X.prog X.w) k x ps sp) (hr : Room j X.A) (tk : Takes X W) (ha : PA X (e :: es) t) (hj : k ≤ j := by decide) (hg : Gl X x := by rfl) (hdb : (x == ("__debug__" : Str)) = false := by decide) (he : starEach (e :: es) X.env = (false, eval e X.env) :: starEach es X.env := by rfl) (hpl : (backTo pos (starEach es X.env)).any (·.1) = false := by rfl) :
    PE X (.Call (.Name x p) (e :: es) [] pos) (tCallS sp (WE W) t) := by
  obtain ⟨fd, F, hb⟩ := D.fn
  exact pe_callS F (hr.mono hj) hg D.g D.kp hb (passAt tk) ha hdb he hpl
end
section
variable (K : PySem.W.Frag)
def spX_check (cls : Str) : F2 := fun a b H Q E => sp_check K a b H Q E ∨ ∃ n l p vs, WebAt K H a n l ∧ b = .ref p ∧ H p = some (.lst vs) ∧ vs.length ≠ n ∧ ∀ H', Same H H' → E (.ref (He.ga K cls)) none H'
def spX_ask : F3 := fun a b c H Q E => ∃ n l, WebAt K H a n l ∧ ((∃ p vs, b = .ref p ∧ H p = some (.lst vs) ∧ vs.length ≠ n ∧ ∀ H', Same H H' → E (.ref (He.ga K "BadPurse")) none H') ∨
  ∃ ps p vs, NumL H b n ps ∧ Amt ps ∧ c = .ref p ∧ H p = some (.lst vs) ∧ vs.length ≠ n ∧ ∀ H', Same H H' → E (.ref (He.ga K "BadWish")) none H')
def sp_law_word : F4 := fun a b c d H Q _ => ∃ (wh : Int) (n : Nat) (l : List Stl), a = .int wh ∧ WebAt K H b n l ∧ ((∃ p vs, c = .ref p ∧ H p = some (.lst vs) ∧ vs.length ≠ n ∧ ∀ H', Same H H' → Q (.str "purse") H') ∨
  ∃ ps p vs, NumL H c n ps ∧ Amt ps ∧ d = .ref p ∧ H p = some (.lst vs) ∧ vs.length ≠ n ∧ ∀ H', Same H H' → Q (.str "wish") H')
end
end R25

set_option Elab.async false
set_option linter.all false
set_option maxRecDepth 100000
set_option maxHeartbeats 4000000
namespace R25
open PySem PySem.Spec PyProof.Rows L2
section
variable {P : Program} {w : World} {K : PySem.W.Frag} {mg : Str → Option Value} {base : Heap}
theorem ok_check_purse_X (T : Txt K mg) (D_is_amounts : Dfn P w K mg base CX0 4 "is_amounts" ["thing", "many"] (sp2 sp_is_amounts)) (D_exact : Dfn P w K mg base CX0 4 "exact" ["pair"] (sp1 (sp_exact K))) : Dfn P w K mg base (L2.CX P w) 5 "check_purse" ["web", "purse"] (sp2 (spX_check K "BadPurse")) := by
  obtain ⟨fd, F⟩ := T.f_check_purse
  refine ⟨T.g_check_purse, F.kp, fd, fnok_ofX F sc_check_purse (fun vs H Q E h => ?_) (fun vs H Q E h => ?_), F.binds (ps := ["web", "purse"]) fun _ _ _ _ _ _ us hl => ?_⟩
  · obtain ⟨a1, a2, rfl, _⟩ := h
    rfl
  · obtain ⟨a1, a2, rfl, h⟩ := h
    intro cdv A outer s hr
    refine ⟨_, (pss_cons (ps_if (pt_not (pt_val (pe_callD D_is_amounts hr (pa_cons (pv 1) (pa_cons (pe_fld (pv 0) rfl) pa_nil))))) (pss_one (ps_raise rfl (takes_of rfl rfl rfl rfl) (pmk_own0 PySem.F.excBase_ValueError T.e_BadPurse.1 T.g_BadPurse T.e_BadPurse.2.1 (raises_own T.e_BadPurse.2.2.1 T.e_BadPurse.2.2.2) rfl))) pss_nil)
      (pss_one (ps_ret (pe_lc (own := [("amount", 2)]) (g := gName 2) rfl sc_check_purse.nd (pi_list (pv 1)) (blkOk_by (N := ["web", "purse", "amount"]) (sc := defScope s_check_purse) (by decide +kernel)) (fun _ _ _ _ _ => (pg_name (i := 2) sc_check_purse.nd rfl (Or.inl rfl))) (fun _ _ _ _ _ => pts_nil) (fun _ _ _ _ _ => (pe_callD D_exact hr (pa_cons (pv 2) pa_nil))))))), ?_⟩
    rcases h with ⟨n, l, f, ⟨ok, p, dx, q, vs, rfl, hp, hq, hs⟩, ⟨p2, vs2, rfl, hp2, hlen, hif⟩, am, k⟩ | ⟨n, l, p2, vs2, ⟨ok, p, dx, q, vs, rfl, hp, hq, hs⟩, rfl, hp2, hne, hE⟩
    · have n8 := ok.n8
      refine ⟨_, rfl, _, rfl, _, _, _, _, _, rfl, hp, T.c_Web, T.n_wares, (wF_wares n q), _, _, rfl, n, rfl, .inl ⟨f, ⟨_, _, rfl, hp2, hlen, hif⟩, fun k => (am k).2, ok.n8, fun H' s => ⟨_, rfl, iteN rfl ?_⟩⟩⟩
      refine ⟨_, rfl, _, rfl, ⟨_, .inl (.inl (s _ _ hp2))⟩, fun D fD => ?_⟩
      refine lcm_list (xs := vs2) (fun _ H2 => Same H' H2) (fun k y H => IsE K H y (f k)) (by rw [hlen]; exact Nat.lt_of_le_of_lt n8 (by decide)) (fun _ _ _ _ s h => h.keep s) (Same.new fD) (fun _ _ _ s2 => .inl (.inl (s2 _ _ (s _ _ hp2)))) (fun _ _ _ _ s _ => Same.mut s fD) ?_ ?_
      · rintro i x H2 acc hx s2 hD hl C hC
        exact ⟨rfl, _, rfl, _, rfl, f i, (hif i x hx).up (Same.trans s s2), (am i).1.ok0 (by decide), fun v H4 s4 h4 => hC v H4 (s4 _ _ hD) (Keeps.of s4) (Same.trans s2 s4) h4⟩
      · rintro H2 acc s2 hD hl hR
        exact k D acc H2 (Same.free s fD) (Same.trans s s2) hD (by rw [hl, hlen]) hR
    · exact ⟨_, rfl, _, rfl, _, _, _, _, _, rfl, hp, T.c_Web, T.n_wares, (wF_wares n q), _, _, rfl, n, rfl, .inr ⟨p2, vs2, rfl, hp2, hne, fun H' s => ⟨_, rfl, iteP rfl (hE H' s)⟩⟩⟩
  · obtain ⟨u1, u2, rfl⟩ := two2 hl
    rfl
theorem ok_check_wish_X (T : Txt K mg) (D_is_amounts : Dfn P w K mg base CX0 4 "is_amounts" ["thing", "many"] (sp2 sp_is_amounts)) (D_exact : Dfn P w K mg base CX0 4 "exact" ["pair"] (sp1 (sp_exact K))) : Dfn P w K mg base (L2.CX P w) 5 "check_wish" ["web", "wish"] (sp2 (spX_check K "BadWish")) := by
  obtain ⟨fd, F⟩ := T.f_check_wish
  refine ⟨T.g_check_wish, F.kp, fd, fnok_ofX F sc_check_wish (fun vs H Q E h => ?_) (fun vs H Q E h => ?_), F.binds (ps := ["web", "wish"]) fun _ _ _ _ _ _ us hl => ?_⟩
  · obtain ⟨a1, a2, rfl, _⟩ := h
    rfl
  · obtain ⟨a1, a2, rfl, h⟩ := h
    intro cdv A outer s hr
    refine ⟨_, (pss_cons (ps_if (pt_not (pt_val (pe_callD D_is_amounts hr (pa_cons (pv 1) (pa_cons (pe_fld (pv 0) rfl) pa_nil))))) (pss_one (ps_raise rfl (takes_of rfl rfl rfl rfl) (pmk_own0 PySem.F.excBase_ValueError T.e_BadWish.1 T.g_BadWish T.e_BadWish.2.1 (raises_own T.e_BadWish.2.2.1 T.e_BadWish.2.2.2) rfl))) pss_nil)
      (pss_one (ps_ret (pe_lc (own := [("amount", 2)]) (g := gName 2) rfl sc_check_wish.nd (pi_list (pv 1)) (blkOk_by (N := ["web", "wish", "amount"]) (sc := defScope s_check_wish) (by decide +kernel)) (fun _ _ _ _ _ => (pg_name (i := 2) sc_check_wish.nd rfl (Or.inl rfl))) (fun _ _ _ _ _ => pts_nil) (fun _ _ _ _ _ => (pe_callD D_exact hr (pa_cons (pv 2) pa_nil))))))), ?_⟩
    rcases h with ⟨n, l, f, ⟨ok, p, dx, q, vs, rfl, hp, hq, hs⟩, ⟨p2, vs2, rfl, hp2, hlen, hif⟩, am, k⟩ | ⟨n, l, p2, vs2, ⟨ok, p, dx, q, vs, rfl, hp, hq, hs⟩, rfl, hp2, hne, hE⟩
    · have n8 := ok.n8
      refine ⟨_, rfl, _, rfl, _, _, _, _, _, rfl, hp, T.c_Web, T.n_wares, (wF_wares n q), _, _, rfl, n, rfl, .inl ⟨f, ⟨_, _, rfl, hp2, hlen, hif⟩, fun k => (am k).2, ok.n8, fun H' s => ⟨_, rfl, iteN rfl ?_⟩⟩⟩
      refine ⟨_, rfl, _, rfl, ⟨_, .inl (.inl (s _ _ hp2))⟩, fun D fD => ?_⟩
      refine lcm_list (xs := vs2) (fun _ H2 => Same H' H2) (fun k y H => IsE K H y (f k)) (by rw [hlen]; exact Nat.lt_of_le_of_lt n8 (by decide)) (fun _ _ _ _ s h => h.keep s) (Same.new fD) (fun _ _ _ s2 => .inl (.inl (s2 _ _ (s _ _ hp2)))) (fun _ _ _ _ s _ => Same.mut s fD) ?_ ?_
      · rintro i x H2 acc hx s2 hD hl C hC
        exact ⟨rfl, _, rfl, _, rfl, f i, (hif i x hx).up (Same.trans s s2), (am i).1.ok0 (by decide), fun v H4 s4 h4 => hC v H4 (s4 _ _ hD) (Keeps.of s4) (Same.trans s2 s4) h4⟩
      · rintro H2 acc s2 hD hl hR
        exact k D acc H2 (Same.free s fD) (Same.trans s s2) hD (by rw [hl, hlen]) hR
    · exact ⟨_, rfl, _, rfl, _, _, _, _, _, rfl, hp, T.c_Web, T.n_wares, (wF_wares n q), _, _, rfl, n, rfl, .inr ⟨p2, vs2, rfl, hp2, hne, fun H' s => ⟨_, rfl, iteP rfl (hE H' s)⟩⟩⟩
  · obtain ⟨u1, u2, rfl⟩ := two2 hl
    rfl
theorem ok_least_wares_X (T : Txt K mg) (D_check_purse_X : Dfn P w K mg base (L2.CX P w) 5 "check_purse" ["web", "purse"] (sp2 (spX_check K "BadPurse"))) (D_check_wish_X : Dfn P w K mg base (L2.CX P w) 5 "check_wish" ["web", "wish"] (sp2 (spX_check K "BadWish"))) (D_scales_of : Dfn P w K mg base CX0 8 "scales_of" ["web", "own", "wished"] (sp3 (sp_scales_of K))) (D_table_of : Dfn P w K mg base CX0 6 "table_of" ["web", "own", "wished"] (sp3 (sp_table_of K))) (D_all_tuples : Dfn P w K mg base CX0 1 "all_tuples" ["many"] (sp1 (sp_all_tuples K))) (D_is_struck : Dfn P w K mg base CX0 8 "is_struck" ["table"] (sp1 (sp_is_struck K))) (D_table_among : Dfn P w K mg base CX0 3 "table_among" ["table", "wares"] (sp2 (sp_table_among K))) : Dfn P w K mg base (L2.CX P w) 10 "least_wares" ["web", "purse", "wish"] (sp3 (spX_ask K)) := by
  obtain ⟨fd, F⟩ := T.f_least_wares
  refine ⟨T.g_least_wares, F.kp, fd, fnok_ofX F sc_least_wares (fun vs H Q E h => ?_) (fun vs H Q E h => ?_), F.binds (ps := ["web", "purse", "wish"]) fun _ _ _ _ _ _ us hl => ?_⟩
  · obtain ⟨a1, a2, a3, rfl, _⟩ := h
    rfl
  · obtain ⟨a1, a2, a3, rfl, h⟩ := h
    intro cdv A outer s hr
    refine ⟨_, (pss_cons (ps_set (i := 3) sc_least_wares.nd rfl (Or.inl rfl) (pe_callSD D_check_purse_X hr (takes_of rfl rfl rfl rfl) (pa_cons (pv 0) (pa_cons (pv 1) pa_nil))))
      (pss_cons (ps_set (i := 4) sc_least_wares.nd rfl (Or.inl rfl) (pe_callSD D_check_wish_X hr (takes_of rfl rfl rfl rfl) (pa_cons (pv 0) (pa_cons (pv 2) pa_nil))))
      (pss_cons (ps_if (pt_cmpR op_notN (pe_callD D_scales_of hr (pa_cons (pv 0) (pa_cons (pv 3) (pa_cons (pv 4) pa_nil)))) pe_non (nomark _)) (pss_one (ps_ret pe_non)) pss_nil)
      (pss_cons (ps_set (i := 5) sc_least_wares.nd rfl (Or.inl rfl) (pe_callD D_table_of hr (pa_cons (pv 0) (pa_cons (pv 3) (pa_cons (pv 4) pa_nil)))))
      (pss_cons (ps_for (passes_of rfl) rfl (pi_list (pe_callD D_all_tuples hr (pa_cons (pe_fld (pv 0) rfl) pa_nil))) (pg_name (i := 6) sc_least_wares.nd rfl (Or.inl rfl)) (pss_one (ps_if (pt_not (pt_val (pe_callD D_is_struck hr (pa_cons (pe_callD D_table_among hr (pa_cons (pv 5) (pa_cons (pv 6) pa_nil))) pa_nil)))) (pss_one (ps_ret (pv 6))) pss_nil)))
      (pss_one (ps_ret pe_non))))))), ?_⟩
    obtain ⟨n, l, hw, ⟨p, vs, rfl, hp, hne, hE⟩ | ⟨ps, p, vs, hnp, am, rfl, hp, hne, hE⟩⟩ := h
    · exact ⟨_, rfl, _, rfl, _, _, rfl, .inr ⟨n, l, p, vs, hw, rfl, hp, hne, fun H' s => hE H' s⟩⟩
    · exact ⟨_, rfl, _, rfl, _, _, rfl, .inl ⟨n, l, ps, hw, hnp, am, fun p1 v1 H1 f1 s1 h1 l1 e1 => ⟨_, rfl, _, rfl, _, _, rfl, .inr ⟨n, l, p, vs, hw.up s1, rfl, s1 _ _ hp, hne, fun H' s => hE H' (Same.trans s1 s)⟩⟩⟩⟩
  · obtain ⟨u1, u2, u3, rfl⟩ := three3 hl
    rfl
theorem ok_fewest_stalls_X (T : Txt K mg) (D_check_purse_X : Dfn P w K mg base (L2.CX P w) 5 "check_purse" ["web", "purse"] (sp2 (spX_check K "BadPurse"))) (D_check_wish_X : Dfn P w K mg base (L2.CX P w) 5 "check_wish" ["web", "wish"] (sp2 (spX_check K "BadWish"))) (D_all_tuples : Dfn P w K mg base CX0 1 "all_tuples" ["many"] (sp1 (sp_all_tuples K))) (D_is_met_by_T : Dfn P w K mg base CX0 9 "is_met_by" ["web", "own", "wished", "indexes"] (sp4 (sp_is_met_by K false))) : Dfn P w K mg base (L2.CX P w) 10 "fewest_stalls" ["web", "purse", "wish"] (sp3 (spX_ask K)) := by
  obtain ⟨fd, F⟩ := T.f_fewest_stalls
  refine ⟨T.g_fewest_stalls, F.kp, fd, fnok_ofX F sc_fewest_stalls (fun vs H Q E h => ?_) (fun vs H Q E h => ?_), F.binds (ps := ["web", "purse", "wish"]) fun _ _ _ _ _ _ us hl => ?_⟩
  · obtain ⟨a1, a2, a3, rfl, _⟩ := h
    rfl
  · obtain ⟨a1, a2, a3, rfl, h⟩ := h
    intro cdv A outer s hr
    refine ⟨_, (pss_cons (ps_set (i := 3) sc_fewest_stalls.nd rfl (Or.inl rfl) (pe_callSD D_check_purse_X hr (takes_of rfl rfl rfl rfl) (pa_cons (pv 0) (pa_cons (pv 1) pa_nil))))
      (pss_cons (ps_set (i := 4) sc_fewest_stalls.nd rfl (Or.inl rfl) (pe_callSD D_check_wish_X hr (takes_of rfl rfl rfl rfl) (pa_cons (pv 0) (pa_cons (pv 2) pa_nil))))
      (pss_cons (ps_for (passes_of rfl) rfl (pi_list (pe_callD D_all_tuples hr (pa_cons (pe_callB call_len_seq (by rfl) T.b_len (by decide +kernel) (pa_cons (pe_fld (pv 0) rfl) pa_nil)) pa_nil))) (pg_name (i := 5) sc_fewest_stalls.nd rfl (Or.inl rfl)) (pss_one (ps_if (pt_val (pe_callD D_is_met_by_T hr (pa_cons (pv 0) (pa_cons (pv 3) (pa_cons (pv 4) (pa_cons (pv 5) pa_nil)))))) (pss_one (ps_ret (pv 5))) pss_nil)))
      (pss_one (ps_ret pe_non))))), ?_⟩
    obtain ⟨n, l, hw, ⟨p, vs, rfl, hp, hne, hE⟩ | ⟨ps, p, vs, hnp, am, rfl, hp, hne, hE⟩⟩ := h
    · exact ⟨_, rfl, _, rfl, _, _, rfl, .inr ⟨n, l, p, vs, hw, rfl, hp, hne, fun H' s => hE H' s⟩⟩
    · exact ⟨_, rfl, _, rfl, _, _, rfl, .inl ⟨n, l, ps, hw, hnp, am, fun p1 v1 H1 f1 s1 h1 l1 e1 => ⟨_, rfl, _, rfl, _, _, rfl, .inr ⟨n, l, p, vs, hw.up s1, rfl, s1 _ _ hp, hne, fun H' s => hE H' (Same.trans s1 s)⟩⟩⟩⟩
  · obtain ⟨u1, u2, u3, rfl⟩ := three3 hl
    rfl
theorem ok_needed_X (T : Txt K mg) (D_check_purse_X : Dfn P w K mg base (L2.CX P w) 5 "check_purse" ["web", "purse"] (sp2 (spX_check K "BadPurse"))) (D_check_wish_X : Dfn P w K mg base (L2.CX P w) 5 "check_wish" ["web", "wish"] (sp2 (spX_check K "BadWish"))) (D_scales_of : Dfn P w K mg base CX0 8 "scales_of" ["web", "own", "wished"] (sp3 (sp_scales_of K))) (D_is_met_by_L : Dfn P w K mg base CX0 9 "is_met_by" ["web", "own", "wished", "indexes"] (sp4 (sp_is_met_by K true))) : Dfn P w K mg base (L2.CX P w) 10 "needed" ["web", "purse", "wish"] (sp3 (spX_ask K)) := by
  obtain ⟨fd, F⟩ := T.f_needed
  refine ⟨T.g_needed, F.kp, fd, fnok_ofX F sc_needed (fun vs H Q E h => ?_) (fun vs H Q E h => ?_), F.binds (ps := ["web", "purse", "wish"]) fun _ _ _ _ _ _ us hl => ?_⟩
  · obtain ⟨a1, a2, a3, rfl, _⟩ := h
    rfl
  · obtain ⟨a1, a2, a3, rfl, h⟩ := h
    intro cdv A outer s hr
    refine ⟨_, (pss_cons (ps_set (i := 3) sc_needed.nd rfl (Or.inl rfl) (pe_callSD D_check_purse_X hr (takes_of rfl rfl rfl rfl) (pa_cons (pv 0) (pa_cons (pv 1) pa_nil))))
      (pss_cons (ps_set (i := 4) sc_needed.nd rfl (Or.inl rfl) (pe_callSD D_check_wish_X hr (takes_of rfl rfl rfl rfl) (pa_cons (pv 0) (pa_cons (pv 2) pa_nil))))
      (pss_cons (ps_if (pt_cmpR op_isN (pe_callD D_scales_of hr (pa_cons (pv 0) (pa_cons (pv 3) (pa_cons (pv 4) pa_nil)))) pe_non (nomark _)) (pss_one (ps_ret pe_non)) pss_nil)
      (pss_cons (ps_set (i := 5) sc_needed.nd rfl (Or.inl rfl) (pe_lst pa_nil))
      (pss_cons (ps_for (passes_of rfl) rfl (pi_range1 rfl T.b_range (pa_cons (pe_callB call_len_seq (by rfl) T.b_len (by decide +kernel) (pa_cons (pe_fld (pv 0) rfl) pa_nil)) pa_nil)) (pg_name (i := 6) sc_needed.nd rfl (Or.inr rfl)) (pss_one (ps_if (pt_not (pt_val (pe_callD D_is_met_by_L hr (pa_cons (pv 0) (pa_cons (pv 3) (pa_cons (pv 4) (pa_cons (pe_lc (own := [("other", 7)]) (g := gName 7) rfl sc_needed.nd (pi_range1 rfl T.b_range (pa_cons (pe_callB call_len_seq (by rfl) T.b_len (by decide +kernel) (pa_cons (pe_fld (pv 0) rfl) pa_nil)) pa_nil)) (blkOk_by (N := ["web", "purse", "wish", "own", "wished", "found", "index", "other"]) (sc := defScope s_needed) (by decide +kernel)) (fun _ _ _ _ _ => (pg_name (i := 7) sc_needed.nd rfl (Or.inl rfl))) (fun _ _ _ _ _ => (pts_one (pt_cmpR op_ne (pv 7) (pv 6) (nomark _)))) (fun _ _ _ _ _ => (pv 7))) pa_nil))))))) (pss_one (ps_expr (pe_bm PySem.F.plainAttrs_list PySem.F.slot_list_append PySem.F.type_list_append mt_append (pv 5) (pa_cons (pv 6) pa_nil)))) pss_nil)))
      (pss_one (ps_ret (pe_callTy call_tuple_of (by rfl) T.b_tuple (by decide +kernel) (pa_cons (pv 5) pa_nil))))))))), ?_⟩
    obtain ⟨n, l, hw, ⟨p, vs, rfl, hp, hne, hE⟩ | ⟨ps, p, vs, hnp, am, rfl, hp, hne, hE⟩⟩ := h
    · exact ⟨_, rfl, _, rfl, _, _, rfl, .inr ⟨n, l, p, vs, hw, rfl, hp, hne, fun H' s => hE H' s⟩⟩
    · exact ⟨_, rfl, _, rfl, _, _, rfl, .inl ⟨n, l, ps, hw, hnp, am, fun p1 v1 H1 f1 s1 h1 l1 e1 => ⟨_, rfl, _, rfl, _, _, rfl, .inr ⟨n, l, p, vs, hw.up s1, rfl, s1 _ _ hp, hne, fun H' s => hE H' (Same.trans s1 s)⟩⟩⟩⟩
  · obtain ⟨u1, u2, u3, rfl⟩ := three3 hl
    rfl
theorem sc_law_word : FnScope ["_law_which", "_law_web", "_law_purse", "_law_wish", "_law_word_here"] ["_law_which", "_law_web", "_law_purse", "_law_wish"] (defScope s_law_word) := ⟨rfl, rfl, rfl, by decide +kernel, rfl, by decide +kernel, by decide +kernel⟩
theorem ok_law_word (T : Txt K mg) (D_least_wares_X : Dfn P w K mg base (L2.CX P w) 10 "least_wares" ["web", "purse", "wish"] (sp3 (spX_ask K))) (D_fewest_stalls_X : Dfn P w K mg base (L2.CX P w) 10 "fewest_stalls" ["web", "purse", "wish"] (sp3 (spX_ask K))) (D_needed_X : Dfn P w K mg base (L2.CX P w) 10 "needed" ["web", "purse", "wish"] (sp3 (spX_ask K))) : Dfn P w K mg base CX0 11 "_law_word" ["_law_which", "_law_web", "_law_purse", "_law_wish"] (sp4 (sp_law_word K)) := by
  obtain ⟨fd, F⟩ := T.f_law_word
  refine ⟨T.g_law_word, F.kp, fd, fnok_of F sc_law_word (fun vs H Q E h => ?_) (fun vs H Q E h => ?_), F.binds (ps := ["_law_which", "_law_web", "_law_purse", "_law_wish"]) fun _ _ _ _ _ _ us hl => ?_⟩
  · obtain ⟨a1, a2, a3, a4, rfl, _⟩ := h
    rfl
  · obtain ⟨a1, a2, a3, a4, rfl, h⟩ := h
    intro cdv A outer s hr
    refine ⟨_, (pss_cons (ps_set (i := 4) sc_law_word.nd rfl (Or.inl rfl) pe_str)
      (pss_cons (ps_try_many rfl rfl takes0 (fun W pn xe tk po => (pss_one (ps_if (pt_cmpR op_eq (pv 0) pe_int (nomark _)) (pss_one (ps_expr (pe_callSD D_least_wares_X hr tk (pa_cons (pv 1) (pa_cons (pv 2) (pa_cons (pv 3) pa_nil)))))) (pss_one (ps_if (pt_cmpR op_eq (pv 0) pe_int (nomark _)) (pss_one (ps_expr (pe_callSD D_fewest_stalls_X hr tk (pa_cons (pv 1) (pa_cons (pv 2) (pa_cons (pv 3) pa_nil)))))) (pss_one (ps_expr (pe_callSD D_needed_X hr tk (pa_cons (pv 1) (pa_cons (pv 2) (pa_cons (pv 3) pa_nil))))))))))) (.cons ⟨rfl, by decide, .inl T.g_BadPurse⟩ (fun _ _ _ _ _ _ _ => (pss_one (ps_set (i := 4) sc_law_word.nd rfl (Or.inl rfl) pe_str))) (.cons ⟨rfl, by decide, .inl T.g_BadWish⟩ (fun _ _ _ _ _ _ _ => (pss_one (ps_set (i := 4) sc_law_word.nd rfl (Or.inl rfl) pe_str))) .nil)))
      (pss_one (ps_ret (pv 4))))), ?_⟩
    obtain ⟨wh, n, l, rfl, hw, h⟩ := h
    rcases h with ⟨p, vs, rfl, hp, hne, k⟩ | ⟨ps, p, vs, hnp, am, rfl, hp, hne, k⟩
    · have fin : ∀ (W : WX), True := fun _ => trivial
      refine ⟨_, rfl, rfl, _, rfl, ite2 (fun _ => ?_) (fun _ => ⟨_, rfl, rfl, _, rfl, ite2 (fun _ => ?_) (fun _ => ?_)⟩)⟩
      all_goals
        exact ⟨_, rfl, _, rfl, _, rfl, _, _, _, rfl, n, l, hw, .inl ⟨p, vs, rfl, hp, hne, fun H' s => ⟨true, T.x_BadPurse_BadPurse, fun _ a ha => ⟨_, rfl, k H' s⟩, fun h => by cases h⟩⟩⟩
    · refine ⟨_, rfl, rfl, _, rfl, ite2 (fun _ => ?_) (fun _ => ⟨_, rfl, rfl, _, rfl, ite2 (fun _ => ?_) (fun _ => ?_)⟩)⟩
      all_goals
        exact ⟨_, rfl, _, rfl, _, rfl, _, _, _, rfl, n, l, hw, .inr ⟨ps, p, vs, hnp, am, rfl, hp, hne, fun H' s => ⟨false, T.x_BadWish_BadPurse, (fun h => by cases h), fun _ => ⟨true, T.x_BadWish_BadWish, fun _ a ha => ⟨_, rfl, k H' s⟩, fun h => by cases h⟩⟩⟩⟩
  · obtain ⟨u1, u2, u3, u4, rfl⟩ := four4 hl
    rfl
end
end R25

set_option Elab.async false
set_option linter.all false
set_option maxRecDepth 100000
set_option maxHeartbeats 4000000
namespace R25
open PySem PySem.Spec PyProof.Rows L2
def sp_law (K : PySem.W.Frag) : F1 := fun a H Q _ => ∃ (p : Addr) (ns : List Int), a = .ref p ∧ SqL K H p (ns.map V.int) ∧ ns.length ≤ 63 ∧ ∀ H', Q (.bl true) H'
theorem small_frac {r d N : Nat} (hr : r ≤ N) (h1 : 1 ≤ d) (hd : d ≤ 4) : Bd D0 (N * 5040) (Rat.divInt (r : Int) (d : Int)) ∧ 0 ≤ Rat.divInt (r : Int) (d : Int) := by
  have := dv2 d (by omega) 1 (by decide) h1 (by decide)
  rw [Nat.mul_one] at this
  exact ⟨bd_dv h1 this hr, Rat.divInt_nonneg (by omega) (by omega)⟩
theorem ninth {r : Nat} (h : r < 9) : Bd D0 5040 (Rat.divInt 1 ((1 + r : Nat) : Int)) ∧ 0 ≤ Rat.divInt 1 ((1 + r : Nat) : Int) := by
  have : ∀ r, r < 9 → 5040 % (1 + r) = 0 := by decide
  exact ⟨bd_dv (n := 1) (N := 1) (by omega) (this r h) (Nat.le_refl _), Rat.divInt_nonneg (by omega) (by omega)⟩
theorem isF_one {H : Hp} {a : Addr} {r : Nat} (h : H a = some (.tup [.int 1, .int ((1 : Int) + (r : Int))])) : IsF H (.ref a) (Rat.divInt 1 ((1 + r : Nat) : Int)) := by
  refine ⟨a, rfl, ?_⟩
  have hp : (0 : Int) < ((1 + r : Nat) : Int) := by omega
  rw [frac_num hp, frac_den hp]
  have hg : Int.gcd 1 ((1 + r : Nat) : Int) = 1 := by simp
  rw [hg, h]
  simp
theorem all_str {s : Str} {acc : List V} {n : Nat} (hl : acc.length = n) (h : ∀ (k : Nat) (y : V), acc[k]? = some y → y = V.str s) : acc = List.replicate n (V.str s) := by
  apply List.ext_getElem?
  intro k
  by_cases hk : k < acc.length
  · rw [List.getElem?_replicate, if_pos (by omega)]
    have e := List.getElem?_eq_getElem hk
    rw [e, h k _ e]
  · rw [List.getElem?_eq_none (by omega), List.getElem?_eq_none (by simp; omega)]
def wordsD (n : Nat) : PyData := .list (List.replicate n (.str "purse") ++ List.replicate n (.str "wish"))
def wordsV (n : Nat) : List V := List.replicate n (.str "purse") ++ List.replicate n (.str "wish")
theorem dp_words {K : PySem.W.Frag} {H : Hp} {a : Addr} (h3 : n = 3 ∨ n = 2) (h : H a = some (.lst (wordsV n))) : Dp K H (.ref a) (wordsD n) := by
  rcases h3 with rfl | rfl
  · exact .lst (.inl (.inl h)) (.cons (.str _) (.cons (.str _) (.cons (.str _) (.cons (.str _) (.cons (.str _) (.cons (.str _) .nil))))))
  · exact .lst (.inl (.inl h)) (.cons (.str _) (.cons (.str _) (.cons (.str _) (.cons (.str _) .nil))))
theorem words_shaped (h3 : n = 3 ∨ n = 2) : SeqAt.shaped (wordsD n) = true := by
  rcases h3 with rfl | rfl
  · simp [wordsD, SeqAt.shaped, List.replicate, PyData.canLay0, PyData.canLayAll0, PyData.depth, PyData.depthAll] <;> decide +kernel
  · simp [wordsD, SeqAt.shaped, List.replicate, PyData.canLay0, PyData.canLayAll0, PyData.depth, PyData.depthAll] <;> decide +kernel
theorem Am.of {f : Nat → Rat} (h : ∀ k, Bd D0 11700000 (f k) ∧ 0 ≤ f k) : Am f := fun k => ⟨(h k).1.mono (by decide), (h k).2⟩
theorem edge_facts {H H' : Hp} {d : Addr} {v : V} (hf : FrD d H H') (hv : ∀ p, v = .ref p → p ≠ d) : ∀ {n f}, NumL H v n f → Keeps H H' → NumL H' v n f := fun ⟨p, vs, e, a, b, c⟩ kp => ⟨p, vs, e, hf _ _ a (hv p e), b, c.keep kp⟩
end R25

set_option Elab.async false
set_option linter.all false
set_option maxRecDepth 100000
set_option maxHeartbeats 8000000
namespace R25
open PySem PySem.Spec PyProof.Rows L2
section
variable {P : Program} {w : World} {K : PySem.W.Frag} {mg : Str → Option Value} {base : Heap}
theorem start_law (v : V) : L2.start ["_law_script", "_law_deck_here", "_law_fold_here", "_law_wares", "_law_many", "_law_stalls", "_law_web", "_law_purse", "_law_wish", "_law_more", "_law_edge_here", "_law_at", "_law_above", "_law_asked", "_law_words", "_law_turn", "_law_ware", "_law_which", "_law_pair"] [v] = [some v, none, none, none, none, none, none, none, none, none, none, none, none, none, none, none, none, none, none] := rfl
theorem sc_law : FnScope ["_law_script", "_law_deck_here", "_law_fold_here", "_law_wares", "_law_many", "_law_stalls", "_law_web", "_law_purse", "_law_wish", "_law_more", "_law_edge_here", "_law_at", "_law_above", "_law_asked", "_law_words", "_law_turn", "_law_ware", "_law_which", "_law_pair"] ["_law_script"] (defScope s_law) := ⟨rfl, rfl, rfl, by decide +kernel, rfl, by decide +kernel, by decide +kernel⟩
theorem ok_law (T : Txt K mg) (D_law_deck' : ∀ base, Dfn P w K mg base CX0 1 "_law_deck" ["_law_script"] (sp1 (sp_law_deck K))) (D_law_fold' : ∀ base, Dfn P w K mg base CX0 1 "_law_fold" ["_law_script"] (sp1 (sp_law_fold K))) (D_law_pick' : ∀ base, Dfn P w K mg base CX0 1 "_law_pick" ["_law_deck_here", "_law_many"] (sp2 sp_law_pick)) (D_law_stall' : ∀ base, Dfn P w K mg base CX0 4 "_law_stall" ["_law_deck_here", "_law_wares"] (sp2 sp_law_stall)) (K_Web' : ∀ base, Mkd P w K mg base CX0 6 "Web" ["self", "wares", "stalls"] (sp3 (sp_Web_init K))) (D_law_made' : ∀ base, Dfn P w K mg base CX0 2 "_law_made" ["_law_top", "_law_bottom"] (sp2 sp_law_made)) (D_law_is_well' : ∀ base, Dfn P w K mg base CX0 11 "_law_is_well" ["_law_web", "_law_stalls", "_law_purse", "_law_wish"] (sp4 (sp_law_is_well K))) (D_law_edge' : ∀ base, Dfn P w K mg base CX0 4 "_law_edge" ["_law_deck_here", "_law_wares", "_law_stalls", "_law_purse"] (sp4 sp_law_edge)) (D_law_added' : ∀ base, Dfn P w K mg base CX0 3 "_law_added" ["_law_one", "_law_other"] (sp2 sp_law_added)) (D_law_word' : ∀ base, Dfn P w K mg base CX0 11 "_law_word" ["_law_which", "_law_web", "_law_purse", "_law_wish"] (sp4 (sp_law_word K))) : ∃ fd, (∀ (s : Shared) (v : Value), BindsTo s fd ⟨[v], []⟩ [("_law_script", v)]) ∧ ∀ base, FnOk P w K mg base CX0 12 (He.ga K "law") fd ["_law_script"] (sp1 (sp_law K)) := by
  obtain ⟨fd, FD⟩ := T.says.def_ 62 (d := d_law) rfl
  have b := FunD.bindsA (ps := ["_law_script"]) FD fun _ _ _ _ _ _ us hl => match us, hl with | [_], _ => rfl
  have F : Fun K "law" "law" s_law (He.ga K "law") fd := He5.fun_of FD
  refine ⟨fd, fun s v => b s [v] rfl, fun base => ?_⟩
  have D_law_deck := D_law_deck' base
  have D_law_fold := D_law_fold' base
  have D_law_pick := D_law_pick' base
  have D_law_stall := D_law_stall' base
  have K_Web := K_Web' base
  have D_law_made := D_law_made' base
  have D_law_is_well := D_law_is_well' base
  have D_law_edge := D_law_edge' base
  have D_law_added := D_law_added' base
  have D_law_word := D_law_word' base
  refine fnok_of F sc_law (fun vs H Q E h => ?_) (fun vs H Q E h => ?_)
  · obtain ⟨a1, rfl, _⟩ := h
    rfl
  · obtain ⟨a1, rfl, h⟩ := h
    intro cdv A outer s hr
    refine ⟨_, (pss_cons (ps_set (i := 1) sc_law.nd rfl (Or.inr rfl) (pe_callD D_law_deck hr (pa_cons (pv 0) pa_nil)))
      (pss_cons (ps_set (i := 2) sc_law.nd rfl (Or.inl rfl) (pe_callD D_law_fold hr (pa_cons (pv 0) pa_nil)))
      (pss_cons (ps_set (i := 3) sc_law.nd rfl (Or.inr rfl) (pe_ix ix_list (pe_lst (pa_cons (pe_op op_add pe_int (pe_callD D_law_pick hr (pa_cons (pv 1) (pa_cons pe_int pa_nil)))) (pa_cons pe_int pa_nil))) (pe_callTy call_int1 (by rfl) T.b_int (by decide +kernel) (pa_cons (pe_cmpR op_eq (pe_op op_mod (pv 2) pe_int) pe_int (nomark _)) pa_nil)) (fun _ _ => rfl)))
      (pss_cons (ps_set (i := 4) sc_law.nd rfl (Or.inl rfl) (pe_op op_mul (pe_op op_add (pe_op op_add (pe_callD D_law_pick hr (pa_cons (pv 1) (pa_cons pe_int pa_nil))) (pe_op op_mul pe_int (pe_callTy call_int1 (by rfl) T.b_int (by decide +kernel) (pa_cons (pe_cmpR op_eq (pe_op op_mod (pv 2) pe_int) pe_int (nomark _)) pa_nil)))) (pe_op op_mul pe_int (pe_callTy call_int1 (by rfl) T.b_int (by decide +kernel) (pa_cons (pe_cmpR op_eq (pe_op op_mod (pv 2) pe_int) pe_int (nomark _)) pa_nil)))) (pe_callTy call_int1 (by rfl) T.b_int (by decide +kernel) (pa_cons (pe_cmpR op_gt (pv 3) pe_int (nomark _)) pa_nil))))
      (pss_cons (ps_setLc (i := 5) (own := [("_law_turn", 15)]) (g := gName 15) rfl sc_law.nd rfl rfl (sw_true rfl rfl rfl (by decide +kernel)) (pi_range1 rfl T.b_range (pa_cons (pv 4) pa_nil)) (blkOk_by (N := ["_law_script", "_law_deck_here", "_law_fold_here", "_law_wares", "_law_many", "_law_stalls", "_law_web", "_law_purse", "_law_wish", "_law_more", "_law_edge_here", "_law_at", "_law_above", "_law_asked", "_law_words", "_law_turn", "_law_ware", "_law_which", "_law_pair"]) (sc := defScope s_law) (by decide +kernel)) (fun _ _ _ _ _ => (pg_name (i := 15) sc_law.nd rfl (Or.inl rfl))) (fun _ _ _ _ _ => pts_nil) (fun _ _ _ _ _ => (pe_callD D_law_stall hr (pa_cons (pv 1) (pa_cons (pv 3) pa_nil)))))
      (pss_cons (ps_set (i := 6) sc_law.nd rfl (Or.inr rfl) (pe_makeD K_Web hr (pa_cons (pv 3) (pa_cons (pv 5) pa_nil))))
      (pss_cons (ps_set (i := 7) sc_law.nd rfl (Or.inr rfl) (pe_lc (own := [("_law_ware", 16)]) (g := gName 16) rfl sc_law.nd (pi_range1 rfl T.b_range (pa_cons (pv 3) pa_nil)) (blkOk_by (N := ["_law_script", "_law_deck_here", "_law_fold_here", "_law_wares", "_law_many", "_law_stalls", "_law_web", "_law_purse", "_law_wish", "_law_more", "_law_edge_here", "_law_at", "_law_above", "_law_asked", "_law_words", "_law_turn", "_law_ware", "_law_which", "_law_pair"]) (sc := defScope s_law) (by decide +kernel)) (fun _ _ _ _ _ => (pg_name (i := 16) sc_law.nd rfl (Or.inl rfl))) (fun _ _ _ _ _ => pts_nil) (fun _ _ _ _ _ => (pe_callD D_law_made hr (pa_cons (pe_callD D_law_pick hr (pa_cons (pv 1) (pa_cons pe_int pa_nil))) (pa_cons (pe_op op_add pe_int (pe_callD D_law_pick hr (pa_cons (pv 1) (pa_cons pe_int pa_nil)))) pa_nil))))))
      (pss_cons (ps_set (i := 8) sc_law.nd rfl (Or.inr rfl) (pe_lc (own := [("_law_ware", 16)]) (g := gName 16) rfl sc_law.nd (pi_range1 rfl T.b_range (pa_cons (pv 3) pa_nil)) (blkOk_by (N := ["_law_script", "_law_deck_here", "_law_fold_here", "_law_wares", "_law_many", "_law_stalls", "_law_web", "_law_purse", "_law_wish", "_law_more", "_law_edge_here", "_law_at", "_law_above", "_law_asked", "_law_words", "_law_turn", "_law_ware", "_law_which", "_law_pair"]) (sc := defScope s_law) (by decide +kernel)) (fun _ _ _ _ _ => (pg_name (i := 16) sc_law.nd rfl (Or.inl rfl))) (fun _ _ _ _ _ => pts_nil) (fun _ _ _ _ _ => (pe_callD D_law_made hr (pa_cons (pe_callD D_law_pick hr (pa_cons (pv 1) (pa_cons pe_int pa_nil))) (pa_cons (pe_op op_add pe_int (pe_callD D_law_pick hr (pa_cons (pv 1) (pa_cons pe_int pa_nil)))) pa_nil))))))
      (pss_cons (ps_if (pt_not (pt_val (pe_callD D_law_is_well hr (pa_cons (pv 6) (pa_cons (pv 5) (pa_cons (pv 7) (pa_cons (pv 8) pa_nil))))))) (pss_one (ps_ret pe_bl)) pss_nil)
      (pss_cons (ps_asg (pe_callD D_law_edge hr (pa_cons (pv 1) (pa_cons (pv 3) (pa_cons (pv 5) (pa_cons (pv 7) pa_nil))))) (pg_lst rfl (pgs_cons (pg_name (i := 9) sc_law.nd rfl (Or.inl rfl)) (pgs_cons (pg_name (i := 10) sc_law.nd rfl (Or.inl rfl)) pgs_nil))))
      (pss_cons (ps_if (pt_cmpR op_lt (pe_callB (cr_max rfl) (by rfl) T.b_max (by decide +kernel) (pa_cons (pe_lc (own := [("_law_pair", 18)]) (g := gName 18) rfl sc_law.nd (pi_list (pe_op op_cat (pv 9) (pv 10))) (blkOk_by (N := ["_law_script", "_law_deck_here", "_law_fold_here", "_law_wares", "_law_many", "_law_stalls", "_law_web", "_law_purse", "_law_wish", "_law_more", "_law_edge_here", "_law_at", "_law_above", "_law_asked", "_law_words", "_law_turn", "_law_ware", "_law_which", "_law_pair"]) (sc := defScope s_law) (by decide +kernel)) (fun _ _ _ _ _ => (pg_name (i := 18) sc_law.nd rfl (Or.inl rfl))) (fun _ _ _ _ _ => pts_nil) (fun _ _ _ _ _ => (pe_callB (cr_maxTK (K := K) hr) (by rfl) T.b_max (by decide +kernel) (pa_cons (pv 18) pa_nil)))) pa_nil)) (pe_op op_pow pe_int pe_int) (nomark _)) (pss_cons (ps_set (i := 11) sc_law.nd rfl (Or.inl rfl) (pe_callD D_law_pick hr (pa_cons (pv 1) (pa_cons (pv 3) pa_nil))))
      (pss_cons (ps_set (i := 12) sc_law.nd rfl (Or.inl rfl) (pe_callTy call_list_of (by rfl) T.b_list (by decide +kernel) (pa_cons (pv 10) pa_nil)))
      (pss_cons (ps_asg (pe_callD D_law_added hr (pa_cons (pe_ix ix_list (pv 10) (pv 11) (fun _ _ => rfl)) (pa_cons (pe_tup (pa_cons pe_int (pa_cons (pe_op op_add pe_int (pe_callD D_law_pick hr (pa_cons (pv 1) (pa_cons pe_int pa_nil)))) pa_nil))) pa_nil))) (pg_sub (pv 12) (pv 11) set_list))
      (pss_one (ps_if (PW.pt (pw_or (pt_not (pt_val (pe_callD D_law_is_well hr (pa_cons (pv 6) (pa_cons (pv 5) (pa_cons (pv 9) (pa_cons (pv 10) pa_nil))))))) (pw_or1 (pt_not (pt_val (pe_callD D_law_is_well hr (pa_cons (pv 6) (pa_cons (pv 5) (pa_cons (pv 9) (pa_cons (pv 12) pa_nil)))))))))) (pss_one (ps_ret pe_bl)) pss_nil))))) pss_nil)
      (pss_cons (ps_set (i := 13) sc_law.nd rfl (Or.inl rfl) (pe_lst (pa_cons pe_int (pa_cons pe_int (pa_cons pe_int pa_nil)))))
      (pss_cons (ps_if (pt_cmpR op_gt (pe_callB call_len_seq (by rfl) T.b_len (by decide +kernel) (pa_cons (pv 5) pa_nil)) pe_int (nomark _)) (pss_one (ps_set (i := 13) sc_law.nd rfl (Or.inl rfl) (pe_lst (pa_cons pe_int (pa_cons pe_int pa_nil))))) pss_nil)
      (pss_cons (ps_setLc (i := 14) (own := [("_law_which", 17)]) (g := gName 17) rfl sc_law.nd rfl rfl (sw_true rfl rfl rfl (by decide +kernel)) (pi_list (pv 13)) (blkOk_by (N := ["_law_script", "_law_deck_here", "_law_fold_here", "_law_wares", "_law_many", "_law_stalls", "_law_web", "_law_purse", "_law_wish", "_law_more", "_law_edge_here", "_law_at", "_law_above", "_law_asked", "_law_words", "_law_turn", "_law_ware", "_law_which", "_law_pair"]) (sc := defScope s_law) (by decide +kernel)) (fun _ _ _ _ _ => (pg_name (i := 17) sc_law.nd rfl (Or.inl rfl))) (fun _ _ _ _ _ => pts_nil) (fun _ _ _ _ _ => (pe_callD D_law_word hr (pa_cons (pv 17) (pa_cons (pv 6) (pa_cons (pe_slice (sl_listK (K := K)) (pv 7) (po_some pe_int) po_none) (pa_cons pe_non pa_nil)))))))
      (pss_cons (ps_set (i := 14) sc_law.nd rfl (Or.inl rfl) (pe_op op_cat (pv 14) (pe_lc (own := [("_law_which", 17)]) (g := gName 17) rfl sc_law.nd (pi_list (pv 13)) (blkOk_by (N := ["_law_script", "_law_deck_here", "_law_fold_here", "_law_wares", "_law_many", "_law_stalls", "_law_web", "_law_purse", "_law_wish", "_law_more", "_law_edge_here", "_law_at", "_law_above", "_law_asked", "_law_words", "_law_turn", "_law_ware", "_law_which", "_law_pair"]) (sc := defScope s_law) (by decide +kernel)) (fun _ _ _ _ _ => (pg_name (i := 17) sc_law.nd rfl (Or.inl rfl))) (fun _ _ _ _ _ => pts_nil) (fun _ _ _ _ _ => (pe_callD D_law_word hr (pa_cons (pv 17) (pa_cons (pv 6) (pa_cons (pv 7) (pa_cons (pe_op op_cat (pv 8) (pe_lst (pa_cons (pe_tup (pa_cons pe_int (pa_cons pe_int pa_nil))) pa_nil))) pa_nil)))))))))
      (pss_one (ps_ret (pe_cmpR (op_eqD hr.units) (pv 14) (pe_op op_cat (pe_op op_rep (pe_lst (pa_cons pe_str pa_nil)) (pe_callB call_len_seq (by rfl) T.b_len (by decide +kernel) (pa_cons (pv 13) pa_nil))) (pe_op op_rep (pe_lst (pa_cons pe_str pa_nil)) (pe_callB call_len_seq (by rfl) T.b_len (by decide +kernel) (pa_cons (pv 13) pa_nil)))) (nomark _))))))))))))))))))), ?_⟩
    obtain ⟨p0, ns, rfl, hp0, hl0, k⟩ := h
    rw [start_law]
    refine ⟨_, rfl, _, rfl, p0, ns, rfl, hp0, hl0, fun d c H1 fd s1 d1 => ⟨_, rfl, _, rfl, p0, ns, rfl, SqL.ext hp0 s1, hl0, fun f H2 s2 => ?_⟩⟩
    try dsimp only [gName, List.set_cons_succ, List.set_cons_zero]
    have d2 := d1.up s2
    refine ⟨_, rfl, _, _, rfl, d, c, 5, rfl, d2, rfl, by decide, by decide, fun r1 H3 h1 f3 d3 => ⟨_, _, rfl, rfl, (by show 2 ≤ sizeLine; decide), fun t ft => ?_⟩⟩
    have s4 := Same.new (o := .lst [.int (1 + (r1 : Int)), .int 8]) ft
    have d4 := d3.up s4
    obtain ⟨n, hn, n1, n8⟩ : ∃ n : Nat, atI [V.int (1 + (r1 : Int)), V.int 8] (if decide (V.int (f % 12) = V.int 2) = true then 1 else 0) = some (V.int (n : Int)) ∧ 1 ≤ n ∧ n ≤ 8 := by
      by_cases e : decide (V.int (f % 12) = V.int 2) = true
      · rw [if_pos e]
        exact ⟨8, rfl, by decide, by decide⟩
      · rw [if_neg e]
        exact ⟨1 + r1, rfl, by omega, by omega⟩
    refine ⟨_, rfl, _, _, rfl, rfl, (by show (0 : Int) < 12; decide), rfl, .inr ⟨_, rfl, _, _, _, _, rfl, rfl, .inl (.inl upd_same), hn, ?_⟩⟩
    try dsimp only [gName, List.set_cons_succ, List.set_cons_zero]
    refine ⟨_, rfl, _, _, rfl, d, c, 7, rfl, d4, rfl, by decide, by decide, fun r2 H5 h2 f5 d5 => ?_⟩
    refine ⟨_, rfl, _, _, rfl, rfl, (by show (0 : Int) < 12; decide), rfl, .inr ⟨_, rfl, _, _, rfl, rfl, .inl (by decide), _, _, rfl, rfl, _, rfl, _, _, rfl, rfl, (by show (0 : Int) < 12; decide), rfl, .inr ⟨_, rfl, _, _, rfl, rfl, .inl (by decide), _, _, rfl, rfl, _, rfl, _, _, rfl, rfl, .inr ⟨_, rfl, _, _, rfl, rfl, .inr ?_, ?_⟩⟩⟩⟩
    · split <;> decide
    try dsimp only [gName, List.set_cons_succ, List.set_cons_zero]
    obtain ⟨mn, emn, m16, m2⟩ : ∃ mn : Nat, ((r2 : Int) + 2 * (if decide (V.int (f % 12) = V.int 1) = true then 1 else 0) + 10 * (if decide (V.int (f % 12) = V.int 2) = true then 1 else 0)) * (if decide ((1 : Int) < (n : Int)) = true then 1 else 0) = (mn : Int) ∧ mn ≤ 16 ∧ (0 < mn → 2 ≤ n) := by
      by_cases e3 : (1 : Int) < (n : Int)
      · rw [decide_eq_true e3, if_pos rfl, Int.mul_one]
        by_cases e1 : decide (V.int (f % 12) = V.int 1) = true
        · have e2 : ¬ decide (V.int (f % 12) = V.int 2) = true := fun e2 => by
            have a1 := of_decide_eq_true e1
            have a2 := of_decide_eq_true e2
            injection a1 with a1
            injection a2 with a2
            omega
          rw [if_pos e1, if_neg e2]
          exact ⟨r2 + 2, by omega, by omega, fun _ => by omega⟩
        · rw [if_neg e1]
          by_cases e2 : decide (V.int (f % 12) = V.int 2) = true
          · rw [if_pos e2]
            exact ⟨r2 + 10, by omega, by omega, fun _ => by omega⟩
          · rw [if_neg e2]
            exact ⟨r2, by omega, by omega, fun _ => by omega⟩
      · refine ⟨0, ?_, by decide, fun h => absurd h (by decide)⟩
        rw [decide_eq_false e3]
        exact Int.mul_zero _
    refine ⟨_, rfl, (mn : Int), by show [V.int _] = [V.int (mn : Int)]; rw [← emn], by omega, by omega, fun D fD => ?_⟩
    rw [Int.toNat_natCast]
    have hDn := d5.ne fD
    refine lcm_range (n := mn) (fun _ H' => FrD d H5 H' ∧ DeckAt H' d c) (fun k y H => ∃ t, IsS H y t ∧ OkS n t ∧ Sm 6 4 t.r) (Nat.lt_of_lt_of_le (show mn < 17 by omega) (by decide)) (fun _ _ _ _ s ⟨t, a, b⟩ => ⟨t, a.keep s, b⟩) ⟨FrD.of (Same.new fD), d5.up (Same.new fD)⟩ (fun _ _ _ _ ⟨f, d⟩ _ => ⟨FrD.mine f fD, d.mut hDn.1 hDn.2⟩) ?_ ?_
    · rintro i H' acc hi ⟨f', d'⟩ hD hl C hC
      exact ⟨rfl, _, rfl, _, rfl, _, _, rfl, d, c, n, rfl, d', rfl, m2 (by omega), n8, fun v t H6 h1 h2 f6 d6 h3 => hC v H6 (f6 _ _ hD hDn.1) (FrD.keeps f6 d') ⟨FrD.trans f' f6, d6⟩ ⟨t, h3, h1, h2⟩⟩
    rintro H6 vl ⟨f6, d6⟩ hql hvll hvlr
    try dsimp only [gName, List.set_cons_succ, List.set_cons_zero]
    obtain ⟨l, hvl, hlall⟩ := ItS.of hvlr
    have hll := hvl.len
    have ok : OkW n l := ⟨n1, n8, by omega, fun t ht => (hlall t ht).1⟩
    have hsm : ∀ t ∈ l, Sm 6 4 t.r := fun t ht => (hlall t ht).2
    refine ⟨_, rfl, _, rfl, ?_⟩
    intro x dx nx ndx hne
    have sX : Same H6 (upd (upd H6 dx (.own x)) x (.ins (CW K) dx [])) := Same.trans (Same.new ndx) (Same.new (by rw [upd_ne (fun e => hne e.symm)]; exact nx))
    refine ⟨_, _, _, rfl, x, dx, D, vl, n, l, rfl, upd_same, rfl, rfl, sX _ _ hql, hvl.keep (Keeps.of sX), ok, fun q' H7 e1 e2 kk => ⟨rfl, ?_⟩⟩
    try dsimp only [gName, List.set_cons_succ, List.set_cons_zero]
    have s7 : Same H6 H7 := fun y o hy => kk y o (sX _ _ hy) (ne_of_none hy nx)
    have hw7 : WebAt K H7 (.ref x) n l := ⟨ok, x, dx, q', vl, rfl, e1, .inl (.inl e2), hvl.keep (Keeps.of s7)⟩
    have hql7 := s7 _ _ hql
    have hvl7 := hvl.keep (Keeps.of s7)
    have d7 := d6.up s7
    clear kk e1 e2 sX hne ndx nx
    refine ⟨_, rfl, _, rfl, by omega, by omega, fun qp fqp => ?_⟩
    have hqpn := d7.ne fqp
    refine lcm_range (n := n) (fun _ H' => FrD d H7 H' ∧ DeckAt H' d c) (fun k y H => ∃ q, IsF H y q ∧ (Bd D0 20160 q ∧ 0 ≤ q)) (Nat.lt_of_le_of_lt n8 (by decide)) (fun _ _ _ _ s ⟨t, a, b⟩ => ⟨t, a.keep s, b⟩) ⟨FrD.of (Same.new fqp), d7.up (Same.new fqp)⟩ (fun _ _ _ _ ⟨f, d⟩ _ => ⟨FrD.mine f fqp, d.mut hqpn.1 hqpn.2⟩) ?_ ?_
    · rintro i H' acc hi ⟨f', d'⟩ hD hl C hC
      refine ⟨rfl, _, rfl, _, _, rfl, d, c, 5, rfl, d', rfl, by decide, by decide, fun z1 G1 hz1 g1 e1 => ⟨_, rfl, _, _, rfl, d, c, 3, rfl, e1, rfl, by decide, by decide, fun z2 G2 hz2 g2 e2 => ⟨_, _, rfl, rfl, _, _, rfl, _, _, rfl, rfl, by omega, small_big (by omega), fun v G3 s3 hv => ?_⟩⟩⟩
      have gg := FrD.trans g1 (FrD.trans g2 (FrD.of s3))
      exact hC v G3 (gg _ _ hD hqpn.1) (FrD.keeps gg d') ⟨FrD.trans f' gg, e2.up s3⟩ ⟨_, by simpa using hv, by have := small_frac (r := z1) (d := 1 + z2) (N := 4) (by omega) (by omega) (by omega); simpa using this⟩
    rintro H8 vp ⟨f8, d8⟩ hqp hpl hpr
    try dsimp only [gName, List.set_cons_succ, List.set_cons_zero]
    obtain ⟨ps, hpf, hps⟩ := ItF.of (Pr := fun q => Bd D0 20160 q ∧ 0 ≤ q) ⟨Bd.zero, Rat.le_refl⟩ hpr
    have kp8 := FrD.keeps f8 d7
    have hDd : D ≠ d := hDn.1
    refine ⟨_, rfl, _, rfl, by omega, by omega, fun qw fqw => ?_⟩
    have hqwn := d8.ne fqw
    refine lcm_range (n := n) (fun _ H' => FrD d H8 H' ∧ DeckAt H' d c) (fun k y H => ∃ q, IsF H y q ∧ (Bd D0 25200 q ∧ 0 ≤ q)) (Nat.lt_of_le_of_lt n8 (by decide)) (fun _ _ _ _ s ⟨t, a, b⟩ => ⟨t, a.keep s, b⟩) ⟨FrD.of (Same.new fqw), d8.up (Same.new fqw)⟩ (fun _ _ _ _ ⟨f, d⟩ _ => ⟨FrD.mine f fqw, d.mut hqwn.1 hqwn.2⟩) ?_ ?_
    · rintro i H' acc hi ⟨f', d'⟩ hD hl C hC
      refine ⟨rfl, _, rfl, _, _, rfl, d, c, 6, rfl, d', rfl, by decide, by decide, fun z1 G1 hz1 g1 e1 => ⟨_, rfl, _, _, rfl, d, c, 3, rfl, e1, rfl, by decide, by decide, fun z2 G2 hz2 g2 e2 => ⟨_, _, rfl, rfl, _, _, rfl, _, _, rfl, rfl, by omega, small_big (by omega), fun v G3 s3 hv => ?_⟩⟩⟩
      have gg := FrD.trans g1 (FrD.trans g2 (FrD.of s3))
      exact hC v G3 (gg _ _ hD hqwn.1) (FrD.keeps gg d') ⟨FrD.trans f' gg, e2.up s3⟩ ⟨_, by simpa using hv, by have := small_frac (r := z1) (d := 1 + z2) (N := 5) (by omega) (by omega) (by omega); simpa using this⟩
    rintro H9 vw ⟨f9, d9⟩ hqw hwl hwr
    try dsimp only [gName, List.set_cons_succ, List.set_cons_zero]
    obtain ⟨ws, hwf, hws⟩ := ItF.of (Pr := fun q => Bd D0 25200 q ∧ 0 ≤ q) ⟨Bd.zero, Rat.le_refl⟩ hwr
    have kp9 := FrD.keeps f9 d8
    have hql9 := f9 _ _ (f8 _ _ hql7 hDd) hDd
    have hqp9 := f9 _ _ hqp hqpn.1
    have hvl9 := (hvl7.keep kp8).keep kp9
    have hw9 : WebAt K H9 (.ref x) n l := (hw7.keep kp8).keep kp9
    have np9 : NumL H9 (.ref qp) n ps := ⟨qp, vp, rfl, hqp9, hpl, hpf.keep kp9⟩
    have nw9 : NumL H9 (.ref qw) n ws := ⟨qw, vw, rfl, hqw, hwl, hwf⟩
    have st9 : StL H9 (.ref D) l := ⟨D, vl, rfl, hql9, hvl9⟩
    have aps : Am ps := fun k => ⟨(hps k).1.mono (by decide), (hps k).2⟩
    have aws : Am ws := fun k => ⟨(hws k).1.mono (by decide), (hws k).2⟩
    refine ⟨_, rfl, _, rfl, _, rfl, _, rfl, _, _, _, _, rfl, n, l, ps, ws, hw9, ⟨st9, ok, np9, nw9, aps.amt, aws.amt⟩, aps, aws, fun H10 s10 => ⟨_, rfl, iteN rfl ?_⟩⟩
    have d10 := d9.up s10
    refine ⟨_, rfl, _, rfl, _, rfl, _, rfl, _, _, _, _, rfl, d, c, n, l, ps, rfl, d10, rfl, st9.up s10, ok, hsm, np9.up s10, hps, fun q vs e _ => (by cases e; exact hDd), fun q e => (by cases e; exact hqpn.1), fun pe pm pw f1 f2 H11 f11 d11 hpe nm nwe am1 am2 n1' n2' n3' => ?_⟩
    have kp11 := FrD.keeps f11 d10
    obtain ⟨_, vm, e, hpm, hml, hmf⟩ := nm
    cases e
    obtain ⟨_, ve, e, hpw, hel, hef⟩ := nwe
    cases e
    have hqlX := f11 _ _ (s10 _ _ hql9) hDd
    have hqpX := f11 _ _ (s10 _ _ hqp9) hqpn.1
    have hqwX := f11 _ _ (s10 _ _ hqw) hqwn.1
    have hwX := (hw9.up s10).keep kp11
    have npX : NumL H11 (.ref qp) n ps := ⟨qp, vp, rfl, hqpX, hpl, ((hpf.keep kp9).keep (Keeps.of s10)).keep kp11⟩
    have stX : StL H11 (.ref D) l := ⟨D, vl, rfl, hqlX, (hvl9.keep (Keeps.of s10)).keep kp11⟩
    have nmX : NumL H11 (.ref pm) n f1 := ⟨pm, vm, rfl, hpm, hml, hmf⟩
    have neX : NumL H11 (.ref pw) n f2 := ⟨pw, ve, rfl, hpw, hel, hef⟩
    refine ⟨_, _, rfl, .inl (.inl hpe), rfl, _, _, rfl, _, _, rfl, rfl, ?_⟩
    try dsimp only [gName, List.set_cons_succ, List.set_cons_zero]
    refine ⟨_, rfl, _, rfl, _, _, _, _, rfl, rfl, hpm, hpw, ?_, fun p12 f12 => ?_⟩
    · rw [hml, hel]
      exact Nat.le_trans (show n + n ≤ 16 by omega) (by decide)
    have s12 := Same.new (o := .lst (vm ++ ve)) f12
    refine ⟨_, rfl, ⟨_, .inl (.inl upd_same)⟩, fun D3 fD3 => ?_⟩
    have hvv : ∀ (i : Nat) (y : V), (vm ++ ve)[i]? = some y → ∃ q, IsF H11 y q := fun i y e => by
      by_cases hi : i < vm.length
      · rw [List.getElem?_append_left hi] at e
        exact ⟨_, hmf i y e⟩
      · rw [List.getElem?_append_right (by omega)] at e
        exact ⟨_, hef _ y e⟩
    have hvvl : (vm ++ ve).length = n + n := by rw [List.length_append, hml, hel]
    refine lcm_list (xs := vm ++ ve) (fun _ H' => Same (upd H11 p12 (.lst (vm ++ ve))) H') (fun _ y _ => ∃ z : Int, y = .int z) (by rw [hvvl]; exact Nat.lt_of_lt_of_le (show n + n < 17 by omega) (by decide)) (fun _ _ _ _ _ h => h) (Same.new fD3) (fun _ _ _ s => .inl (.inl (s _ _ upd_same))) (fun _ _ _ _ s _ => Same.mut s fD3) ?_ ?_
    · rintro i y H' acc hy s' hD' hl' C hC
      obtain ⟨q, py, rfl, hpy⟩ := hvv i y hy
      exact ⟨rfl, _, rfl, _, _, [_], rfl, .inl (.inl (s' _ _ (s12 _ _ hpy))), hC _ _ hD' Keeps.rfl' s' ⟨_, rfl⟩⟩
    rintro H13 acc3 s13 hD3 hl3 hR3
    obtain ⟨zs, rfl⟩ := ints_of hR3
    rw [List.length_map, hvvl] at hl3
    have s113 := Same.trans s12 s13
    refine ⟨_, zs, rfl, .inl (.inl hD3), by omega, fun mx _ _ => ⟨_, _, rfl, rfl, ⟨by decide, by decide, by decide⟩, _, _, rfl, rfl, _, rfl, ite2 (fun _ => ?_) (fun _ => ?_)⟩⟩
    · have d13 := d11.up s113
      refine ⟨_, rfl, _, rfl, _, _, rfl, d, c, n, rfl, d13, rfl, n1, by omega, fun ra H14 hra f14 d14 => ?_⟩
      try dsimp only [gName, List.set_cons_succ, List.set_cons_zero]
      have kp14 := FrD.keeps f14 d13
      have hpw14 := f14 _ _ (s113 _ _ hpw) n3'
      refine ⟨_, rfl, _, ve, rfl, .inl (.inl (.inl hpw14)), fun qx fqx => ?_⟩
      try dsimp only [gName, List.set_cons_succ, List.set_cons_zero]
      have s15 := Same.new (o := .lst ve) fqx
      have d15 := d14.up s15
      have hqxd := (d14.ne fqx)
      have eA := List.getElem?_eq_getElem (l := ve) (by rw [hel]; exact hra)
      refine ⟨_, rfl, _, rfl, _, _, _, _, rfl, rfl, .inl (.inl (s15 _ _ hpw14)), (atI_nat eA), _, rfl, _, _, rfl, d, c, 9, rfl, d15, rfl, by decide, by decide, fun rb H16 hrb f16 d16 => ⟨_, _, rfl, rfl, (by show 2 ≤ sizeLine; decide), fun tt ftt => ?_⟩⟩
      have s17 := Same.new (o := .tup [.int 1, .int ((1 : Int) + (rb : Int))]) ftt
      have kp16 := FrD.keeps f16 d15
      have kpE : Keeps H11 H16 := Keeps.trans (Keeps.of s113) (Keeps.trans kp14 (Keeps.trans (Keeps.of s15) kp16))
      have hx16 : H16 qx = some (.lst ve) := f16 _ _ upd_same hqxd.1
      refine ⟨_, _, rfl, _, _, ((hef ra _ eA).keep kpE).up s17, isF_one upd_same, ((am2 ra).1).ok0 (by decide), (ninth hrb).1.ok0 (by decide), fun va H18 s18 hva => ?_⟩
      have s68 := Same.trans s17 s18
      refine ⟨_, rfl, _, rfl, _, _, _, _, rfl, rfl, (s68 _ _ hx16), Evl.ixN_nat (by omega), ?_⟩
      have kp19 := Keeps.upd (o := .lst (ve.set ra va)) (s68 _ _ hx16) rfl
      have fqx11 : H11 qx = none := by
        have h1 : H13 qx = none := by
          cases e : H13 qx with
          | none => rfl
          | some o =>
            have := f14 _ _ e hqxd.1
            rw [fqx] at this
            cases this
        exact Same.free s113 h1
      have fr1 : ∀ y o, H11 y = some o → y ≠ d → (upd H18 qx (.lst (ve.set ra va))) y = some o := fun y o hy hn => by
        rw [upd_ne (ne_of_none hy fqx11)]
        exact s68 _ _ (f16 _ _ (s15 _ _ (f14 _ _ (s113 _ _ hy) hn)) hn)
      have kpT : Keeps H11 (upd H18 qx (.lst (ve.set ra va))) := Keeps.trans kpE (Keeps.trans (Keeps.of s68) kp19)
      have nx19 : NumL (upd H18 qx (.lst (ve.set ra va))) (.ref qx) n _ := ⟨qx, _, rfl, upd_same, by simp [hel], (((hef.keep kpE).keep (Keeps.of s68)).set (i := ra) hva).keep kp19⟩
      generalize hH19 : upd H18 qx (.lst (ve.set ra va)) = H19
      rw [hH19] at fr1 kpT nx19
      clear hH19 kp19
      have ax : Am (fun k => if k = ra then f2 ra + Rat.divInt 1 ((1 + rb : Nat) : Int) else f2 k) := fun k => by
        show Bd D0 _ (if k = ra then _ else _) ∧ 0 ≤ (if k = ra then _ else _)
        by_cases e : k = ra
        · rw [if_pos e]
          exact ⟨((am2 ra).1.add (ninth hrb).1).mono (by decide), Rat.add_nonneg (am2 ra).2 (ninth hrb).2⟩
        · rw [if_neg e]
          exact Am.of am2 k
      have hql19 := fr1 _ _ hqlX hDd
      have hqp19 := fr1 _ _ hqpX hqpn.1
      have hqw19 := fr1 _ _ hqwX hqwn.1
      have hw19 := hwX.keep kpT
      have np19 : NumL H19 (.ref qp) n ps := ⟨qp, vp, rfl, hqp19, hpl, (((hpf.keep kp9).keep (Keeps.of s10)).keep kp11).keep kpT⟩
      have st19 : StL H19 (.ref D) l := ⟨D, vl, rfl, hql19, ((hvl9.keep (Keeps.of s10)).keep kp11).keep kpT⟩
      have nm19 : NumL H19 (.ref pm) n f1 := ⟨pm, vm, rfl, fr1 _ _ hpm n2', hml, hmf.keep kpT⟩
      have ne19 : NumL H19 (.ref pw) n f2 := ⟨pw, ve, rfl, fr1 _ _ hpw n3', hel, hef.keep kpT⟩
      refine ⟨_, rfl, _, rfl, _, rfl, _, rfl, _, _, _, _, rfl, n, l, f1, f2, hw19, ⟨st19, ok, nm19, ne19, (Am.of am1).amt, (Am.of am2).amt⟩, Am.of am1, Am.of am2, fun H20 s20 => ⟨_, rfl, iteN rfl ?_⟩⟩
      refine ⟨_, rfl, _, rfl, _, rfl, _, rfl, _, _, _, _, rfl, n, l, f1, _, hw19.up s20, ⟨st19.up s20, ok, nm19.up s20, nx19.up s20, (Am.of am1).amt, ax.amt⟩, Am.of am1, ax, fun H21 s21 => ⟨_, rfl, iteN rfl ?_⟩⟩
      have s1921 := Same.trans s20 s21
      have hqlX := s1921 _ _ hql19
      have hqpX := s1921 _ _ hqp19
      have hqwX := s1921 _ _ hqw19
      have hwX := hw19.up s1921
      have npX := np19.up s1921
      have tailmark := trivial
      refine ⟨(by show 3 ≤ sizeLine; decide), fun qb fb => ?_⟩
      try dsimp only [gName, List.set_cons_succ, List.set_cons_zero]
      have sb := Same.new (o := .lst [.int 0, .int 1, .int 2]) fb
      refine ⟨_, rfl, _, _, rfl, .inl (.inl (.inl (sb _ _ hqlX))), _, _, rfl, rfl, _, rfl, ite2 (fun _ => ?_) (fun _ => ?_)⟩
      · refine ⟨(by show 2 ≤ sizeLine; decide), fun qa fa => ?_⟩
        try dsimp only [gName, List.set_cons_succ, List.set_cons_zero]
        have sa := Same.trans sb (Same.new (o := .lst (natsV [0, 2])) fa)
        have hqpA := sa _ _ hqpX
        have hqwA := sa _ _ hqwX
        have hwA := hwX.up sa
        have npA := npX.up sa
        refine ⟨_, rfl, _, rfl, ⟨_, .inl (.inl (upd_same : upd (upd H21 qb (.lst [.int 0, .int 1, .int 2])) qa (.lst (natsV [0, 2])) qa = some (.lst (natsV [0, 2]))))⟩, fun D1 fD1 => ?_⟩
        refine lcm_list (xs := natsV [0, 2]) (fun _ H' => Same (upd (upd H21 qb (.lst [.int 0, .int 1, .int 2])) qa (.lst (natsV [0, 2]))) H') (fun _ y _ => y = V.str "purse") (by rw [natsV_len]; decide) (fun _ _ _ _ _ h => h) (Same.new fD1) (fun _ _ _ s => .inl (.inl (s _ _ upd_same))) (fun _ _ _ _ s _ => Same.mut s fD1) ?_ ?_
        · rintro i x H' acc hx s' hD' hl' C hC
          obtain ⟨u, _, rfl⟩ := natsV_at hx
          refine ⟨rfl, _, rfl, _, rfl, _, rfl, _, rfl, _, _, rfl, .inl (.inl (s' _ _ (hqpA))), fun p1 f1 => ?_⟩
          have s1' := Same.new (o := .lst (cutV vp (some (1 : Int)) none)) f1
          have hcl : (cutV vp (some (1 : Int)) none).length = n - 1 := by rw [show (1 : Int) = ((1 : Nat) : Int) from rfl, cutV_drop, List.length_drop, hpl]
          exact ⟨_, _, _, _, rfl, (u : Int), n, l, rfl, (hwA.keep (Keeps.of s')).up s1', .inl ⟨p1, _, rfl, upd_same, by rw [hcl]; omega, fun H'' s'' => hC _ _ (s'' _ _ (s1' _ _ hD')) (Keeps.of (Same.trans s1' s'')) (Same.trans s' (Same.trans s1' s'')) rfl⟩⟩
        rintro HB acc1 sB hD1 hl1 hR1
        try dsimp only [gName, List.set_cons_succ, List.set_cons_zero]
        rw [natsV_len] at hl1
        have ea1 : acc1 = List.replicate 2 (.str "purse") := all_str (by rw [hl1]; rfl) hR1
        subst ea1
        refine ⟨_, rfl, _, rfl, _, rfl, ⟨_, .inl (.inl (sB _ _ upd_same))⟩, fun D2 fD2 => ?_⟩
        refine lcm_list (xs := natsV [0, 2]) (fun _ H' => Same HB H') (fun _ y _ => y = V.str "wish") (by rw [natsV_len]; decide) (fun _ _ _ _ _ h => h) (Same.new fD2) (fun _ _ _ s => .inl (.inl (s _ _ (sB _ _ upd_same)))) (fun _ _ _ _ s _ => Same.mut s fD2) ?_ ?_
        · rintro i x H' acc hx s' hD' hl' C hC
          obtain ⟨u, _, rfl⟩ := natsV_at hx
          have sBB := Same.trans sB s'
          refine ⟨rfl, _, rfl, _, rfl, _, rfl, _, rfl, (by show 2 ≤ sizeLine; decide), fun t1 ft1 => ⟨(by show 1 ≤ sizeLine; decide), fun p1 f1 => ⟨_, _, vw, _, rfl, rfl, ?_, upd_same, ?_, fun p2 f2 => ?_⟩⟩⟩
          · exact Same.new f1 _ _ (Same.new ft1 _ _ (sBB _ _ hqwA))
          · rw [hwl]
            exact Nat.le_trans (show n + 1 ≤ 9 by omega) (by decide)
          · have s1' := Same.trans (Same.new (o := .tup [.int 0, .int 1]) ft1) (Same.trans (Same.new (o := .lst [.ref t1]) f1) (Same.new (o := .lst (vw ++ [.ref t1])) f2))
            exact ⟨_, _, _, _, rfl, (u : Int), n, l, rfl, (hwA.keep (Keeps.of sBB)).up s1', .inr ⟨ps, p2, _, (npA.up sBB).up s1', aps.amt, rfl, upd_same, by rw [List.length_append, hwl]; show n + 1 ≠ n; omega, fun H'' s'' => hC _ _ (s'' _ _ (s1' _ _ hD')) (Keeps.of (Same.trans s1' s'')) (Same.trans s' (Same.trans s1' s'')) rfl⟩⟩
        rintro HC acc2 sC hD2 hl2 hR2
        rw [natsV_len] at hl2
        have ea2 : acc2 = List.replicate 2 (.str "wish") := all_str (by rw [hl2]; rfl) hR2
        subst ea2
        have sBC := Same.trans sB sC
        refine ⟨_, _, _, _, rfl, rfl, sC _ _ hD1, hD2, (by show 2 + 2 ≤ sizeLine; decide), fun p4 f4 => ?_⟩
        try dsimp only [gName, List.set_cons_succ, List.set_cons_zero]
        have s4' := Same.new (o := .lst (List.replicate 2 (V.str "purse") ++ List.replicate 2 (V.str "wish"))) f4
        have hqA4 := s4' _ _ (sBC _ _ upd_same)
        refine ⟨_, rfl, (by show 1 ≤ sizeLine; decide), fun p5 f5 => ?_⟩
        have s5' := Same.new (o := .lst [V.str "purse"]) f5
        refine ⟨_, rfl, _, _, rfl, .inl (.inl (.inl (s5' _ _ hqA4))), _, _, _, rfl, rfl, upd_same, (by show -(2 ^ 63) ≤ (2 : Int); decide), (by show (2 : Int) < 2 ^ 63; decide), (by show 1 * 2 ≤ sizeLine; decide), fun p6 f6 => ?_⟩
        have s6' := Same.new (o := .lst (List.replicate 2 [V.str "purse"]).flatten) f6
        refine ⟨(by show 1 ≤ sizeLine; decide), fun p7 f7 => ?_⟩
        have s7' := Same.new (o := .lst [V.str "wish"]) f7
        refine ⟨_, rfl, _, _, rfl, .inl (.inl (.inl (s7' _ _ (s6' _ _ (s5' _ _ hqA4))))), _, _, _, rfl, rfl, upd_same, (by show -(2 ^ 63) ≤ (2 : Int); decide), (by show (2 : Int) < 2 ^ 63; decide), (by show 1 * 2 ≤ sizeLine; decide), fun p8 f8 => ?_⟩
        have s8' := Same.new (o := .lst (List.replicate 2 [V.str "wish"]).flatten) f8
        refine ⟨_, _, _, _, rfl, rfl, s8' _ _ (s7' _ _ upd_same), upd_same, (by show 2 + 2 ≤ sizeLine; decide), fun p9 f9 => ?_⟩
        have s9' := Same.new (o := .lst ((List.replicate 2 [V.str "purse"]).flatten ++ (List.replicate 2 [V.str "wish"]).flatten)) f9
        exact ⟨wordsD 2, wordsD 2, dp_words (by decide) (s9' _ _ (s8' _ _ (s7' _ _ (s6' _ _ (s5' _ _ upd_same))))), dp_words (by decide) upd_same, words_shaped (by decide), words_shaped (by decide), qbl (PySem.SeqAt.eqv_refl _ (SeqAt.canLay_of_shaped (words_shaped (by decide)))) (k _)⟩
      · have qa := qb
        have hqpA := sb _ _ hqpX
        have hqwA := sb _ _ hqwX
        have hwA := hwX.up sb
        have npA := npX.up sb
        refine ⟨_, rfl, _, rfl, ⟨_, .inl (.inl (upd_same : upd H21 qb (.lst (natsV [0, 1, 2])) qb = some (.lst (natsV [0, 1, 2]))))⟩, fun D1 fD1 => ?_⟩
        refine lcm_list (xs := natsV [0, 1, 2]) (fun _ H' => Same (upd H21 qb (.lst (natsV [0, 1, 2]))) H') (fun _ y _ => y = V.str "purse") (by rw [natsV_len]; decide) (fun _ _ _ _ _ h => h) (Same.new fD1) (fun _ _ _ s => .inl (.inl (s _ _ upd_same))) (fun _ _ _ _ s _ => Same.mut s fD1) ?_ ?_
        · rintro i x H' acc hx s' hD' hl' C hC
          obtain ⟨u, _, rfl⟩ := natsV_at hx
          refine ⟨rfl, _, rfl, _, rfl, _, rfl, _, rfl, _, _, rfl, .inl (.inl (s' _ _ (hqpA))), fun p1 f1 => ?_⟩
          have s1' := Same.new (o := .lst (cutV vp (some (1 : Int)) none)) f1
          have hcl : (cutV vp (some (1 : Int)) none).length = n - 1 := by rw [show (1 : Int) = ((1 : Nat) : Int) from rfl, cutV_drop, List.length_drop, hpl]
          exact ⟨_, _, _, _, rfl, (u : Int), n, l, rfl, (hwA.keep (Keeps.of s')).up s1', .inl ⟨p1, _, rfl, upd_same, by rw [hcl]; omega, fun H'' s'' => hC _ _ (s'' _ _ (s1' _ _ hD')) (Keeps.of (Same.trans s1' s'')) (Same.trans s' (Same.trans s1' s'')) rfl⟩⟩
        rintro HB acc1 sB hD1 hl1 hR1
        try dsimp only [gName, List.set_cons_succ, List.set_cons_zero]
        rw [natsV_len] at hl1
        have ea1 : acc1 = List.replicate 3 (.str "purse") := all_str (by rw [hl1]; rfl) hR1
        subst ea1
        refine ⟨_, rfl, _, rfl, _, rfl, ⟨_, .inl (.inl (sB _ _ upd_same))⟩, fun D2 fD2 => ?_⟩
        refine lcm_list (xs := natsV [0, 1, 2]) (fun _ H' => Same HB H') (fun _ y _ => y = V.str "wish") (by rw [natsV_len]; decide) (fun _ _ _ _ _ h => h) (Same.new fD2) (fun _ _ _ s => .inl (.inl (s _ _ (sB _ _ upd_same)))) (fun _ _ _ _ s _ => Same.mut s fD2) ?_ ?_
        · rintro i x H' acc hx s' hD' hl' C hC
          obtain ⟨u, _, rfl⟩ := natsV_at hx
          have sBB := Same.trans sB s'
          refine ⟨rfl, _, rfl, _, rfl, _, rfl, _, rfl, (by show 2 ≤ sizeLine; decide), fun t1 ft1 => ⟨(by show 1 ≤ sizeLine; decide), fun p1 f1 => ⟨_, _, vw, _, rfl, rfl, ?_, upd_same, ?_, fun p2 f2 => ?_⟩⟩⟩
          · exact Same.new f1 _ _ (Same.new ft1 _ _ (sBB _ _ hqwA))
          · rw [hwl]
            exact Nat.le_trans (show n + 1 ≤ 9 by omega) (by decide)
          · have s1' := Same.trans (Same.new (o := .tup [.int 0, .int 1]) ft1) (Same.trans (Same.new (o := .lst [.ref t1]) f1) (Same.new (o := .lst (vw ++ [.ref t1])) f2))
            exact ⟨_, _, _, _, rfl, (u : Int), n, l, rfl, (hwA.keep (Keeps.of sBB)).up s1', .inr ⟨ps, p2, _, (npA.up sBB).up s1', aps.amt, rfl, upd_same, by rw [List.length_append, hwl]; show n + 1 ≠ n; omega, fun H'' s'' => hC _ _ (s'' _ _ (s1' _ _ hD')) (Keeps.of (Same.trans s1' s'')) (Same.trans s' (Same.trans s1' s'')) rfl⟩⟩
        rintro HC acc2 sC hD2 hl2 hR2
        rw [natsV_len] at hl2
        have ea2 : acc2 = List.replicate 3 (.str "wish") := all_str (by rw [hl2]; rfl) hR2
        subst ea2
        have sBC := Same.trans sB sC
        refine ⟨_, _, _, _, rfl, rfl, sC _ _ hD1, hD2, (by show 3 + 3 ≤ sizeLine; decide), fun p4 f4 => ?_⟩
        try dsimp only [gName, List.set_cons_succ, List.set_cons_zero]
        have s4' := Same.new (o := .lst (List.replicate 3 (V.str "purse") ++ List.replicate 3 (V.str "wish"))) f4
        have hqA4 := s4' _ _ (sBC _ _ upd_same)
        refine ⟨_, rfl, (by show 1 ≤ sizeLine; decide), fun p5 f5 => ?_⟩
        have s5' := Same.new (o := .lst [V.str "purse"]) f5
        refine ⟨_, rfl, _, _, rfl, .inl (.inl (.inl (s5' _ _ hqA4))), _, _, _, rfl, rfl, upd_same, (by show -(2 ^ 63) ≤ (3 : Int); decide), (by show (3 : Int) < 2 ^ 63; decide), (by show 1 * 3 ≤ sizeLine; decide), fun p6 f6 => ?_⟩
        have s6' := Same.new (o := .lst (List.replicate 3 [V.str "purse"]).flatten) f6
        refine ⟨(by show 1 ≤ sizeLine; decide), fun p7 f7 => ?_⟩
        have s7' := Same.new (o := .lst [V.str "wish"]) f7
        refine ⟨_, rfl, _, _, rfl, .inl (.inl (.inl (s7' _ _ (s6' _ _ (s5' _ _ hqA4))))), _, _, _, rfl, rfl, upd_same, (by show -(2 ^ 63) ≤ (3 : Int); decide), (by show (3 : Int) < 2 ^ 63; decide), (by show 1 * 3 ≤ sizeLine; decide), fun p8 f8 => ?_⟩
        have s8' := Same.new (o := .lst (List.replicate 3 [V.str "wish"]).flatten) f8
        refine ⟨_, _, _, _, rfl, rfl, s8' _ _ (s7' _ _ upd_same), upd_same, (by show 3 + 3 ≤ sizeLine; decide), fun p9 f9 => ?_⟩
        have s9' := Same.new (o := .lst ((List.replicate 3 [V.str "purse"]).flatten ++ (List.replicate 3 [V.str "wish"]).flatten)) f9
        exact ⟨wordsD 3, wordsD 3, dp_words (by decide) (s9' _ _ (s8' _ _ (s7' _ _ (s6' _ _ (s5' _ _ upd_same))))), dp_words (by decide) upd_same, words_shaped (by decide), words_shaped (by decide), qbl (PySem.SeqAt.eqv_refl _ (SeqAt.canLay_of_shaped (words_shaped (by decide)))) (k _)⟩
    · have hqlX := s113 _ _ hqlX
      have hqpX := s113 _ _ hqpX
      have hqwX := s113 _ _ hqwX
      have hwX := hwX.up s113
      have npX := npX.up s113
      have tailmark := trivial
      refine ⟨(by show 3 ≤ sizeLine; decide), fun qb fb => ?_⟩
      try dsimp only [gName, List.set_cons_succ, List.set_cons_zero]
      have sb := Same.new (o := .lst [.int 0, .int 1, .int 2]) fb
      refine ⟨_, rfl, _, _, rfl, .inl (.inl (.inl (sb _ _ hqlX))), _, _, rfl, rfl, _, rfl, ite2 (fun _ => ?_) (fun _ => ?_)⟩
      · refine ⟨(by show 2 ≤ sizeLine; decide), fun qa fa => ?_⟩
        try dsimp only [gName, List.set_cons_succ, List.set_cons_zero]
        have sa := Same.trans sb (Same.new (o := .lst (natsV [0, 2])) fa)
        have hqpA := sa _ _ hqpX
        have hqwA := sa _ _ hqwX
        have hwA := hwX.up sa
        have npA := npX.up sa
        refine ⟨_, rfl, _, rfl, ⟨_, .inl (.inl (upd_same : upd (upd H13 qb (.lst [.int 0, .int 1, .int 2])) qa (.lst (natsV [0, 2])) qa = some (.lst (natsV [0, 2]))))⟩, fun D1 fD1 => ?_⟩
        refine lcm_list (xs := natsV [0, 2]) (fun _ H' => Same (upd (upd H13 qb (.lst [.int 0, .int 1, .int 2])) qa (.lst (natsV [0, 2]))) H') (fun _ y _ => y = V.str "purse") (by rw [natsV_len]; decide) (fun _ _ _ _ _ h => h) (Same.new fD1) (fun _ _ _ s => .inl (.inl (s _ _ upd_same))) (fun _ _ _ _ s _ => Same.mut s fD1) ?_ ?_
        · rintro i x H' acc hx s' hD' hl' C hC
          obtain ⟨u, _, rfl⟩ := natsV_at hx
          refine ⟨rfl, _, rfl, _, rfl, _, rfl, _, rfl, _, _, rfl, .inl (.inl (s' _ _ (hqpA))), fun p1 f1 => ?_⟩
          have s1' := Same.new (o := .lst (cutV vp (some (1 : Int)) none)) f1
          have hcl : (cutV vp (some (1 : Int)) none).length = n - 1 := by rw [show (1 : Int) = ((1 : Nat) : Int) from rfl, cutV_drop, List.length_drop, hpl]
          exact ⟨_, _, _, _, rfl, (u : Int), n, l, rfl, (hwA.keep (Keeps.of s')).up s1', .inl ⟨p1, _, rfl, upd_same, by rw [hcl]; omega, fun H'' s'' => hC _ _ (s'' _ _ (s1' _ _ hD')) (Keeps.of (Same.trans s1' s'')) (Same.trans s' (Same.trans s1' s'')) rfl⟩⟩
        rintro HB acc1 sB hD1 hl1 hR1
        try dsimp only [gName, List.set_cons_succ, List.set_cons_zero]
        rw [natsV_len] at hl1
        have ea1 : acc1 = List.replicate 2 (.str "purse") := all_str (by rw [hl1]; rfl) hR1
        subst ea1
        refine ⟨_, rfl, _, rfl, _, rfl, ⟨_, .inl (.inl (sB _ _ upd_same))⟩, fun D2 fD2 => ?_⟩
        refine lcm_list (xs := natsV [0, 2]) (fun _ H' => Same HB H') (fun _ y _ => y = V.str "wish") (by rw [natsV_len]; decide) (fun _ _ _ _ _ h => h) (Same.new fD2) (fun _ _ _ s => .inl (.inl (s _ _ (sB _ _ upd_same)))) (fun _ _ _ _ s _ => Same.mut s fD2) ?_ ?_
        · rintro i x H' acc hx s' hD' hl' C hC
          obtain ⟨u, _, rfl⟩ := natsV_at hx
          have sBB := Same.trans sB s'
          refine ⟨rfl, _, rfl, _, rfl, _, rfl, _, rfl, (by show 2 ≤ sizeLine; decide), fun t1 ft1 => ⟨(by show 1 ≤ sizeLine; decide), fun p1 f1 => ⟨_, _, vw, _, rfl, rfl, ?_, upd_same, ?_, fun p2 f2 => ?_⟩⟩⟩
          · exact Same.new f1 _ _ (Same.new ft1 _ _ (sBB _ _ hqwA))
          · rw [hwl]
            exact Nat.le_trans (show n + 1 ≤ 9 by omega) (by decide)
          · have s1' := Same.trans (Same.new (o := .tup [.int 0, .int 1]) ft1) (Same.trans (Same.new (o := .lst [.ref t1]) f1) (Same.new (o := .lst (vw ++ [.ref t1])) f2))
            exact ⟨_, _, _, _, rfl, (u : Int), n, l, rfl, (hwA.keep (Keeps.of sBB)).up s1', .inr ⟨ps, p2, _, (npA.up sBB).up s1', aps.amt, rfl, upd_same, by rw [List.length_append, hwl]; show n + 1 ≠ n; omega, fun H'' s'' => hC _ _ (s'' _ _ (s1' _ _ hD')) (Keeps.of (Same.trans s1' s'')) (Same.trans s' (Same.trans s1' s'')) rfl⟩⟩
        rintro HC acc2 sC hD2 hl2 hR2
        rw [natsV_len] at hl2
        have ea2 : acc2 = List.replicate 2 (.str "wish") := all_str (by rw [hl2]; rfl) hR2
        subst ea2
        have sBC := Same.trans sB sC
        refine ⟨_, _, _, _, rfl, rfl, sC _ _ hD1, hD2, (by show 2 + 2 ≤ sizeLine; decide), fun p4 f4 => ?_⟩
        try dsimp only [gName, List.set_cons_succ, List.set_cons_zero]
        have s4' := Same.new (o := .lst (List.replicate 2 (V.str "purse") ++ List.replicate 2 (V.str "wish"))) f4
        have hqA4 := s4' _ _ (sBC _ _ upd_same)
        refine ⟨_, rfl, (by show 1 ≤ sizeLine; decide), fun p5 f5 => ?_⟩
        have s5' := Same.new (o := .lst [V.str "purse"]) f5
        refine ⟨_, rfl, _, _, rfl, .inl (.inl (.inl (s5' _ _ hqA4))), _, _, _, rfl, rfl, upd_same, (by show -(2 ^ 63) ≤ (2 : Int); decide), (by show (2 : Int) < 2 ^ 63; decide), (by show 1 * 2 ≤ sizeLine; decide), fun p6 f6 => ?_⟩
        have s6' := Same.new (o := .lst (List.replicate 2 [V.str "purse"]).flatten) f6
        refine ⟨(by show 1 ≤ sizeLine; decide), fun p7 f7 => ?_⟩
        have s7' := Same.new (o := .lst [V.str "wish"]) f7
        refine ⟨_, rfl, _, _, rfl, .inl (.inl (.inl (s7' _ _ (s6' _ _ (s5' _ _ hqA4))))), _, _, _, rfl, rfl, upd_same, (by show -(2 ^ 63) ≤ (2 : Int); decide), (by show (2 : Int) < 2 ^ 63; decide), (by show 1 * 2 ≤ sizeLine; decide), fun p8 f8 => ?_⟩
        have s8' := Same.new (o := .lst (List.replicate 2 [V.str "wish"]).flatten) f8
        refine ⟨_, _, _, _, rfl, rfl, s8' _ _ (s7' _ _ upd_same), upd_same, (by show 2 + 2 ≤ sizeLine; decide), fun p9 f9 => ?_⟩
        have s9' := Same.new (o := .lst ((List.replicate 2 [V.str "purse"]).flatten ++ (List.replicate 2 [V.str "wish"]).flatten)) f9
        exact ⟨wordsD 2, wordsD 2, dp_words (by decide) (s9' _ _ (s8' _ _ (s7' _ _ (s6' _ _ (s5' _ _ upd_same))))), dp_words (by decide) upd_same, words_shaped (by decide), words_shaped (by decide), qbl (PySem.SeqAt.eqv_refl _ (SeqAt.canLay_of_shaped (words_shaped (by decide)))) (k _)⟩
      · have qa := qb
        have hqpA := sb _ _ hqpX
        have hqwA := sb _ _ hqwX
        have hwA := hwX.up sb
        have npA := npX.up sb
        refine ⟨_, rfl, _, rfl, ⟨_, .inl (.inl (upd_same : upd H13 qb (.lst (natsV [0, 1, 2])) qb = some (.lst (natsV [0, 1, 2]))))⟩, fun D1 fD1 => ?_⟩
        refine lcm_list (xs := natsV [0, 1, 2]) (fun _ H' => Same (upd H13 qb (.lst (natsV [0, 1, 2]))) H') (fun _ y _ => y = V.str "purse") (by rw [natsV_len]; decide) (fun _ _ _ _ _ h => h) (Same.new fD1) (fun _ _ _ s => .inl (.inl (s _ _ upd_same))) (fun _ _ _ _ s _ => Same.mut s fD1) ?_ ?_
        · rintro i x H' acc hx s' hD' hl' C hC
          obtain ⟨u, _, rfl⟩ := natsV_at hx
          refine ⟨rfl, _, rfl, _, rfl, _, rfl, _, rfl, _, _, rfl, .inl (.inl (s' _ _ (hqpA))), fun p1 f1 => ?_⟩
          have s1' := Same.new (o := .lst (cutV vp (some (1 : Int)) none)) f1
          have hcl : (cutV vp (some (1 : Int)) none).length = n - 1 := by rw [show (1 : Int) = ((1 : Nat) : Int) from rfl, cutV_drop, List.length_drop, hpl]
          exact ⟨_, _, _, _, rfl, (u : Int), n, l, rfl, (hwA.keep (Keeps.of s')).up s1', .inl ⟨p1, _, rfl, upd_same, by rw [hcl]; omega, fun H'' s'' => hC _ _ (s'' _ _ (s1' _ _ hD')) (Keeps.of (Same.trans s1' s'')) (Same.trans s' (Same.trans s1' s'')) rfl⟩⟩
        rintro HB acc1 sB hD1 hl1 hR1
        try dsimp only [gName, List.set_cons_succ, List.set_cons_zero]
        rw [natsV_len] at hl1
        have ea1 : acc1 = List.replicate 3 (.str "purse") := all_str (by rw [hl1]; rfl) hR1
        subst ea1
        refine ⟨_, rfl, _, rfl, _, rfl, ⟨_, .inl (.inl (sB _ _ upd_same))⟩, fun D2 fD2 => ?_⟩
        refine lcm_list (xs := natsV [0, 1, 2]) (fun _ H' => Same HB H') (fun _ y _ => y = V.str "wish") (by rw [natsV_len]; decide) (fun _ _ _ _ _ h => h) (Same.new fD2) (fun _ _ _ s => .inl (.inl (s _ _ (sB _ _ upd_same)))) (fun _ _ _ _ s _ => Same.mut s fD2) ?_ ?_
        · rintro i x H' acc hx s' hD' hl' C hC
          obtain ⟨u, _, rfl⟩ := natsV_at hx
          have sBB := Same.trans sB s'
          refine ⟨rfl, _, rfl, _, rfl, _, rfl, _, rfl, (by show 2 ≤ sizeLine; decide), fun t1 ft1 => ⟨(by show 1 ≤ sizeLine; decide), fun p1 f1 => ⟨_, _, vw, _, rfl, rfl, ?_, upd_same, ?_, fun p2 f2 => ?_⟩⟩⟩
          · exact Same.new f1 _ _ (Same.new ft1 _ _ (sBB _ _ hqwA))
          · rw [hwl]
            exact Nat.le_trans (show n + 1 ≤ 9 by omega) (by decide)
          · have s1' := Same.trans (Same.new (o := .tup [.int 0, .int 1]) ft1) (Same.trans (Same.new (o := .lst [.ref t1]) f1) (Same.new (o := .lst (vw ++ [.ref t1])) f2))
            exact ⟨_, _, _, _, rfl, (u : Int), n, l, rfl, (hwA.keep (Keeps.of sBB)).up s1', .inr ⟨ps, p2, _, (npA.up sBB).up s1', aps.amt, rfl, upd_same, by rw [List.length_append, hwl]; show n + 1 ≠ n; omega, fun H'' s'' => hC _ _ (s'' _ _ (s1' _ _ hD')) (Keeps.of (Same.trans s1' s'')) (Same.trans s' (Same.trans s1' s'')) rfl⟩⟩
        rintro HC acc2 sC hD2 hl2 hR2
        rw [natsV_len] at hl2
        have ea2 : acc2 = List.replicate 3 (.str "wish") := all_str (by rw [hl2]; rfl) hR2
        subst ea2
        have sBC := Same.trans sB sC
        refine ⟨_, _, _, _, rfl, rfl, sC _ _ hD1, hD2, (by show 3 + 3 ≤ sizeLine; decide), fun p4 f4 => ?_⟩
        try dsimp only [gName, List.set_cons_succ, List.set_cons_zero]
        have s4' := Same.new (o := .lst (List.replicate 3 (V.str "purse") ++ List.replicate 3 (V.str "wish"))) f4
        have hqA4 := s4' _ _ (sBC _ _ upd_same)
        refine ⟨_, rfl, (by show 1 ≤ sizeLine; decide), fun p5 f5 => ?_⟩
        have s5' := Same.new (o := .lst [V.str "purse"]) f5
        refine ⟨_, rfl, _, _, rfl, .inl (.inl (.inl (s5' _ _ hqA4))), _, _, _, rfl, rfl, upd_same, (by show -(2 ^ 63) ≤ (3 : Int); decide), (by show (3 : Int) < 2 ^ 63; decide), (by show 1 * 3 ≤ sizeLine; decide), fun p6 f6 => ?_⟩
        have s6' := Same.new (o := .lst (List.replicate 3 [V.str "purse"]).flatten) f6
        refine ⟨(by show 1 ≤ sizeLine; decide), fun p7 f7 => ?_⟩
        have s7' := Same.new (o := .lst [V.str "wish"]) f7
        refine ⟨_, rfl, _, _, rfl, .inl (.inl (.inl (s7' _ _ (s6' _ _ (s5' _ _ hqA4))))), _, _, _, rfl, rfl, upd_same, (by show -(2 ^ 63) ≤ (3 : Int); decide), (by show (3 : Int) < 2 ^ 63; decide), (by show 1 * 3 ≤ sizeLine; decide), fun p8 f8 => ?_⟩
        have s8' := Same.new (o := .lst (List.replicate 3 [V.str "wish"]).flatten) f8
        refine ⟨_, _, _, _, rfl, rfl, s8' _ _ (s7' _ _ upd_same), upd_same, (by show 3 + 3 ≤ sizeLine; decide), fun p9 f9 => ?_⟩
        have s9' := Same.new (o := .lst ((List.replicate 3 [V.str "purse"]).flatten ++ (List.replicate 3 [V.str "wish"]).flatten)) f9
        exact ⟨wordsD 3, wordsD 3, dp_words (by decide) (s9' _ _ (s8' _ _ (s7' _ _ (s6' _ _ (s5' _ _ upd_same))))), dp_words (by decide) upd_same, words_shaped (by decide), words_shaped (by decide), qbl (PySem.SeqAt.eqv_refl _ (SeqAt.canLay_of_shaped (words_shaped (by decide)))) (k _)⟩

end
end R25

set_option Elab.async false
set_option linter.all false
set_option maxRecDepth 100000
set_option maxHeartbeats 0
namespace R25
open PySem L2
abbrev R : PySem.W.OpenRow := PySem.W.OpenLaw.row PySem.Challenge.rw_rootstalls_k25_whole_fewest_wares_and_st
abbrev hk : PySem.W.Hook := He.hookX 4 fa fn [] [] ex
def ob (s : PySem.W.SharedT) : He.AlX := He.obsX 4 fa fn [] [] ex (HandSHeadRun.getT s)
theorem ob_eq (s : PySem.W.SharedT) : ob s = hk.obs s.abs := He.obsX_eq (HandSHeadRun.getT_eq s)
theorem head_run (w : World) : HandSHeadRun.RunEq R (PySem.W.view R.prog [65]) hk ob 6000 nms w := by
  intro os
  kernel_rfl
end R25

set_option maxHeartbeats 0
namespace R25
open PySem PySem.Spec PyProof.Rows L2
theorem all_ok {P : Program} {w : World} {K : PySem.W.Frag} {mg : Str → Option Value} (T : Txt K mg) : ∃ fd, (∀ (s : Shared) (v : Value), BindsTo s fd ⟨[v], []⟩ [("_law_script", v)]) ∧ ∀ base, FnOk P w K mg base CX0 12 (He.ga K "law") fd ["_law_script"] (sp1 (sp_law K)) := by
  have D_law_deck : ∀ base, Dfn P w K mg base CX0 1 "_law_deck" ["_law_script"] (sp1 (sp_law_deck K)) := fun base => ok_law_deck T
  have D_law_fold : ∀ base, Dfn P w K mg base CX0 1 "_law_fold" ["_law_script"] (sp1 (sp_law_fold K)) := fun base => ok_law_fold T
  have D_law_pick : ∀ base, Dfn P w K mg base CX0 1 "_law_pick" ["_law_deck_here", "_law_many"] (sp2 sp_law_pick) := fun base => ok_law_pick T
  have D_law_divisor : ∀ base, Dfn P w K mg base CX0 1 "_law_divisor" ["_law_one", "_law_other"] (sp2 sp_law_divisor) := fun base => ok_law_divisor T
  have D_law_made : ∀ base, Dfn P w K mg base CX0 2 "_law_made" ["_law_top", "_law_bottom"] (sp2 sp_law_made) := fun base => ok_law_made T (D_law_divisor base)
  have D_law_amount : ∀ base, Dfn P w K mg base CX0 3 "_law_amount" ["_law_deck_here"] (sp1 sp_law_amount) := fun base => ok_law_amount T (D_law_made base) (D_law_pick base)
  have D_law_product : ∀ base, Dfn P w K mg base CX0 3 "_law_product" ["_law_one", "_law_other"] (sp2 sp_law_product) := fun base => ok_law_product T (D_law_made base)
  have D_law_stall : ∀ base, Dfn P w K mg base CX0 4 "_law_stall" ["_law_deck_here", "_law_wares"] (sp2 sp_law_stall) := fun base => ok_law_stall T (D_law_pick base) (D_law_amount base) (D_law_product base)
  have D_is_integer : ∀ base, Dfn P w K mg base CX0 1 "is_integer" ["thing"] (sp1 sp_is_integer) := fun base => ok_is_integer T
  have D_is_ware_below : ∀ base, Dfn P w K mg base CX0 2 "is_ware_below" ["thing", "wares"] (sp2 sp_is_ware_below) := fun base => ok_is_ware_below T (D_is_integer base)
  have D_common : ∀ base, Dfn P w K mg base CX0 1 "common" ["one", "other"] (sp2 sp_common) := fun base => ok_common T
  have D_is_fraction : ∀ base, Dfn P w K mg base CX0 2 "is_fraction" ["thing"] (sp1 sp_is_fraction) := fun base => ok_is_fraction T (D_is_integer base) (D_common base)
  have D_is_some : ∀ base, Dfn P w K mg base CX0 3 "is_some" ["thing"] (sp1 sp_is_some) := fun base => ok_is_some T (D_is_fraction base)
  have K_Exact : ∀ base, Mkd P w K mg base CX0 2 "Exact" ["self", "top", "bottom"] (sp3 (sp_Exact_init K)) := fun base => ok_Exact_init T (D_common base)
  have D_exact : ∀ base, Dfn P w K mg base CX0 4 "exact" ["pair"] (sp1 (sp_exact K)) := fun base => ok_exact T (K_Exact base)
  have M_Exact_mul : ∀ base, Mtd P w K mg base CX0 4 "Exact" "__mul__" ["self", "other"] (sp2 (sp_mul K)) := fun base => ok_Exact_mul T (K_Exact base)
  have M_Exact_square : ∀ base, Mtd P w K mg base CX0 4 "Exact" "square" ["self"] (sp1 (sp_square K)) := fun base => ok_Exact_square T (K_Exact base)
  have M_Exact_eq : ∀ base, Mtd P w K mg base CX0 1 "Exact" "__eq__" ["self", "other"] (sp2 (sp_eqE K)) := fun base => ok_Exact_eq T
  have D_is_stall : ∀ base, Dfn P w K mg base CX0 5 "is_stall" ["thing", "wares"] (sp2 sp_is_stall) := fun base => ok_is_stall T (D_is_ware_below base) (D_is_some base) (D_exact base) (M_Exact_mul base) (M_Exact_square base) (M_Exact_eq base)
  have K_Web : ∀ base, Mkd P w K mg base CX0 6 "Web" ["self", "wares", "stalls"] (sp3 (sp_Web_init K)) := fun base => ok_Web_init T (D_is_integer base) (D_is_stall base)
  have D_law_taken : ∀ base, Dfn P w K mg base CX0 3 "_law_taken" ["_law_one", "_law_other"] (sp2 sp_law_taken) := fun base => ok_law_taken T (D_law_made base)
  have D_law_added : ∀ base, Dfn P w K mg base CX0 3 "_law_added" ["_law_one", "_law_other"] (sp2 sp_law_added) := fun base => ok_law_added T (D_law_made base)
  have D_law_can_be_struck : ∀ base, Dfn P w K mg base CX0 4 "_law_can_be_struck" ["_law_table_here", "_law_some_here"] (sp2 sp_law_can_be_struck) := fun base => ok_law_can_be_struck T (D_law_product base) (D_law_taken base) (D_law_added base)
  have D_law_table : ∀ base, Dfn P w K mg base CX0 4 "_law_table" ["_law_wares", "_law_stalls", "_law_purse", "_law_wish"] (sp4 sp_law_table) := fun base => ok_law_table T (D_law_taken base) (D_law_added base)
  have D_law_is_met : ∀ base, Dfn P w K mg base CX0 5 "_law_is_met" ["_law_wares", "_law_stalls", "_law_purse", "_law_wish"] (sp4 sp_law_is_met) := fun base => ok_law_is_met T (D_law_can_be_struck base) (D_law_table base)
  have D_law_some : ∀ base, Dfn P w K mg base CX0 1 "_law_some" ["_law_many"] (sp1 (sp_law_some K)) := fun base => ok_law_some T
  have D_law_wares_due : ∀ base, Dfn P w K mg base CX0 6 "_law_wares_due" ["_law_wares", "_law_stalls", "_law_purse", "_law_wish"] (sp4 (sp_law_wares_due K)) := fun base => ok_law_wares_due T (D_law_is_met base) (D_law_table base) (D_law_some base) (D_law_can_be_struck base)
  have D_law_stalls_due : ∀ base, Dfn P w K mg base CX0 6 "_law_stalls_due" ["_law_wares", "_law_stalls", "_law_purse", "_law_wish"] (sp4 (sp_law_stalls_due K)) := fun base => ok_law_stalls_due T (D_law_is_met base) (D_law_some base)
  have D_law_needed_due : ∀ base, Dfn P w K mg base CX0 6 "_law_needed_due" ["_law_wares", "_law_stalls", "_law_purse", "_law_wish"] (sp4 (sp_law_needed_due K)) := fun base => ok_law_needed_due T (D_law_is_met base)
  have D_law_is_told : ∀ base, Dfn P w K mg base CX0 1 "_law_is_told" ["_law_found", "_law_due"] (sp2 (sp_law_is_told K)) := fun base => ok_law_is_told T
  have D_empty : ∀ base, Dfn P w K mg base CX0 4 "empty" ["web"] (sp1 (sp_empty K)) := fun base => ok_empty T (K_Exact base)
  have M_Exact_add : ∀ base, Mtd P w K mg base CX0 4 "Exact" "__add__" ["self", "other"] (sp2 (sp_add K)) := fun base => ok_Exact_add T (K_Exact base)
  have D_held_exact : ∀ base, Dfn P w K mg base CX0 5 "held_exact" ["web"] (sp1 (sp_held_exact K)) := fun base => ok_held_exact T (D_empty base) (D_exact base) (M_Exact_add base)
  have D_roots_exact : ∀ base, Dfn P w K mg base CX0 5 "roots_exact" ["web"] (sp1 (sp_roots_exact K)) := fun base => ok_roots_exact T (K_Exact base) (D_exact base) (M_Exact_add base)
  have M_Exact_sub : ∀ base, Mtd P w K mg base CX0 4 "Exact" "__sub__" ["self", "other"] (sp2 (sp_sub K)) := fun base => ok_Exact_sub T (K_Exact base)
  have K_Table : ∀ base, Mkd P w K mg base CX0 1 "Table" ["self", "slants", "beside"] (sp3 (sp_Table_init K)) := fun base => ok_Table_init T
  have D_table_of : ∀ base, Dfn P w K mg base CX0 6 "table_of" ["web", "own", "wished"] (sp3 (sp_table_of K)) := fun base => ok_table_of T (D_held_exact base) (D_roots_exact base) (M_Exact_add base) (M_Exact_sub base) (K_Table base)
  have M_Exact_sign : ∀ base, Mtd P w K mg base CX0 1 "Exact" "sign" ["self"] (sp1 (sp_sign K)) := fun base => ok_Exact_sign T
  have M_Table_is_wrong : ∀ base, Mtd P w K mg base CX0 2 "Table" "is_wrong" ["self", "ware"] (sp2 (sp_is_wrong K)) := fun base => ok_Table_is_wrong T (M_Exact_sign base)
  have M_Exact_over : ∀ base, Mtd P w K mg base CX0 4 "Exact" "over" ["self", "other"] (sp2 (sp_over K)) := fun base => ok_Exact_over T (K_Exact base)
  have M_Table_raise_root : ∀ base, Mtd P w K mg base CX0 5 "Table" "raise_root" ["self", "one", "other", "amount"] (sp4 (sp_raise_root K)) := fun base => ok_Table_raise_root T (K_Exact base) (M_Exact_add base)
  have M_Table_strike : ∀ base, Mtd P w K mg base CX0 6 "Table" "strike" ["self", "ware"] (sp2 (sp_strike K)) := fun base => ok_Table_strike T (M_Exact_sub base) (M_Exact_mul base) (M_Exact_over base) (M_Exact_square base) (M_Table_raise_root base)
  have M_Table_strike_all : ∀ base, Mtd P w K mg base CX0 7 "Table" "strike_all" ["self", "wares"] (sp2 (sp_strike_all K)) := fun base => ok_Table_strike_all T (M_Table_is_wrong base) (M_Table_strike base)
  have M_Table_go_back : ∀ base, Mtd P w K mg base CX0 5 "Table" "go_back" ["self", "found", "untied"] (sp3 (sp_go_back K)) := fun base => ok_Table_go_back T (K_Exact base) (M_Exact_add base) (M_Exact_mul base) (M_Exact_over base)
  have D_scales_of : ∀ base, Dfn P w K mg base CX0 8 "scales_of" ["web", "own", "wished"] (sp3 (sp_scales_of K)) := fun base => ok_scales_of T (D_table_of base) (M_Table_strike_all base) (M_Table_go_back base) (K_Exact base)
  have D_is_amount : ∀ base, Dfn P w K mg base CX0 3 "is_amount" ["thing"] (sp1 sp_is_amount) := fun base => ok_is_amount T (D_is_fraction base)
  have D_is_amounts : ∀ base, Dfn P w K mg base CX0 4 "is_amounts" ["thing", "many"] (sp2 sp_is_amounts) := fun base => ok_is_amounts T (D_is_amount base)
  have D_check_purse : ∀ base, Dfn P w K mg base CX0 5 "check_purse" ["web", "purse"] (sp2 (sp_check K)) := fun base => ok_check_purse T (D_is_amounts base) (D_exact base)
  have D_check_wish : ∀ base, Dfn P w K mg base CX0 5 "check_wish" ["web", "wish"] (sp2 (sp_check K)) := fun base => ok_check_wish T (D_is_amounts base) (D_exact base)
  have M_Exact_pair : ∀ base, Mtd P w K mg base CX0 1 "Exact" "pair" ["self"] (sp1 (sp_pair K)) := fun base => ok_Exact_pair T
  have D_scales : ∀ base, Dfn P w K mg base CX0 9 "scales" ["web", "purse", "wish"] (sp3 (sp_scales K)) := fun base => ok_scales T (D_scales_of base) (D_check_purse base) (D_check_wish base) (M_Exact_pair base)
  have D_law_is_barred : ∀ base, Dfn P w K mg base CX0 10 "_law_is_barred" ["_law_wares", "_law_stalls", "_law_purse", "_law_wish", "_law_some_here"] (sp5 (sp_law_is_barred K)) := fun base => ok_law_is_barred T (D_law_added base) (D_scales base) (K_Web base)
  have D_all_tuples : ∀ base, Dfn P w K mg base CX0 1 "all_tuples" ["many"] (sp1 (sp_all_tuples K)) := fun base => ok_all_tuples T
  have D_is_struck : ∀ base, Dfn P w K mg base CX0 8 "is_struck" ["table"] (sp1 (sp_is_struck K)) := fun base => ok_is_struck T (M_Table_strike_all base)
  have D_table_among : ∀ base, Dfn P w K mg base CX0 3 "table_among" ["table", "wares"] (sp2 (sp_table_among K)) := fun base => ok_table_among T (K_Table base)
  have D_least_wares : ∀ base, Dfn P w K mg base CX0 10 "least_wares" ["web", "purse", "wish"] (sp3 (sp_least_wares K)) := fun base => ok_least_wares T (D_check_purse base) (D_check_wish base) (D_scales_of base) (D_table_of base) (D_all_tuples base) (D_is_struck base) (D_table_among base)
  have D_is_met_by_T : ∀ base, Dfn P w K mg base CX0 9 "is_met_by" ["web", "own", "wished", "indexes"] (sp4 (sp_is_met_by K false)) := fun base => ok_is_met_by_T T (D_held_exact base) (D_roots_exact base) (M_Exact_add base) (M_Exact_sub base) (K_Table base) (K_Web base) (D_is_struck base)
  have D_fewest_stalls : ∀ base, Dfn P w K mg base CX0 10 "fewest_stalls" ["web", "purse", "wish"] (sp3 (sp_fewest_stalls K)) := fun base => ok_fewest_stalls T (D_check_purse base) (D_check_wish base) (D_all_tuples base) (D_is_met_by_T base)
  have D_is_met_by_L : ∀ base, Dfn P w K mg base CX0 9 "is_met_by" ["web", "own", "wished", "indexes"] (sp4 (sp_is_met_by K true)) := fun base => ok_is_met_by_L T (D_held_exact base) (D_roots_exact base) (M_Exact_add base) (M_Exact_sub base) (K_Table base) (K_Web base) (D_is_struck base)
  have D_needed : ∀ base, Dfn P w K mg base CX0 10 "needed" ["web", "purse", "wish"] (sp3 (sp_needed K)) := fun base => ok_needed T (D_check_purse base) (D_check_wish base) (D_scales_of base) (D_is_met_by_L base)
  have D_law_is_well : ∀ base, Dfn P w K mg base CX0 11 "_law_is_well" ["_law_web", "_law_stalls", "_law_purse", "_law_wish"] (sp4 (sp_law_is_well K)) := fun base => ok_law_is_well T (D_law_wares_due base) (D_law_stalls_due base) (D_law_needed_due base) (D_law_is_told base) (D_law_is_barred base) (D_least_wares base) (D_fewest_stalls base) (D_needed base) (D_scales base)
  have D_law_edge : ∀ base, Dfn P w K mg base CX0 4 "_law_edge" ["_law_deck_here", "_law_wares", "_law_stalls", "_law_purse"] (sp4 sp_law_edge) := fun base => ok_law_edge T (D_law_made base) (D_law_pick base) (D_law_product base) (D_law_added base) (D_law_taken base)
  have D_check_purse_X : ∀ base, Dfn P w K mg base (L2.CX P w) 5 "check_purse" ["web", "purse"] (sp2 (spX_check K "BadPurse")) := fun base => ok_check_purse_X T (D_is_amounts base) (D_exact base)
  have D_check_wish_X : ∀ base, Dfn P w K mg base (L2.CX P w) 5 "check_wish" ["web", "wish"] (sp2 (spX_check K "BadWish")) := fun base => ok_check_wish_X T (D_is_amounts base) (D_exact base)
  have D_least_wares_X : ∀ base, Dfn P w K mg base (L2.CX P w) 10 "least_wares" ["web", "purse", "wish"] (sp3 (spX_ask K)) := fun base => ok_least_wares_X T (D_check_purse_X base) (D_check_wish_X base) (D_scales_of base) (D_table_of base) (D_all_tuples base) (D_is_struck base) (D_table_among base)
  have D_fewest_stalls_X : ∀ base, Dfn P w K mg base (L2.CX P w) 10 "fewest_stalls" ["web", "purse", "wish"] (sp3 (spX_ask K)) := fun base => ok_fewest_stalls_X T (D_check_purse_X base) (D_check_wish_X base) (D_all_tuples base) (D_is_met_by_T base)
  have D_needed_X : ∀ base, Dfn P w K mg base (L2.CX P w) 10 "needed" ["web", "purse", "wish"] (sp3 (spX_ask K)) := fun base => ok_needed_X T (D_check_purse_X base) (D_check_wish_X base) (D_scales_of base) (D_is_met_by_L base)
  have D_law_word : ∀ base, Dfn P w K mg base CX0 11 "_law_word" ["_law_which", "_law_web", "_law_purse", "_law_wish"] (sp4 (sp_law_word K)) := fun base => ok_law_word T (D_least_wares_X base) (D_fewest_stalls_X base) (D_needed_X base)
  exact ok_law T D_law_deck D_law_fold D_law_pick D_law_stall K_Web D_law_made D_law_is_well D_law_edge D_law_added D_law_word
end R25
open PySem PySem.W PySem.Calls PyProof.Rows
theorem PySem.Challenge.cw_rootstalls_k25_whole_fewest_wares_and_st_holds : PySem.Challenge.rw_rootstalls_k25_whole_fewest_wares_and_st.Holds := by
  w_on; o_law
  refine HandSHeadRun.head_any (r := R25.R) (q := view (R25.R).prog [65]) (H := R25.hk) (ob := R25.ob) (M := 6000) (loose := R25.nms) (d := HandSHeadRun.topDef (R25.R).prog 65) (kwd := []) R25.ob_eq
    (by kernel_rfl) (fun s => by kernel_rfl) R25.head_run (by kernel_rfl) (by kernel_rfl) (by kernel_rfl) (by rfl) (by first | assumption | decide +kernel) (by decide +kernel) ⟨rfl, rfl, rfl, rfl, rfl, by decide +kernel⟩ ?hw ?hc
  case hw => w_witness2
  case hc =>
    refine L2.walk_ofE (l := PySem.Challenge.rw_rootstalls_k25_whole_fewest_wares_and_st) (n := 63) (k := 12) (x := "_law_script") (CX := L2.CX0) rfl (by decide) (by kernel_rfl) ⟨rfl, by decide, by decide⟩ ?F (fun _ _ _ _ z => z)
    intro w mg fa h Y G hmg0
    obtain ⟨K, KX, c⟩ := Y
    have hmg : mg ("law" : PySem.Str) = some (.ref fa) := by
      have e : (HandSHeadRun.topDef (R25.R).prog 65).name = ("law" : PySem.Str) := by kernel_rfl
      rw [← e]
      exact hmg0
    have T : R25.Txt K mg := ⟨⟨h, KX, G⟩, c.t.d, c.more⟩
    have e := hmg.symm.trans T.g_law
    cases e
    obtain ⟨fd, hb, hF⟩ := R25.all_ok (P := (PySem.Challenge.rw_rootstalls_k25_whole_fewest_wares_and_st).prog) (w := w) T
    exact ⟨K, fd, R25.sp1 (R25.sp_law K), KX, hb, fun H a ns hl _ hS => ⟨_, rfl, a, ns, rfl, hS, hl, fun _ => rfl⟩, fun base _ _ => hF base⟩
