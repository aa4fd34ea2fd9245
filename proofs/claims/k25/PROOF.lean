import PyProof.Rows.All
import Wide.All
import OpenK.AllK
import Wide.FinOn
import HandS.ForMost
import HandS.Deep
import HandS.Conv
import HandS.TupMul
import HandS.TupAny
import HandS.Gcd
import HandS.Style
import HandS.Star
import HandS.Zip
import HandS.Walk
import KE.KSortTupG
import KE.KSortTupUse
import KE.KDictDisplayH
import KE.GoesMore
import KE.GoesEnum
import HandS.Evl
import PySem.Challenge.RW_onlyhigher_k25_whole_spans_by_characters
set_option linter.all false
/-! the plain law: a finite group given by its moduli, its characters, spans; how many kill; who kills the killers -/
namespace K25

/-- 0, 1, .. below m -/
def iota (m : Int) : List Int := (List.range m.toNat).map fun k : Nat => (k : Int)
def mems : List Int → List (List Int)
  | [] => [[]]
  | m :: r => (iota m).flatMap fun k => (mems r).map (k :: ·)
def prod : List Int → Int
  | [] => 1
  | m :: r => m * prod r
/-- the sum of c e (N / m) -/
def pw : List Int → List Int → List Int → Int
  | m :: r, c :: cs, e :: es => c * e * prod r + m * pw r cs es
  | _, _, _ => 0
def PosG (G : List Int) : Prop := ∀ m ∈ G, 0 < m
def IsM : List Int → List Int → Prop
  | [], [] => True
  | m :: r, x :: y => (0 ≤ x ∧ x < m) ∧ IsM r y
  | _, _ => False
def add : List Int → List Int → List Int → List Int
  | m :: r, a :: as, b :: bs => (a + b) % m :: add r as bs
  | _, _, _ => []
def zero (G : List Int) : List Int := G.map fun _ => 0
def smul : List Int → Int → List Int → List Int
  | m :: r, t, a :: as => (t * a) % m :: smul r t as
  | _, _, _ => []
def Kill (G c e : List Int) : Prop := prod G ∣ pw G c e

theorem mem_iota {m x : Int} : x ∈ iota m ↔ 0 ≤ x ∧ x < m := by
  unfold iota
  rw [List.mem_map]
  constructor
  · rintro ⟨k, hk, rfl⟩
    have := List.mem_range.mp hk
    omega
  · rintro ⟨h0, h1⟩
    exact ⟨x.toNat, List.mem_range.mpr (by omega), by omega⟩
theorem mem_mems : ∀ {G x : List Int}, x ∈ mems G ↔ IsM G x
  | [], [] => by simp [mems, IsM]
  | [], _ :: _ => by simp [mems, IsM]
  | m :: r, [] => by simp [mems, IsM]
  | m :: r, x :: y => by
    simp only [mems, IsM, List.mem_flatMap, List.mem_map]
    constructor
    · rintro ⟨k, hk, z, hz, e⟩
      cases e
      exact ⟨mem_iota.mp hk, mem_mems.mp hz⟩
    · rintro ⟨h1, h2⟩
      exact ⟨x, mem_iota.mpr h1, y, mem_mems.mpr h2, rfl⟩
theorem IsM.cons {n x : Int} {R y : List Int} (h : 0 ≤ x ∧ x < n) (hy : IsM R y) : IsM (n :: R) (x :: y) := ⟨h, hy⟩
theorem PosG.tail {m : Int} {r : List Int} (h : PosG (m :: r)) : PosG r := fun x hx => h x (List.mem_cons_of_mem _ hx)
theorem PosG.head {m : Int} {r : List Int} (h : PosG (m :: r)) : 0 < m := h m List.mem_cons_self
theorem prod_pos : ∀ {G : List Int}, PosG G → 0 < prod G
  | [], _ => by show (0 : Int) < 1; decide
  | m :: r, h => Int.mul_pos h.head (prod_pos h.tail)
theorem nodup_iota (m : Int) : (iota m).Nodup := by
  unfold iota
  refine List.pairwise_map.mpr (List.Pairwise.imp (fun h => ?_) List.nodup_range)
  omega
theorem nodup_mems : ∀ G : List Int, (mems G).Nodup
  | [] => List.pairwise_singleton _ _
  | m :: r => by
    refine List.pairwise_flatMap.mpr ⟨fun k _ => List.pairwise_map.mpr (List.Pairwise.imp (fun h e => h (List.cons.inj e).2) (nodup_mems r)), List.Pairwise.imp (fun h => ?_) (nodup_iota m)⟩
    intro x hx y hy e
    obtain ⟨z, _, rfl⟩ := List.mem_map.mp hx
    obtain ⟨w, _, rfl⟩ := List.mem_map.mp hy
    exact h (List.cons.inj e).1
theorem isM_zero : ∀ {G : List Int}, PosG G → IsM G (zero G)
  | [], _ => trivial
  | m :: r, h => ⟨⟨Int.le_refl 0, h.head⟩, isM_zero h.tail⟩
theorem isM_add : ∀ {G a b : List Int}, PosG G → IsM G a → IsM G b → IsM G (add G a b)
  | [], [], [], _, _, _ => trivial
  | m :: r, a :: as, b :: bs, h, ha, hb => ⟨⟨Int.emod_nonneg _ (Int.ne_of_gt h.head), Int.emod_lt_of_pos _ h.head⟩, isM_add h.tail ha.2 hb.2⟩
theorem isM_smul : ∀ {G a : List Int} {t : Int}, PosG G → IsM G a → IsM G (smul G t a)
  | [], [], _, _, _ => trivial
  | m :: r, a :: as, t, h, ha => ⟨⟨Int.emod_nonneg _ (Int.ne_of_gt h.head), Int.emod_lt_of_pos _ h.head⟩, isM_smul h.tail ha.2⟩

/-! ### sums and multiples -/
theorem smul_zero : ∀ {G a : List Int}, IsM G a → smul G 0 a = zero G
  | [], [], _ => rfl
  | m :: r, a :: as, h => by
    show (0 * a) % m :: smul r 0 as = 0 :: zero r
    rw [Int.zero_mul, Int.zero_emod, smul_zero h.2]
theorem smul_succ : ∀ {G a : List Int} {t : Int}, IsM G a → smul G (t + 1) a = add G (smul G t a) a
  | [], [], _, _ => rfl
  | m :: r, a :: as, t, h => by
    show ((t + 1) * a) % m :: smul r (t + 1) as = ((t * a) % m + a) % m :: add r (smul r t as) as
    rw [smul_succ h.2, Int.emod_add_emod, Int.add_mul, Int.one_mul]
theorem smul_mod : ∀ {G a : List Int} {t n : Int}, IsM G a → prod G ∣ n → smul G (t % n) a = smul G t a
  | [], [], _, _, _, _ => rfl
  | m :: r, a :: as, t, n, h, hn => by
    show ((t % n) * a) % m :: smul r (t % n) as = (t * a) % m :: smul r t as
    have h1 : m ∣ n := Int.dvd_trans (Int.dvd_mul_right m (prod r)) hn
    have h2 : prod r ∣ n := Int.dvd_trans (Int.dvd_mul_left m (prod r)) hn
    rw [smul_mod h.2 h2, Int.mul_emod, Int.emod_emod_of_dvd _ h1, ← Int.mul_emod]
theorem add_comm : ∀ {G a b : List Int}, add G a b = add G b a
  | [], _, _ => by cases ‹List Int› <;> rfl
  | m :: r, [], b => by cases b <;> rfl
  | m :: r, a :: as, [] => rfl
  | m :: r, a :: as, b :: bs => by
    show (a + b) % m :: add r as bs = (b + a) % m :: add r bs as
    rw [Int.add_comm, add_comm]
theorem add_zero : ∀ {G a : List Int}, IsM G a → add G a (zero G) = a
  | [], [], _ => rfl
  | m :: r, a :: as, h => by
    show (a + 0) % m :: add r as (zero r) = a :: as
    rw [add_zero h.2, Int.add_zero, Int.emod_eq_of_lt h.1.1 h.1.2]
theorem add_neg : ∀ {G a b : List Int}, IsM G a → IsM G b → add G (add G a b) (smul G (-1) b) = a
  | [], [], [], _, _ => rfl
  | m :: r, a :: as, b :: bs, ha, hb => by
    show ((a + b) % m + (-1 * b) % m) % m :: add r (add r as bs) (smul r (-1) bs) = a :: as
    rw [add_neg ha.2 hb.2, Int.emod_add_emod, Int.add_emod_emod, show a + b + -1 * b = a by omega, Int.emod_eq_of_lt ha.1.1 ha.1.2]
theorem add_neg' : ∀ {G a b : List Int}, IsM G a → IsM G b → add G (add G a (smul G (-1) b)) b = a
  | [], [], [], _, _ => rfl
  | m :: r, a :: as, b :: bs, ha, hb => by
    show ((a + (-1 * b) % m) % m + b) % m :: add r (add r as (smul r (-1) bs)) bs = a :: as
    rw [add_neg' ha.2 hb.2, Int.emod_add_emod, Int.emod_def (-1 * b) m]
    generalize (-1 * b) / m = q
    rw [show a + (-1 * b - m * q) + b = a + m * (-q) by rw [Int.mul_neg]; omega, Int.add_mul_emod_self_left, Int.emod_eq_of_lt ha.1.1 ha.1.2]

/-! ### the pairing -/
theorem pw_add : ∀ {G c a b : List Int}, IsM G c → IsM G a → IsM G b → prod G ∣ pw G c (add G a b) - (pw G c a + pw G c b)
  | [], [], [], [], _, _, _ => by show (1 : Int) ∣ _; exact Int.one_dvd _
  | m :: r, c :: cs, a :: as, b :: bs, hc, ha, hb => by
    obtain ⟨k, hk⟩ := pw_add hc.2 ha.2 hb.2
    show m * prod r ∣ (c * ((a + b) % m) * prod r + m * pw r cs (add r as bs)) - ((c * a * prod r + m * pw r cs as) + (c * b * prod r + m * pw r cs bs))
    have e : pw r cs (add r as bs) = pw r cs as + pw r cs bs + prod r * k := by omega
    have e2 : (a + b) % m = a + b - m * ((a + b) / m) := Int.emod_def _ _
    refine ⟨k - c * ((a + b) / m), ?_⟩
    rw [e, e2]
    generalize (a + b) / m = q
    simp only [Int.mul_sub, Int.sub_mul, Int.mul_add, Int.add_mul, Int.mul_assoc, Int.mul_comm, Int.mul_left_comm]
    omega
theorem pw_comm : ∀ {G c e : List Int}, pw G c e = pw G e c
  | [], _, _ => by simp [pw]
  | m :: r, [], e => by cases e <;> simp [pw]
  | m :: r, c :: cs, [] => by simp [pw]
  | m :: r, c :: cs, e :: es => by
    show c * e * prod r + m * pw r cs es = e * c * prod r + m * pw r es cs
    rw [pw_comm, Int.mul_comm c e]
theorem pw_zero : ∀ {G c : List Int}, pw G c (zero G) = 0
  | [], _ => by simp [pw]
  | m :: r, [] => by simp [pw]
  | m :: r, c :: cs => by
    show c * 0 * prod r + m * pw r cs (zero r) = 0
    rw [pw_zero, Int.mul_zero, Int.zero_mul, Int.mul_zero, Int.add_zero]
theorem pw_smul : ∀ {G c a : List Int} {t : Int}, IsM G c → IsM G a → prod G ∣ pw G c (smul G t a) - t * pw G c a
  | [], [], [], _, _, _ => by show (1 : Int) ∣ _; exact Int.one_dvd _
  | m :: r, c :: cs, a :: as, t, hc, ha => by
    obtain ⟨k, hk⟩ := pw_smul (t := t) hc.2 ha.2
    show m * prod r ∣ (c * ((t * a) % m) * prod r + m * pw r cs (smul r t as)) - t * (c * a * prod r + m * pw r cs as)
    have e : pw r cs (smul r t as) = t * pw r cs as + prod r * k := by omega
    have e2 : (t * a) % m = t * a - m * ((t * a) / m) := Int.emod_def _ _
    refine ⟨k - c * ((t * a) / m), ?_⟩
    rw [e, e2]
    generalize (t * a) / m = q
    simp only [Int.mul_sub, Int.sub_mul, Int.mul_add, Int.add_mul, Int.mul_assoc, Int.mul_comm, Int.mul_left_comm]
    omega
theorem Kill.comm {G c e : List Int} (h : Kill G c e) : Kill G e c := by unfold Kill; rw [pw_comm]; exact h
theorem Kill.zero {G c : List Int} : Kill G c (zero G) := by unfold Kill; rw [pw_zero]; exact Int.dvd_zero _
theorem dvd_of_sub {n a b : Int} (h : n ∣ a - b) (hb : n ∣ b) : n ∣ a := by
  have := Int.dvd_add h hb
  rwa [Int.sub_add_cancel] at this
theorem Kill.add {G c a b : List Int} (hc : IsM G c) (ha : IsM G a) (hb : IsM G b) (h1 : Kill G c a) (h2 : Kill G c b) : Kill G c (add G a b) :=
  dvd_of_sub (pw_add hc ha hb) (Int.dvd_add h1 h2)
theorem Kill.smul {G c a : List Int} {t : Int} (hc : IsM G c) (ha : IsM G a) (h : Kill G c a) : Kill G c (smul G t a) :=
  dvd_of_sub (pw_smul hc ha) (Int.dvd_trans h (Int.dvd_mul_left t _))

/-! ### counting -/
open Classical in
noncomputable def cnt {α : Type} (L : List α) (p : α → Prop) : Nat := L.countP fun x => decide (p x)
theorem cnt_nil {α : Type} {p : α → Prop} : cnt ([] : List α) p = 0 := rfl
theorem cnt_congr {α : Type} {L : List α} {p q : α → Prop} (h : ∀ x ∈ L, p x ↔ q x) : cnt L p = cnt L q := by
  unfold cnt
  refine List.countP_congr fun x hx => ?_
  simp only [decide_eq_true_eq]
  exact h x hx
theorem cnt_zero {α : Type} {L : List α} {p : α → Prop} (h : ∀ x ∈ L, ¬ p x) : cnt L p = 0 := by
  unfold cnt
  refine List.countP_eq_zero.mpr fun x hx => ?_
  simp only [decide_eq_true_eq]
  exact h x hx
theorem cnt_append {α : Type} {L M : List α} {p : α → Prop} : cnt (L ++ M) p = cnt L p + cnt M p := by unfold cnt; exact List.countP_append
theorem cnt_map {α β : Type} {f : α → β} {L : List α} {p : β → Prop} : cnt (L.map f) p = cnt L fun x => p (f x) := by
  unfold cnt
  rw [List.countP_map]
  rfl
/-- an injection counts -/
theorem cnt_le {α β : Type} {L : List α} {M : List β} {p : α → Prop} {q : β → Prop} (f : α → β) (nd : L.Nodup) (hf : ∀ x ∈ L, p x → f x ∈ M ∧ q (f x)) (inj : ∀ x ∈ L, ∀ y ∈ L, p x → p y → f x = f y → x = y) : cnt L p ≤ cnt M q := by
  classical
  unfold cnt
  rw [List.countP_eq_length_filter, List.countP_eq_length_filter, ← List.length_map (f := f)]
  refine List.Nodup.length_le_of_subset ?_ ?_
  · refine List.pairwise_map.mpr ?_
    refine List.Pairwise.imp_of_mem ?_ (nd.filter _)
    intro a b ha hb hne e
    obtain ⟨a1, a2⟩ := List.mem_filter.mp ha
    obtain ⟨b1, b2⟩ := List.mem_filter.mp hb
    exact hne (inj a a1 b b1 (by simpa using a2) (by simpa using b2) e)
  · intro y hy
    obtain ⟨x, hx, rfl⟩ := List.mem_map.mp hy
    obtain ⟨h1, h2⟩ := List.mem_filter.mp hx
    obtain ⟨h3, h4⟩ := hf x h1 (by simpa using h2)
    exact List.mem_filter.mpr ⟨h3, by simpa using h4⟩
/-- the rows of a table, or its columns -/
theorem cnt_rows {α β γ : Type} {xs : List α} {ys : List β} {f : α → β → γ} {p : γ → Prop} : cnt (xs.flatMap fun x => ys.map (f x)) p = (xs.map fun x => cnt ys fun y => p (f x y)).sum := by
  induction xs with
  | nil => rfl
  | cons x xs ih =>
    rw [List.flatMap_cons, cnt_append, ih, cnt_map, List.map_cons, List.sum_cons]
theorem sum_add {α : Type} {L : List α} {f g : α → Nat} : (L.map fun x => f x + g x).sum = (L.map f).sum + (L.map g).sum := by
  induction L with
  | nil => rfl
  | cons x L ih => simp only [List.map_cons, List.sum_cons, ih]; omega
theorem cnt_cons {α : Type} {x : α} {L : List α} {p : α → Prop} : cnt (x :: L) p = cnt [x] p + cnt L p := cnt_append (L := [x])
theorem cnt_cols {α β γ : Type} {xs : List α} {ys : List β} {f : α → β → γ} {p : γ → Prop} : cnt (xs.flatMap fun x => ys.map (f x)) p = (ys.map fun y => cnt xs fun x => p (f x y)).sum := by
  induction xs with
  | nil =>
    show 0 = _
    induction ys with
    | nil => rfl
    | cons y ys ih => rw [List.map_cons, List.sum_cons, ← ih] <;> rfl
  | cons x xs ih =>
    rw [List.flatMap_cons, cnt_append, ih, cnt_map]
    have e : (fun y => cnt (x :: xs) fun x => p (f x y)) = fun y => cnt [x] (fun x => p (f x y)) + cnt xs (fun x => p (f x y)) := by
      funext y
      exact cnt_cons
    rw [e, sum_add]
    congr 1
    clear ih e
    induction ys with
    | nil => rfl
    | cons y ys ih2 =>
      rw [cnt_cons, List.map_cons, List.sum_cons, ih2]
      rfl
theorem sum_const {α : Type} {L : List α} {f : α → Nat} {p : α → Prop} {c : Nat} (h1 : ∀ x ∈ L, p x → f x = c) (h2 : ∀ x ∈ L, ¬ p x → f x = 0) : (L.map f).sum = cnt L p * c := by
  induction L with
  | nil => rw [cnt_nil, Nat.zero_mul]; rfl
  | cons x L ih =>
    rw [List.map_cons, List.sum_cons, ih (fun y hy => h1 y (List.mem_cons_of_mem _ hy)) (fun y hy => h2 y (List.mem_cons_of_mem _ hy)), cnt_cons, Nat.add_mul]
    congr 1
    by_cases hp : p x
    · rw [h1 x List.mem_cons_self hp]
      have : cnt [x] p = 1 := by unfold cnt; simp [hp]
      rw [this, Nat.one_mul]
    · rw [h2 x List.mem_cons_self hp, cnt_zero (by intro y hy; rw [List.mem_singleton.mp hy]; exact hp), Nat.zero_mul]
theorem cnt_eq_len {α : Type} {L : List α} {p : α → Prop} (h : ∀ x ∈ L, p x) : cnt L p = L.length := by
  unfold cnt
  exact List.countP_eq_length.mpr fun x hx => by simp only [decide_eq_true_eq]; exact h x hx

theorem cnt_split {α : Type} {L : List α} {p q : α → Prop} (h : ∀ x ∈ L, q x → p x) : cnt L p = cnt L q + cnt L fun x => p x ∧ ¬ q x := by
  induction L with
  | nil => rfl
  | cons y L ih =>
    rw [cnt_cons, cnt_cons (p := q), cnt_cons (p := fun x => p x ∧ ¬ q x), ih fun z hz => h z (List.mem_cons_of_mem _ hz)]
    have e : cnt [y] p = cnt [y] q + cnt [y] fun x => p x ∧ ¬ q x := by
      have hy := h y List.mem_cons_self
      unfold cnt
      by_cases a : q y
      · simp [a, hy a]
      · by_cases b : p y
        · simp [a, b]
        · simp [a, b]
    omega

/-! ### multiples of e among d e numbers in a row -/
theorem cnt_block {e : Nat} (he : 0 < e) (z : Int) : cnt (List.range e) (fun k : Nat => (e : Int) ∣ (k : Int) + z) = 1 := by
  have hz : (0 : Int) < e := by omega
  have h0 : 0 ≤ (-z) % (e : Int) := Int.emod_nonneg _ (by omega)
  have h1 : (-z) % (e : Int) < e := Int.emod_lt_of_pos _ hz
  have e1 : cnt (List.range e) (fun k : Nat => (e : Int) ∣ (k : Int) + z) = cnt (List.range e) (fun k : Nat => k = ((-z) % (e : Int)).toNat) := by
    refine cnt_congr fun k hk => ?_
    have hk := List.mem_range.mp hk
    constructor
    · rintro ⟨q, hq⟩
      have : -z = (k : Int) + e * (-q) := by rw [Int.mul_neg]; omega
      rw [this, Int.add_mul_emod_self_left, Int.emod_eq_of_lt (by omega) (by omega)]
      omega
    · rintro rfl
      have hd := Int.emod_def (-z) (e : Int)
      refine ⟨-((-z) / (e : Int)), ?_⟩
      rw [Int.mul_neg]
      omega
  rw [e1]
  generalize hw : ((-z) % (e : Int)).toNat = w
  have hw2 : w < e := by omega
  apply Nat.le_antisymm
  · have := cnt_le (L := List.range e) (M := [()]) (p := fun k : Nat => k = w) (q := fun _ => True) (fun _ => ()) List.nodup_range (fun _ _ _ => ⟨List.mem_cons_self, trivial⟩) (fun x _ y _ h1 h2 _ => h1.trans h2.symm)
    exact Nat.le_trans this (by unfold cnt; simp)
  · have := cnt_le (L := [()]) (M := List.range e) (p := fun _ => True) (q := fun k : Nat => k = w) (fun _ => w) (List.pairwise_singleton _ _) (fun _ _ _ => ⟨List.mem_range.mpr hw2, rfl⟩) (fun x _ y _ _ _ _ => rfl)
    exact Nat.le_trans (by unfold cnt; simp) this
theorem cnt_mult {e : Nat} (he : 0 < e) : ∀ (d : Nat) (z : Int), cnt (List.range (d * e)) (fun k : Nat => (e : Int) ∣ (k : Int) + z) = d
  | 0, z => by rw [Nat.zero_mul]; rfl
  | d + 1, z => by
    rw [Nat.add_mul, Nat.one_mul, List.range_add, cnt_append, cnt_mult he d z, cnt_map]
    have e2 : cnt (List.range e) (fun k : Nat => (e : Int) ∣ ((d * e + k : Nat) : Int) + z) = cnt (List.range e) (fun k : Nat => (e : Int) ∣ (k : Int) + ((d : Int) * e + z)) := by
      refine cnt_congr fun k _ => ?_
      rw [show ((d * e + k : Nat) : Int) + z = (k : Int) + ((d : Int) * e + z) by rw [Int.natCast_add, Int.natCast_mul]; omega]
    rw [e2, cnt_block he]
theorem cnt_iota {d e : Nat} {n : Int} (he : 0 < e) (hn : n = (d : Int) * e) (z : Int) : cnt (iota n) (fun k => (e : Int) ∣ k + z) = d := by
  unfold iota
  rw [cnt_map, hn, ← Int.natCast_mul, Int.toNat_natCast]
  exact cnt_mult he d z

/-! ### subgroups -/
structure Sub (G : List Int) (H : List Int → Prop) : Prop where
  zero : H (zero G)
  add : ∀ a b, IsM G a → IsM G b → H a → H b → H (add G a b)
theorem Sub.nat {G : List Int} {H : List Int → Prop} (S : Sub G H) (hp : PosG G) {a : List Int} (ha : IsM G a) (h : H a) : ∀ n : Nat, H (smul G (n : Int) a)
  | 0 => by rw [show ((0 : Nat) : Int) = 0 from rfl, smul_zero ha]; exact S.zero
  | n + 1 => by
    rw [Int.natCast_add, show ((1 : Nat) : Int) = 1 from rfl, smul_succ ha]
    exact S.add _ _ (isM_smul hp ha) ha (S.nat hp ha h n) h
theorem Sub.smul {G : List Int} {H : List Int → Prop} (S : Sub G H) (hp : PosG G) {a : List Int} (ha : IsM G a) (h : H a) (t : Int) : H (smul G t a) := by
  have hpos := prod_pos hp
  rw [← smul_mod (n := prod G) ha (Int.dvd_refl _)]
  have h0 : 0 ≤ t % prod G := Int.emod_nonneg _ (by omega)
  obtain ⟨k, hk⟩ := Int.eq_ofNat_of_zero_le h0
  rw [hk]
  exact S.nat hp ha h k
theorem Sub.cancel {G : List Int} {H : List Int → Prop} (S : Sub G H) (hp : PosG G) {a b : List Int} (ha : IsM G a) (hb : IsM G b) (h : H (K25.add G a b)) (h2 : H b) : H a := by
  have := S.add _ _ (isM_add hp ha hb) (isM_smul hp hb) h (S.smul hp hb h2 (-1))
  rwa [add_neg ha hb] at this

/-- the characters that kill all of H -/
def Ann (G : List Int) (H : List Int → Prop) (c : List Int) : Prop := ∀ h, IsM G h → H h → Kill G c h
theorem Ann.sub {G : List Int} {H : List Int → Prop} (hp : PosG G) : Sub G (Ann G H) :=
  ⟨fun h _ _ => Kill.zero.comm, fun a b ha hb h1 h2 h hh hH => (Kill.add hh ha hb (h1 h hh hH).comm (h2 h hh hH).comm).comm⟩

/-- a translation is one to one -/
theorem cnt_shift {G : List Int} (hp : PosG G) {p q : List Int → Prop} {b : List Int} (hb : IsM G b) (h1 : ∀ y, IsM G y → p y → q (add G y b)) (h2 : ∀ y, IsM G y → q y → p (add G y (smul G (-1) b))) : cnt (mems G) p = cnt (mems G) q := by
  have hs : IsM G (smul G (-1) b) := isM_smul hp hb
  refine Nat.le_antisymm (cnt_le (fun y => add G y b) (nodup_mems G) (fun y hy h => ⟨mem_mems.mpr (isM_add hp (mem_mems.mp hy) hb), h1 y (mem_mems.mp hy) h⟩) (fun x hx y hy _ _ e => ?_))
    (cnt_le (fun y => add G y (smul G (-1) b)) (nodup_mems G) (fun y hy h => ⟨mem_mems.mpr (isM_add hp (mem_mems.mp hy) hs), h2 y (mem_mems.mp hy) h⟩) (fun x hx y hy _ _ e => ?_))
  · have := congrArg (fun z => add G z (smul G (-1) b)) e
    simp only [add_neg (mem_mems.mp hx) hb, add_neg (mem_mems.mp hy) hb] at this
    exact this
  · have := congrArg (fun z => add G z b) e
    simp only [add_neg' (mem_mems.mp hx) hb, add_neg' (mem_mems.mp hy) hb] at this
    exact this

/-- the least first item of H, or the modulus -/
theorem least_first {P : Nat → Prop} {n : Nat} (hn : 0 < n) : ∃ d : Nat, 0 < d ∧ d ≤ n ∧ (d = n ∨ P d) ∧ ∀ k, 0 < k → k < d → ¬ P k := by
  classical
  have key : ∀ m, m ≤ n → (∃ d : Nat, 0 < d ∧ d ≤ m ∧ P d ∧ ∀ k, 0 < k → k < d → ¬ P k) ∨ ∀ k, 0 < k → k ≤ m → ¬ P k := by
    intro m
    induction m with
    | zero => intro _; exact .inr fun k h1 h2 => by omega
    | succ m ih =>
      intro hm
      rcases ih (by omega) with ⟨d, h1, h2, h3, h4⟩ | h
      · exact .inl ⟨d, h1, by omega, h3, h4⟩
      · by_cases hP : P (m + 1)
        · exact .inl ⟨m + 1, by omega, Nat.le_refl _, hP, fun k h1 h2 => h k h1 (by omega)⟩
        · refine .inr fun k h1 h2 => ?_
          by_cases e : k = m + 1
          · rw [e]; exact hP
          · exact h k h1 (by omega)
  rcases key n (Nat.le_refl _) with ⟨d, h1, h2, h3, h4⟩ | h
  · exact ⟨d, h1, h2, .inr h3, h4⟩
  · exact ⟨n, hn, Nat.le_refl _, .inl rfl, fun k h1 h2 => h k h1 (by omega)⟩

theorem count_main : ∀ {G : List Int} {H : List Int → Prop}, PosG G → Sub G H → ((cnt (mems G) H * cnt (mems G) (Ann G H) : Nat) : Int) = prod G
  | [], H, _, S => by
    have h1 : cnt (mems []) H = 1 := by
      rw [cnt_eq_len]
      · rfl
      · intro x hx
        rw [List.mem_singleton.mp hx]
        exact S.zero
    have h2 : cnt (mems []) (Ann [] H) = 1 := by
      rw [cnt_eq_len]
      · rfl
      · intro x hx h _ _
        show (1 : Int) ∣ _
        exact Int.one_dvd _
    rw [h1, h2]
    rfl
  | n :: R, H, hp, S => by
    have hpR : PosG R := hp.tail
    have hn : 0 < n := hp.head
    have hN := prod_pos hpR
    obtain ⟨d, d0, dn, hd, hmin⟩ := least_first (P := fun k => ∃ y, IsM R y ∧ H ((k : Int) :: y)) (n := n.toNat) (by omega)
    -- the element a = (d mod n, g)
    obtain ⟨g, hg, hHg⟩ : ∃ g, IsM R g ∧ H (((d : Int) % n) :: g) := by
      rcases hd with e | ⟨y, hy, hH⟩
      · refine ⟨K25.zero R, isM_zero hpR, ?_⟩
        have e2 : (d : Int) % n = 0 := by
          rw [show (d : Int) = n by omega, Int.emod_self]
        rw [e2]
        exact S.zero
      · by_cases hdn : d = n.toNat
        · refine ⟨K25.zero R, isM_zero hpR, ?_⟩
          have e2 : (d : Int) % n = 0 := by
            rw [show (d : Int) = n by omega, Int.emod_self]
          rw [e2]
          exact S.zero
        · refine ⟨y, hy, ?_⟩
          rw [Int.emod_eq_of_lt (by omega) (by omega)]
          exact hH
    have ha : IsM (n :: R) (((d : Int) % n) :: g) := ⟨⟨Int.emod_nonneg _ (by omega), Int.emod_lt_of_pos _ hn⟩, hg⟩
    -- multiples of a
    have hmul : ∀ t : Int, IsM R (K25.smul R t g) ∧ H ((t * d) % n :: K25.smul R t g) := fun t => by
      refine ⟨isM_smul hpR hg, ?_⟩
      have h1 := S.smul hp ha hHg t
      have h2 : K25.smul (n :: R) t (((d : Int) % n) :: g) = (t * ((d : Int) % n)) % n :: K25.smul R t g := rfl
      rw [h2] at h1
      have h3 : (t * ((d : Int) % n)) % n = (t * d) % n := by rw [Int.mul_emod, Int.emod_emod, ← Int.mul_emod]
      rwa [h3] at h1
    -- a first item is a multiple of d
    have hdiv : ∀ (x : Int) (y : List Int), 0 ≤ x → x ≤ n → IsM R y → H ((x % n) :: y) → (d : Int) ∣ x := by
      intro x y h0 h1 hy hH
      have hxm : 0 ≤ x % n ∧ x % n < n := ⟨Int.emod_nonneg _ (by omega), Int.emod_lt_of_pos _ hn⟩
      obtain ⟨m1, m2⟩ := hmul (-(x / d))
      have h2 := S.add _ _ (IsM.cons hxm hy : IsM (n :: R) (x % n :: y)) (IsM.cons ⟨Int.emod_nonneg _ (by omega), Int.emod_lt_of_pos _ hn⟩ m1 : IsM (n :: R) ((-(x / d) * d) % n :: K25.smul R (-(x / d)) g)) hH m2
      have h3 : K25.add (n :: R) (x % n :: y) ((-(x / d) * d) % n :: K25.smul R (-(x / d)) g) = (x % n + (-(x / d) * d) % n) % n :: K25.add R y (K25.smul R (-(x / d)) g) := rfl
      rw [h3] at h2
      have hr0 : 0 ≤ x % (d : Int) := Int.emod_nonneg _ (by omega)
      have hr1 : x % (d : Int) < d := Int.emod_lt_of_pos _ (by omega)
      have h4 : (x % n + (-(x / d) * d) % n) % n = x % d := by
        rw [← Int.add_emod]
        have e1 := Int.emod_def x d
        have e2 : x + -(x / d) * d = x % d := by rw [e1, Int.neg_mul, Int.mul_comm]; omega
        rw [e2]
        exact Int.emod_eq_of_lt hr0 (by omega)
      rw [h4] at h2
      apply Int.dvd_of_emod_eq_zero
      apply Classical.byContradiction
      intro hne
      obtain ⟨k, hk⟩ := Int.eq_ofNat_of_zero_le hr0
      refine hmin k (by omega) (by omega) ⟨_, isM_add hpR hy m1, ?_⟩
      rw [← hk]
      exact h2
    -- n = d e
    obtain ⟨e', he'⟩ : (d : Int) ∣ n := by
      refine hdiv n (K25.zero R) (by omega) (Int.le_refl _) (isM_zero hpR) ?_
      rw [Int.emod_self]
      exact S.zero
    have he0 : 0 < e' := by
      apply Classical.byContradiction
      intro h
      have : (d : Int) * e' ≤ 0 := Int.mul_nonpos_of_nonneg_of_nonpos (by omega) (by omega)
      omega
    obtain ⟨e, rfl⟩ := Int.eq_ofNat_of_zero_le (Int.le_of_lt he0)
    have he : 0 < e := by omega
    -- the rest of H
    have S' : Sub R (fun y => H (0 :: y)) := ⟨S.zero, fun a b ha hb h1 h2 => by
      have q := S.add _ _ (IsM.cons ⟨Int.le_refl 0, hn⟩ ha : IsM (n :: R) (0 :: a)) (IsM.cons ⟨Int.le_refl 0, hn⟩ hb : IsM (n :: R) (0 :: b)) h1 h2
      have q2 : K25.add (n :: R) (0 :: a) (0 :: b) = 0 :: K25.add R a b := by
        show (0 + 0) % n :: _ = _
        rw [Int.add_zero, Int.zero_emod]
      rwa [q2] at q⟩
    have ih := count_main hpR S'
    -- how many are in H
    have cH : cnt (mems (n :: R)) H = e * cnt (mems R) fun y => H (0 :: y) := by
      show cnt ((iota n).flatMap fun k => (mems R).map (k :: ·)) H = _
      rw [cnt_rows (f := fun k y => k :: y)]
      have e1 : cnt (iota n) (fun k => (d : Int) ∣ k + 0) = e := cnt_iota d0 (by rw [he', Int.mul_comm]) 0
      rw [← e1]
      refine sum_const (fun x hx hdx => ?_) fun x hx hdx => ?_
      · rw [Int.add_zero] at hdx
        obtain ⟨hx0, hx1⟩ := mem_iota.mp hx
        obtain ⟨t, ht⟩ := hdx
        obtain ⟨m1, m2⟩ := hmul t
        have hxe : (t * d) % n = x := by rw [ht, Int.mul_comm]; exact Int.emod_eq_of_lt (by omega) (by omega)
        rw [hxe] at m2
        have shift : ∀ y, IsM R y → K25.add (n :: R) (x :: y) (0 :: K25.zero R) = x :: y := fun y hy => add_zero (IsM.cons ⟨hx0, hx1⟩ hy : IsM (n :: R) (x :: y))
        refine (cnt_shift hpR m1 (fun y hy h => ?_) fun y hy h => ?_).symm
        · have q := S.add _ _ (IsM.cons ⟨Int.le_refl 0, hn⟩ hy : IsM (n :: R) (0 :: y)) (IsM.cons ⟨hx0, hx1⟩ m1 : IsM (n :: R) (x :: K25.smul R t g)) h m2
          have q2 : K25.add (n :: R) (0 :: y) (x :: K25.smul R t g) = x :: K25.add R y (K25.smul R t g) := by
            show (0 + x) % n :: _ = _
            rw [Int.zero_add, Int.emod_eq_of_lt hx0 hx1]
          rwa [q2] at q
        · have q0 := S.smul hp (IsM.cons ⟨hx0, hx1⟩ m1 : IsM (n :: R) (x :: K25.smul R t g)) m2 (-1)
          have q := S.add _ _ (IsM.cons ⟨hx0, hx1⟩ hy : IsM (n :: R) (x :: y)) (isM_smul hp (IsM.cons ⟨hx0, hx1⟩ m1 : IsM (n :: R) (x :: K25.smul R t g))) h q0
          have q2 : K25.add (n :: R) (x :: y) (K25.smul (n :: R) (-1) (x :: K25.smul R t g)) = 0 :: K25.add R y (K25.smul R (-1) (K25.smul R t g)) := by
            show (x + (-1 * x) % n) % n :: _ = _
            rw [Int.add_emod_emod, show x + -1 * x = 0 by omega, Int.zero_emod]
          rwa [q2] at q
      · obtain ⟨hx0, hx1⟩ := mem_iota.mp hx
        rw [Int.add_zero] at hdx
        refine cnt_zero fun y hy h => hdx ?_
        refine hdiv x y hx0 (Int.le_of_lt hx1) (mem_mems.mp hy) ?_
        rwa [Int.emod_eq_of_lt hx0 hx1]
    -- who kills H
    have hK : ∀ (c : Int) (cs : List Int), 0 ≤ c → c < n → IsM R cs → (Ann (n :: R) H (c :: cs) ↔ Ann R (fun y => H (0 :: y)) cs ∧ n * prod R ∣ c * d * prod R + n * pw R cs g) := by
      intro c cs c0 c1 hcs
      have hc : IsM (n :: R) (c :: cs) := ⟨⟨c0, c1⟩, hcs⟩
      have pa : n * prod R ∣ pw (n :: R) (c :: cs) (((d : Int) % n) :: g) ↔ n * prod R ∣ c * d * prod R + n * pw R cs g := by
        show n * prod R ∣ c * ((d : Int) % n) * prod R + n * pw R cs g ↔ _
        have e1 : c * ((d : Int) % n) * prod R + n * pw R cs g = (c * d * prod R + n * pw R cs g) - n * prod R * (c * (d / n)) := by
          rw [Int.emod_def]
          generalize (d : Int) / n = q
          simp only [Int.mul_sub, Int.sub_mul, Int.mul_assoc, Int.mul_comm, Int.mul_left_comm]
          omega
        rw [e1]
        constructor
        · intro h
          have := Int.dvd_add h (Int.dvd_mul_right (n * prod R) (c * (d / n)))
          rwa [Int.sub_add_cancel] at this
        · intro h
          exact Int.dvd_sub h (Int.dvd_mul_right _ _)
      have p0 : ∀ y, IsM R y → (Kill (n :: R) (c :: cs) (0 :: y) ↔ Kill R cs y) := fun y hy => by
        show n * prod R ∣ c * 0 * prod R + n * pw R cs y ↔ prod R ∣ pw R cs y
        rw [Int.mul_zero, Int.zero_mul, Int.zero_add]
        exact Int.mul_dvd_mul_iff_left (by omega)
      constructor
      · intro h
        refine ⟨fun y hy hH => (p0 y hy).mp (h _ ⟨⟨Int.le_refl 0, hn⟩, hy⟩ hH), pa.mp (h _ ha hHg)⟩
      · rintro ⟨h1, h2⟩ z hz hH
        cases z with
        | nil => exact hz.elim
        | cons x y =>
          obtain ⟨⟨hx0, hx1⟩, hy⟩ := hz
          obtain ⟨t, ht⟩ := hdiv x y hx0 (Int.le_of_lt hx1) hy (by rwa [Int.emod_eq_of_lt hx0 hx1])
          obtain ⟨m1, m2⟩ := hmul t
          have hxe : (t * d) % n = x := by rw [ht, Int.mul_comm]; exact Int.emod_eq_of_lt (by omega) (by omega)
          have kt : Kill (n :: R) (c :: cs) (K25.smul (n :: R) t (((d : Int) % n) :: g)) := Kill.smul hc ha (pa.mpr h2)
          have et : K25.smul (n :: R) t (((d : Int) % n) :: g) = x :: K25.smul R t g := by
            show (t * ((d : Int) % n)) % n :: _ = _
            rw [Int.mul_emod, Int.emod_emod, ← Int.mul_emod, hxe]
          rw [et] at kt
          rw [hxe] at m2
          have mt : IsM (n :: R) (x :: K25.smul R t g) := ⟨⟨hx0, hx1⟩, m1⟩
          have my : IsM (n :: R) (x :: y) := ⟨⟨hx0, hx1⟩, hy⟩
          -- (x, y) - t a = (0, y')
          have hs := S.add _ _ my (isM_smul hp mt) hH (S.smul hp mt m2 (-1))
          have es : K25.add (n :: R) (x :: y) (K25.smul (n :: R) (-1) (x :: K25.smul R t g)) = 0 :: K25.add R y (K25.smul R (-1) (K25.smul R t g)) := by
            show (x + (-1 * x) % n) % n :: _ = _
            rw [Int.add_emod_emod, show x + -1 * x = 0 by omega, Int.zero_emod]
          have my' : IsM R (K25.add R y (K25.smul R (-1) (K25.smul R t g))) := isM_add hpR hy (isM_smul hpR m1)
          rw [es] at hs
          have k0 : Kill (n :: R) (c :: cs) (0 :: K25.add R y (K25.smul R (-1) (K25.smul R t g))) := (p0 _ my').mpr (h1 _ my' hs)
          have ks := Kill.add hc (IsM.cons ⟨Int.le_refl 0, hn⟩ my' : IsM (n :: R) (0 :: _)) mt k0 kt
          rw [← es, add_neg' my mt] at ks
          exact ks
    have cK : cnt (mems (n :: R)) (Ann (n :: R) H) = cnt (mems R) (Ann R fun y => H (0 :: y)) * d := by
      show cnt ((iota n).flatMap fun k => (mems R).map (k :: ·)) _ = _
      rw [cnt_cols (f := fun k y => k :: y)]
      refine sum_const (fun cs hcs hA => ?_) fun cs hcs hA => ?_
      · have hcs' := mem_mems.mp hcs
        -- e g is in the rest
        obtain ⟨m1, m2⟩ := hmul e
        have e1 : ((e : Int) * d) % n = 0 := by rw [Int.mul_comm, ← he', Int.emod_self]
        rw [e1] at m2
        obtain ⟨q1, hq1⟩ := hA _ m1 m2
        obtain ⟨q2, hq2⟩ := pw_smul (t := (e : Int)) hcs' hg
        have hm : (e : Int) * pw R cs g = prod R * (q1 - q2) := by rw [Int.mul_sub]; omega
        rw [← cnt_iota he he' (q1 - q2)]
        refine cnt_congr fun c hc => ?_
        obtain ⟨c0, c1⟩ := mem_iota.mp hc
        rw [hK c cs c0 c1 hcs']
        have e3 : c * d * prod R + n * pw R cs g = (d * prod R) * (c + (q1 - q2)) := by
          rw [he', Int.mul_assoc (d : Int) e, hm]
          rw [show c * ↑d * prod R = d * prod R * c by simp only [Int.mul_comm, Int.mul_left_comm], Int.mul_add, ← Int.mul_assoc]
        have e4 : n * prod R = (d * prod R) * e := by
          rw [he']
          simp only [Int.mul_assoc, Int.mul_comm, Int.mul_left_comm]
        rw [e3, e4]
        have hne : (d : Int) * prod R ≠ 0 := Int.ne_of_gt (Int.mul_pos (by omega) hN)
        constructor
        · rintro ⟨_, h⟩
          exact (Int.mul_dvd_mul_iff_left hne).mp h
        · intro h
          exact ⟨hA, (Int.mul_dvd_mul_iff_left hne).mpr h⟩
      · refine cnt_zero fun c hc h => ?_
        obtain ⟨c0, c1⟩ := mem_iota.mp hc
        exact hA ((hK c cs c0 c1 (mem_mems.mp hcs)).mp h).1
    rw [cH, cK]
    show _ = n * prod R
    rw [← ih, he']
    simp only [Int.natCast_mul, Int.mul_assoc, Int.mul_comm, Int.mul_left_comm]

/-- the killers of the killers -/
theorem ann_ann {G : List Int} {H : List Int → Prop} (hp : PosG G) (S : Sub G H) {x : List Int} (hx : IsM G x) : Ann G (Ann G H) x ↔ H x := by
  have h1 := count_main hp S
  have h2 := count_main hp (Ann.sub (H := H) hp)
  have hN := prod_pos hp
  have hsub : ∀ y, IsM G y → H y → Ann G (Ann G H) y := fun y hy hH c hc hA => (hA y hy hH).comm
  refine ⟨fun h => ?_, hsub x hx⟩
  have hpos : 0 < cnt (mems G) (Ann G H) := by
    apply Nat.pos_of_ne_zero
    intro e
    rw [e] at h2
    simp at h2
    omega
  have heq : cnt (mems G) H = cnt (mems G) (Ann G (Ann G H)) := by
    have h3 : cnt (mems G) (Ann G H) * cnt (mems G) H = cnt (mems G) (Ann G H) * cnt (mems G) (Ann G (Ann G H)) := by
      have : ((cnt (mems G) (Ann G H) * cnt (mems G) H : Nat) : Int) = ((cnt (mems G) (Ann G H) * cnt (mems G) (Ann G (Ann G H)) : Nat) : Int) := by
        rw [h2, ← h1, Nat.mul_comm]
      omega
    exact Nat.eq_of_mul_eq_mul_left hpos h3
  -- H within, as many: the same
  classical
  apply Classical.byContradiction
  intro hn
  have hlt : cnt (mems G) H + 1 ≤ cnt (mems G) (Ann G (Ann G H)) := by
    have e1 : cnt (mems G) (Ann G (Ann G H)) = cnt (mems G) H + cnt (mems G) (fun y => Ann G (Ann G H) y ∧ ¬ H y) := cnt_split fun y hy => hsub y (mem_mems.mp hy)
    have e2 : 1 ≤ cnt (mems G) (fun y => Ann G (Ann G H) y ∧ ¬ H y) := by
      have := cnt_le (L := [()]) (M := mems G) (p := fun _ => True) (q := fun y => Ann G (Ann G H) y ∧ ¬ H y) (fun _ => x) (List.pairwise_singleton _ _) (fun _ _ _ => ⟨mem_mems.mpr hx, h, hn⟩) (fun _ _ _ _ _ _ _ => rfl)
      refine Nat.le_trans ?_ this
      unfold cnt
      simp
    omega
  omega
end K25
set_option Elab.async false
set_option linter.all false
set_option maxRecDepth 100000
set_option maxHeartbeats 2000000
/-! rules that the hand layer lacks: lcm, repr of data, in a tuple of data, zip of three tuples, a display with one tuple key, sorted tuples of ints -/
namespace K25
open PySem PySem.Spec PyProof.Rows L2

section
variable {X : Cx}
/-! ### math.lcm -/
def rLcm : List V → Hp → VK → Prop := fun vs H Q => ∃ a b : Int, vs = [.int a, .int b] ∧ a.natAbs < 2 ^ 30 ∧ b.natAbs < 2 ^ 30 ∧ Q (.int ((Nat.lcm a.natAbs b.natAbs : Nat) : Int)) H
theorem lcm_small {a b : Nat} (ha : a < 2 ^ 30) (hb : b < 2 ^ 30) : ((((Nat.lcm 1 a).lcm b : Nat) : Int)).natAbs.log2 < bitsLine := by
  rw [Nat.lcm_one_left, Int.natAbs_natCast]
  by_cases h0 : a.lcm b = 0
  · rw [h0, Nat.log2_zero]
    decide +kernel
  · have h1 : a.lcm b ≤ a * b := Nat.le_of_dvd (Nat.pos_of_ne_zero fun e => h0 (by rw [Nat.lcm, e]; simp)) (Nat.lcm_dvd_mul a b)
    have h2 : a * b < 2 ^ 60 := by
      have : a * b ≤ 2 ^ 30 * 2 ^ 30 - 1 := by
        have h3 : a * b ≤ (2 ^ 30 - 1) * (2 ^ 30 - 1) := Nat.mul_le_mul (by omega) (by omega)
        omega
      omega
    have h3 : (a.lcm b).log2 < 60 := (Nat.log2_lt h0).mpr (by omega)
    have h4 : 60 ≤ bitsLine := by decide +kernel
    omega
theorem cr_lcm : CallR X (.builtin "math.lcm") rLcm := by
  intro pins s sg H xs us Q I r h
  obtain ⟨a, b, e, ha, hb, q⟩ := h
  subst e
  obtain ⟨t, u, e⟩ := Vals.int2 r
  subst e
  have hz := lcm_small ha hb
  have ha' : a.natAbs < 2 ^ 64 := Nat.lt_trans ha (by decide)
  have hb' : b.natAbs < 2 ^ 64 := Nat.lt_trans hb (by decide)
  refine PySem.W.mg_lcm_v (c := ((Nat.lcm a.natAbs b.natAbs : Nat) : Int)) ha' hb' ?_ ?_ ?_
  · rw [Nat.lcm_one_left]
  · rw [Nat.lcm_one_left] at hz
    exact hz
  · exact ⟨.int _, H, I.tok _, ⟨_, rfl⟩, q⟩

/-! ### repr of nested lists and tuples, where no repr is under way -/
def rReprD (K : PySem.W.Frag) : List V → Hp → VK → Prop := fun xs H Q => ∃ a d, xs = [.ref a] ∧ Dp K H (.ref a) d ∧ d.showable = true ∧ d.hasDict = false ∧ d.depth ≤ 60 ∧ d.shown.length ≤ sizeLine ∧ Q (.str d.shown) H
theorem cr_reprD (hg : X.A.guards = some []) (hu : X.A.units + 64 < cLine) : CallR X (.builtin "repr") (rReprD X.K) := by
  intro pins s sg H xs us Q I r h
  obtain ⟨a, d, e, hd, hs, hn, hdep, hz, q⟩ := h
  subst e
  obtain ⟨u, eu, ru⟩ := vals1 r
  subst eu
  obtain ⟨as, rd⟩ := Dp.reads I d (.ref a) u hd ru
  obtain rfl : u = Value.ref a := ru
  refine repr_of_reads' rd hs (fun e => absurd (hn.symm.trans e) (by decide)) hg (by omega) (fun _ _ e => e) (fun h' w tk hk => ?_) hz
  exact ⟨.str d.shown, H, I.kept hk, ⟨w, rfl⟩, q⟩

/-! ### x in t, x not in t: t a tuple of data -/
def rInTD (K : PySem.W.Frag) : R2 := fun x y H Q => ∃ d ds, Dp K H x d ∧ Dp K H y (.tuple ds) ∧ SeqAt.shaped d = true ∧ SeqAt.shaped (.tuple ds) = true ∧ Q (.bl (ds.any fun z => PyData.eqv z d)) H
def rNotInTD (K : PySem.W.Frag) : R2 := fun x y H Q => ∃ d ds, Dp K H x d ∧ Dp K H y (.tuple ds) ∧ SeqAt.shaped d = true ∧ SeqAt.shaped (.tuple ds) = true ∧ Q (.bl (!ds.any fun z => PyData.eqv z d)) H
theorem op_inTD (hu : X.A.units + 65 < cLine) : OpR X (compareOp .In) (rInTD X.K) := by
  intro pins s sg H x y v u Q I rx ry h
  obtain ⟨d, ds, hd, he, sd, se, q⟩ := h
  obtain ⟨as, r1⟩ := Dp.reads I d x v hd rx
  obtain ⟨bs, r2⟩ := Dp.reads I (.tuple ds) y u he ry
  have hr := SeqAt.depth_of_shaped sd
  refine SeqAt.in_tuple_reads r2 r1 (SeqAt.canLay_of_shaped se) (SeqAt.canLay_of_shaped sd) ?_ ⟨.bl _, H, I, rfl, q⟩
  have := Nat.min_le_right (PyData.depthAll ds) d.depth
  omega
theorem op_notInTD (hu : X.A.units + 65 < cLine) : OpR X (compareOp .NotIn) (rNotInTD X.K) := by
  intro pins s sg H x y v u Q I rx ry h
  obtain ⟨d, ds, hd, he, sd, se, q⟩ := h
  obtain ⟨as, r1⟩ := Dp.reads I d x v hd rx
  obtain ⟨bs, r2⟩ := Dp.reads I (.tuple ds) y u he ry
  have hr := SeqAt.depth_of_shaped sd
  refine SeqAt.notIn_tuple_reads r2 r1 (SeqAt.canLay_of_shaped se) (SeqAt.canLay_of_shaped sd) ?_ ⟨.bl _, H, I, rfl, q⟩
  have := Nat.min_le_right (PyData.depthAll ds) d.depth
  omega

/-! ### {k: v}, k a tuple of ints and texts -/
def tDisp1T (tk tv : TE) : TE := fun sg H Q => ∀ p, H p = none → tk sg (upd H p (.dT [])) fun x H1 => tv sg H1 fun y H2 => H2 p = some (.dT []) ∧ ∃ b ks, x = .ref b ∧ H2 b = some (.tup (ks.map kV)) ∧ Q (.ref p) (upd H2 p (.dT [(ks, y)]))
theorem pe_disp1T {k v : Expr} {pos : Pos} {tk tv : TE} (hu : X.A.units + 1 < cLine) (hk : PE X k tk) (hv : PE X v tv) : PE X (.Dict [some k] [v] pos) (tDisp1T tk tv) := by
  refine ⟨fun pins s sg H Q I q => ?_⟩
  have hn := I.hok.fresh (Nat.le_refl s.heap.objs.size)
  have I1 := I.laid (o := .dT []) (t' := s.toks) (fun _ _ z => Heap.get?_push_of_some _ z) (Nat.le_refl _) (dt_empty s.heap I.big)
  have hroom : (tupleKind (mixKind X.prog X.w)).room X.A := by
    show X.A.units < cLine
    omega
  rw [arm_eval_Dict, zip_pairTrees [some k] [v] X.env pos rfl rfl, dictDisplay_pairs _ (by simp [pairTrees]) (by show 1 < 17; decide)]
  refine wpAny_bind (wpAny_standAt (wpAny_bind ?_))
  refine wpAny_subDictH (knd := tupleKind (mixKind X.prog X.w)) (Q := fun d s' => wpAny (model X.prog X.w) X.A (pure (Value.ref d)) (EP X pins sg Q) X.xe s') hroom (by show 1 ≤ 15; decide) ?_
  refine pairTrees_cons_walk (thn (hk.run pins _ sg _ _ I1 (q _ hn)) fun u s1 ⟨x, H1, J1, rx, q1⟩ => thn (hv.run pins s1 sg H1 _ J1 q1) fun w2 s2 ⟨y, H2, J2, ry, q2⟩ => pairTrees_nil_walk ?_)
  obtain ⟨e, b, ks, ex, eb, q3⟩ := q2
  subst ex
  obtain rfl : u = Value.ref b := rx
  obtain ⟨z, hd, xs, rel, dd⟩ := dt_of J2.hok e
  cases rel
  refine ⟨[(ks, b, w2)], ⟨rfl, rfl, key_of J2.hok eb, trivial⟩, dd, fun h' tk hm hs => ?_⟩
  refine wpAny_pure ⟨.ref s.heap.objs.size, _, ?_, rfl, q3⟩
  obtain ⟨o, es, ep, ho, h2, h3, h4, _, h5⟩ := hm
  refine d_write J2 (by rw [e]; exact True.intro) hs ⟨o, ho⟩ ⟨by show 1 ≤ sizeLine; decide, hd, [(ks, b, w2)], .cons ⟨rfl, ?_, ry⟩ .nil, o, es, ep, ho, h2, h3, h4, h5⟩
  have hne : b ≠ s.heap.objs.size := ne_of eb e (fun z => by cases z)
  show upd H2 s.heap.objs.size _ b = _
  rw [upd_ne hne]
  exact eb

/-! ### zip(a, b, c) of three tuples of one length -/
def Itz3 (K : PySem.W.Frag) (a b c : Addr) : It :=
  ⟨fun i H => ∃ xs ys zs x y z, SqT K H a xs ∧ SqT K H b ys ∧ SqT K H c zs ∧ xs[i]? = some x ∧ ys[i]? = some y ∧ zs[i]? = some z ∧ xs.length = ys.length ∧ xs.length = zs.length,
    fun i H v H' => ∃ T x y z, v = .ref T ∧ H T = none ∧ H' = upd H T (.tup [x, y, z]) ∧ (∀ xs, SqT K H a xs → xs[i]? = some x) ∧ (∀ ys, SqT K H b ys → ys[i]? = some y) ∧ ∀ zs, SqT K H c zs → zs[i]? = some z,
    fun i H => ∃ xs ys zs, SqT K H a xs ∧ SqT K H b ys ∧ SqT K H c zs ∧ xs.length = i ∧ ys.length = i ∧ zs.length = i⟩
abbrev z3Cells (N : Addr) : List Addr := [N + 5, N + 3, N + 4, N, N + 1, N + 2]
abbrev z3At (N a b c : Addr) (i : Nat) (h : Heap) : Prop := IsZip h (N + 5) (N + 3) (N + 4) .none ∧ IsTupOf3 h (N + 3) (.ref N) (.ref (N + 1)) (.ref (N + 2)) ∧ (∃ x y z, IsTupOf3 h (N + 4) x y z) ∧
  h.IsTupleIter N a i ∧ h.IsTupleIter (N + 1) b i ∧ h.IsTupleIter (N + 2) c i
theorem turn_zip3 {P : Program} {w : World} {K : PySem.W.Frag} {elts : List Expr} {kk : Nat} {tpos : Pos} {N a b c : Addr} (la : a < N) (lb : b < N) (lc : c < N) :
    Turn P w K (.Tuple elts kk tpos) (Itz3 K a b c) (z3Cells N) (N + 5) (z3At N a b c) where
  mem := List.mem_cons_self
  obj := fun i h st d hd => by
    obtain ⟨hz, hTI, ⟨x, y, z, hTO⟩, ⟨o1, e1, _, d1⟩, ⟨o2, e2, _, d2⟩, ⟨o3, e3, _, d3⟩⟩ := st
    have e' : d = N + 5 ∨ d = N + 3 ∨ d = N + 4 ∨ d = N ∨ d = N + 1 ∨ d = N + 2 := by simpa using hd
    rcases e' with q | q | q | q | q | q
    · rw [q]; exact ⟨_, hz, fun v q => nomatch q⟩
    · rw [q]; exact ⟨_, hTI, fun v q => nomatch q⟩
    · rw [q]; exact ⟨_, hTO, fun v q => nomatch q⟩
    · rw [q]; exact ⟨o1, e1, fun v q => by rw [d1] at q; cases q⟩
    · rw [q]; exact ⟨o2, e2, fun v q => by rw [d2] at q; cases q⟩
    · rw [q]; exact ⟨o3, e3, fun v q => by rw [d3] at q; cases q⟩
  keep := fun i h h' st k => by
    obtain ⟨hz, hTI, ⟨x, y, z, hTO⟩, h1, h2, h3⟩ := st
    exact ⟨k (N + 5) (by simp) _ hz, k (N + 3) (by simp) _ hTI, ⟨x, y, z, k (N + 4) (by simp) _ hTO⟩, h1.at fun o q => k N (by simp) o q, h2.at fun o q => k (N + 1) (by simp) o q, h3.at fun o q => k (N + 2) (by simp) o q⟩
  item := by
    intro X hP hw hK hc i pins s sg H E I hf st hg
    subst hP hw hK
    obtain ⟨hz, hTI, ⟨x0, y0, z0, hTO⟩, h1, h2, h3⟩ := st
    obtain ⟨xs, ys, zs, x, y, z, qa, qb, qc, hx, hy, hzz, _, _⟩ := hg
    obtain ⟨i1, r1, p1, _⟩ := I.tuple qa
    obtain ⟨i2, r2, p2, _⟩ := I.tuple qb
    obtain ⟨i3, r3, p3, _⟩ := I.tuple qc
    obtain ⟨u1, hu1, ru1⟩ := r1.get hx
    obtain ⟨u2, hu2, ru2⟩ := r2.get hy
    obtain ⟨u3, hu3, ru3⟩ := r3.get hzz
    have hh : X.A.in1.handled = none := I.ok.hd hc
    have D1 := Draws.tuple (prog := X.prog) (w := X.w) hh N a (Nat.ne_of_lt la) i1.toArray
    have D2 := Draws.tuple (prog := X.prog) (w := X.w) hh (N + 1) b (Nat.ne_of_lt (Nat.lt_succ_of_lt lb)) i2.toArray
    have D3 := Draws.tuple (prog := X.prog) (w := X.w) hh (N + 2) c (Nat.ne_of_lt (Nat.lt_succ_of_lt (Nat.lt_succ_of_lt lc))) i3.toArray
    have S := zip_sep3 (N := N) (fp1 := [a]) (fp2 := [b]) (fp3 := [c]) (fun d hd => by rw [List.mem_singleton.mp hd]; exact la) (fun d hd => by rw [List.mem_singleton.mp hd]; exact lb) (fun d hd => by rw [List.mem_singleton.mp hd]; exact lc)
    have g1 : i1.toArray[i]? = some u1 := by simpa using hu1
    have g2 : i2.toArray[i]? = some u2 := by simpa using hu2
    have g3 : i3.toArray[i]? = some u3 := by simpa using hu3
    have lt1 : i < i1.toArray.size := (Array.getElem?_eq_some_iff.mp g1).1
    have lt2 : i < i2.toArray.size := (Array.getElem?_eq_some_iff.mp g2).1
    have lt3 : i < i3.toArray.size := (Array.getElem?_eq_some_iff.mp g3).1
    have hlN : N + 5 < s.heap.objs.size := Heap.lt_size hz
    refine wpAny_pyNext_zipD3_item S D1 D2 D3 hz hTI hTO ⟨h1, p1⟩ ⟨h2, p2⟩ ⟨h3, p3⟩ lt1 lt2 lt3 fun w1 w2 w3 h' tk y1 y2 y3 b1 b2 d1 d2 d3 b5 b6 hk => ?_
    obtain rfl : u1 = w1 := Option.some.inj (g1.symm.trans y1)
    obtain rfl : u2 = w2 := Option.some.inj (g2.symm.trans y2)
    obtain rfl : u3 = w3 := Option.some.inj (g3.symm.trans y3)
    refine ⟨_, rfl, wpAny_letOwnedTupleGo_zip (s := { s with heap := h', toks := tk }) b1 fun h2' z'' sb => ?_⟩
    have hT2 : h2'.get? s.heap.objs.size = some { cls := .type "tuple", data := .seq #[u1, u2, u3] } := (sb.2 _ (Nat.ne_of_gt hlN)).trans b5
    have new : ObjOk X.prog X.w (upd H s.heap.objs.size (.tup [x, y, z])) h2' s.heap.objs.size (.tup [x, y, z]) :=
      ⟨by show 3 ≤ sizeLine; decide, [u1, u2, u3], .cons ru1 (.cons ru2 (.cons ru3 .nil)), ⟨_, hT2, rfl, _, rfl⟩⟩
    have I1 : Inv X pins sg (upd H s.heap.objs.size (.tup [x, y, z])) { s with heap := h2', toks := tk } :=
      I.turnedNew (ch := z3Cells N) (fun d o hb q => (sb.2 d (fun e => hb (by simp [e]))).trans (hk d o (fun e => hb (by simp [e])) (fun e => hb (by simp [e])) (fun e => hb (by simp [e])) (fun e => hb (by simp [e])) (fun e => hb (by simp [e])) q)) hf (Nat.le_refl _) new
    have ne5 : ∀ j : Nat, j < 5 → N + j ≠ N + 5 := fun j hj e => absurd (Nat.add_left_cancel (n := N) e) (Nat.ne_of_lt hj)
    refine ⟨.ref s.heap.objs.size, _, I1, rfl, ⟨_, x, y, z, rfl, I.hok.fresh (Nat.le_refl _), rfl, fun l hl => by rw [I.tuple_inj hl qa]; exact hx, fun l hl => by rw [I.tuple_inj hl qb]; exact hy, fun l hl => by rw [I.tuple_inj hl qc]; exact hzz⟩, ⟨z'', ?_, ⟨u1, u2, u3, ?_⟩, ?_, ?_, ?_⟩, fun d hd => ?_⟩
    · exact (sb.2 _ S.TIz).trans (hk _ _ S.TIz S.TITO S.TIi1 S.TIi2 S.TIi3 hTI)
    · exact (sb.2 _ S.TOz).trans b2
    · exact d1.1.at fun o q => (sb.2 _ (ne5 0 (by decide))).trans q
    · exact d2.1.at fun o q => (sb.2 _ (ne5 1 (by decide))).trans q
    · exact d3.1.at fun o q => (sb.2 _ (ne5 2 (by decide))).trans q
    · have hlt : d < s.heap.objs.size := by
        have e' : d = N + 5 ∨ d = N + 3 ∨ d = N + 4 ∨ d = N ∨ d = N + 1 ∨ d = N + 2 := by simpa using hd
        have h5 : (N + 5 : Nat) < s.heap.objs.size := hlN
        rcases e' with q | q | q | q | q | q <;> rw [q]
        · exact h5
        · exact Nat.lt_trans (Nat.add_lt_add_left (by decide) N) h5
        · exact Nat.lt_trans (Nat.add_lt_add_left (by decide) N) h5
        · exact Nat.lt_of_le_of_lt (Nat.le_add_right N 5) h5
        · exact Nat.lt_trans (Nat.add_lt_add_left (by decide) N) h5
        · exact Nat.lt_trans (Nat.add_lt_add_left (by decide) N) h5
      rw [upd_ne (Nat.ne_of_lt hlt)]
      exact (hf d hd).1
  done := by
    intro X hP hw hK hc i pins s sg H E I hf st hg
    subst hP hw hK
    obtain ⟨hz, hTI, ⟨x0, y0, z0, hTO⟩, h1, h2, h3⟩ := st
    obtain ⟨xs, ys, zs, qa, qb, qc, l1, l2, l3⟩ := hg
    obtain ⟨i1, r1, p1, _⟩ := I.tuple qa
    obtain ⟨i2, r2, p2, _⟩ := I.tuple qb
    obtain ⟨i3, r3, p3, _⟩ := I.tuple qc
    have hh : X.A.in1.handled = none := I.ok.hd hc
    have D1 := Draws.tuple (prog := X.prog) (w := X.w) hh N a (Nat.ne_of_lt la) i1.toArray
    have D2 := Draws.tuple (prog := X.prog) (w := X.w) hh (N + 1) b (Nat.ne_of_lt (Nat.lt_succ_of_lt lb)) i2.toArray
    have D3 := Draws.tuple (prog := X.prog) (w := X.w) hh (N + 2) c (Nat.ne_of_lt (Nat.lt_succ_of_lt (Nat.lt_succ_of_lt lc))) i3.toArray
    have S := zip_sep3 (N := N) (fp1 := [a]) (fp2 := [b]) (fp3 := [c]) (fun d hd => by rw [List.mem_singleton.mp hd]; exact la) (fun d hd => by rw [List.mem_singleton.mp hd]; exact lb) (fun d hd => by rw [List.mem_singleton.mp hd]; exact lc)
    have n1 : i1.toArray.size = i := by rw [List.size_toArray, ← r1.length, l1]
    have n2 : i2.toArray.size = i := by rw [List.size_toArray, ← r2.length, l2]
    have n3 : i3.toArray.size = i := by rw [List.size_toArray, ← r3.length, l3]
    refine wpAny_pyNext_zipD3_end S D1 D2 D3 hz hTI hTO ⟨h1, p1⟩ ⟨h2, p2⟩ ⟨h3, p3⟩ (by omega) (by omega) (by omega) (.inl n1.symm) fun h' tk hk => ⟨rfl, ?_⟩
    exact I.turnedL (ch := z3Cells N) (fun d o hb q => hk d o (fun e => hb (by simp [e])) (fun e => hb (by simp [e])) (fun e => hb (by simp [e])) (fun e => hb (by simp [e])) (fun e => hb (by simp [e])) q) hf
  self := fun A i s Q E st h => wpAny_pyIter_zip st.1 h
def iZip3 (K : PySem.W.Frag) (ta : TA) : TI := fun sg H R => ta sg H fun vs H1 => ∃ a b c xs ys zs, vs = [.ref a, .ref b, .ref c] ∧ SqT K H1 a xs ∧ SqT K H1 b ys ∧ SqT K H1 c zs ∧ R (Itz3 K a b c) H1
theorem pi_zip3 {e1 e2 e3 : Expr} {ta : TA} {p pos tpos : Pos} {elts : List Expr} {kk : Nat} (hg : Gl X "zip") (hm : X.mg "zip" = none) (ha : PA X [e1, e2, e3] ta)
    (hs : starEach [e1, e2, e3] X.env = (false, eval e1 X.env) :: starEach [e2, e3] X.env := by rfl) (hpl : (backTo pos (starEach [e2, e3] X.env)).any (·.1) = false := by rfl) :
    PI X (.Tuple elts kk tpos) (.Call (.Name "zip" p) [e1, e2, e3] [] pos) (iZip3 X.K ta) := by
  refine ⟨fun pins s sg H R I h => ?_⟩
  refine Call_ (ld_blt I hg hm PyProof.Rows.boot_zip (PyProof.Rows.callWith_type1 (thn (ha.run pos pins s sg H _ I h) fun us s1 ⟨vs, H1, I1, r1, q1⟩ => ?_) hs hpl))
  obtain ⟨a, b, c, xs, ys, zs, ex, qa, qb, qc, q⟩ := q1
  subst ex
  cases r1 with
  | cons ra rr =>
    cases rr with
    | cons rb rr =>
      cases rr with
      | cons rc rr =>
        cases rr
        cases ra
        cases rb
        cases rc
        obtain ⟨i1, v1, p1, _⟩ := I1.tuple qa
        obtain ⟨i2, v2, p2, _⟩ := I1.tuple qb
        obtain ⟨i3, v3, p3, _⟩ := I1.tuple qc
        obtain ⟨o1, g1, _⟩ := id p1
        obtain ⟨o2, g2, _⟩ := id p2
        obtain ⟨o3, g3, _⟩ := id p3
        refine zip_begins3 (begins_tuple a i1.toArray) (begins_tuple b i2.toArray) (begins_tuple c i3.toArray) p1 p2 p3 fun h' hz hTI hTO k1 k2 k3 hsz hk => wpAny_pyIter_zip hz ?_
        refine ⟨s1.heap.objs.size + 5, z3Cells s1.heap.objs.size, _, _, H1, rfl, I1.kept (t' := s1.toks) hk, turn_zip3 (Heap.lt_size g1) (Heap.lt_size g2) (Heap.lt_size g3), ⟨hz, hTI, ⟨_, _, _, hTO⟩, ⟨_, k1, rfl, rfl⟩, ⟨_, k2, rfl, rfl⟩, ⟨_, k3, rfl, rfl⟩⟩, fun d hd => ?_, q⟩
        have e' : d = s1.heap.objs.size + 5 ∨ d = s1.heap.objs.size + 3 ∨ d = s1.heap.objs.size + 4 ∨ d = s1.heap.objs.size ∨ d = s1.heap.objs.size + 1 ∨ d = s1.heap.objs.size + 2 := by simpa using hd
        have hle : s1.heap.objs.size ≤ d := by
          rcases e' with z | z | z | z | z | z <;> rw [z]
          · exact Nat.le_add_right _ _
          · exact Nat.le_add_right _ _
          · exact Nat.le_add_right _ _
          · exact Nat.le_refl _
          · exact Nat.le_add_right _ _
          · exact Nat.le_add_right _ _
        exact I1.fpOk hle (I1.hok.fresh hle)
/-- a new triple of the i-th items -/
def YTriple (xs ys zs : Nat → Option V) : Nat → Hp → V → Hp → Prop := fun i H v H' => ∃ T x y z, v = .ref T ∧ H T = none ∧ H' = upd H T (.tup [x, y, z]) ∧ xs i = some x ∧ ys i = some y ∧ zs i = some z
theorem walk_zip3 {K : PySem.W.Frag} {a b c : Addr} {xs ys zs : List V} (h1 : xs.length = ys.length) (h2 : xs.length = zs.length) :
    Walk (Itz3 K a b c) xs.length (fun H => SqT K H a xs ∧ SqT K H b ys ∧ SqT K H c zs) (YTriple (fun i => xs[i]?) (fun i => ys[i]?) (fun i => zs[i]?)) := by
  refine ⟨fun i H hi q => ?_, fun H q => ⟨xs, ys, zs, q.1, q.2.1, q.2.2, rfl, h1.symm, h2.symm⟩, fun i H v H' _ q y => ?_⟩
  · have l1 : i < ys.length := by omega
    have l2 : i < zs.length := by omega
    exact ⟨xs, ys, zs, xs[i], ys[i], zs[i], q.1, q.2.1, q.2.2, List.getElem?_eq_getElem hi, List.getElem?_eq_getElem l1, List.getElem?_eq_getElem l2, h1, h2⟩
  · obtain ⟨T, x, u, z, e1, e2, e3, f1, f2, f3⟩ := y
    exact ⟨T, x, u, z, e1, e2, e3, f1 xs q.1, f2 ys q.2.1, f3 zs q.2.2⟩
end
end K25
set_option Elab.async false
set_option linter.all false
set_option maxRecDepth 100000
set_option maxHeartbeats 2000000
/-! sorted(l), l a list of tuples of ints, of any length -/
namespace K25
open PySem PySem.Spec PyProof.Rows L2

theorem perm_lift {α β : Type} (f : α → β) {l l' : List β} (p : l.Perm l') : ∀ {L : List α}, l' = L.map f → ∃ ps : List α, ps.Perm L ∧ l = ps.map f := by
  induction p with
  | nil =>
    intro L e
    have : L = [] := List.map_eq_nil_iff.mp e.symm
    subst this
    exact ⟨[], .nil, rfl⟩
  | cons x _ ih =>
    intro L e
    cases L with
    | nil => cases e
    | cons a L2 =>
      rw [List.map_cons] at e
      obtain ⟨e1, e2⟩ := List.cons.inj e
      obtain ⟨ps, h1, h2⟩ := ih e2
      exact ⟨a :: ps, .cons a h1, by rw [List.map_cons, h2, e1]⟩
  | swap x y l =>
    intro L e
    cases L with
    | nil => cases e
    | cons a L1 =>
      cases L1 with
      | nil => cases e
      | cons b L2 =>
        rw [List.map_cons, List.map_cons] at e
        obtain ⟨e1, e2⟩ := List.cons.inj e
        obtain ⟨e3, e4⟩ := List.cons.inj e2
        exact ⟨b :: a :: L2, .swap a b L2, by rw [List.map_cons, List.map_cons, e1, e3, e4]⟩
  | trans _ _ ih1 ih2 =>
    intro L e
    obtain ⟨ps, h1, h2⟩ := ih2 e
    obtain ⟨qs, h3, h4⟩ := ih1 h2
    exact ⟨qs, h3.trans h1, h4⟩

abbrev noStr : Nat → Bool := fun _ => false
theorem items_ints : ∀ {us : List Value} {ns : List Int} (i : Nat), Vals (ns.map V.int) us → tupItems noStr i us = some (ns.map Sum.inl)
  | us, [], i, r => by cases r; rfl
  | us, n :: ns, i, r => by
    rw [List.map_cons] at r
    cases r with
    | cons h t =>
      obtain ⟨tk, rfl⟩ := h
      show (if noStr i = true then none else (tupItems noStr (i + 1) _).map (Sum.inl n :: ·)) = _
      rw [if_neg (show ¬ noStr i = true from Bool.false_ne_true), items_ints (i + 1) t]
      rfl
theorem lex_ints : ∀ a b : List Int, PyProof.Rows.lexLt itemOrd (a.map Sum.inl) (b.map Sum.inl) = HT.lexLt a b
  | [], [] => rfl
  | [], _ :: _ => rfl
  | _ :: _, [] => rfl
  | x :: a, y :: b => by
    rw [List.map_cons, List.map_cons, lex_cons, lex_ints a b, HT.lexLt_cons]
    show (decide (x < y) || (!decide (y < x) && HT.lexLt a b)) = _
    by_cases e : x = y
    · subst e
      rw [if_pos rfl, decide_eq_false (Int.lt_irrefl x)]
      rfl
    · rw [if_neg e]
      by_cases h : x < y
      · rw [decide_eq_true h]
        rfl
      · rw [decide_eq_false h, decide_eq_true (show y < x by omega)]
        rfl

/-- the order in which sorted leaves them -/
abbrev SrtT (ps : List (Addr × List Int)) : Prop := ps.Pairwise fun x y => HT.lexLt y.2 x.2 = false
def rSortT (K : PySem.W.Frag) : List V → Hp → VK → Prop := fun vs H Q => ∃ (a : Addr) (L : List (Addr × List Int)), vs = [.ref a] ∧ SqL K H a (L.map fun p => V.ref p.1) ∧ (∀ p ∈ L, p.2 ≠ [] ∧ SqT K H p.1 (p.2.map V.int)) ∧
  ∀ p ps, ps.Perm L → SrtT ps → H p = none → Q (.ref p) (upd H p (.lst (ps.map fun q => V.ref q.1)))
theorem vals_of_refs : ∀ {L : List (Addr × List Int)} {us : List Value}, Vals (L.map fun p => V.ref p.1) us → us = L.map fun p => Value.ref p.1
  | [], _, r => by cases r; rfl
  | p :: L, _, r => by
    rw [List.map_cons] at r
    cases r with
    | cons h t =>
      cases h
      rw [vals_of_refs t] <;> rfl
theorem refs_vals : ∀ L : List (Addr × List Int), Vals (L.map fun p => V.ref p.1) (L.map fun p => Value.ref p.1)
  | [] => .nil
  | _ :: L => .cons rfl (refs_vals L)
section
variable {X : Cx}
theorem cr_sortT : CallR X (.builtin "sorted") (rSortT X.K) := by
  intro pins s sg H vs us Q I r h
  obtain ⟨a, L, e, hs, hT, q⟩ := h
  subst e
  obtain ⟨its, rv, hl, hz⟩ := I.list hs
  obtain ⟨u, eu, ru⟩ := vals1 r
  subst eu
  obtain rfl : u = Value.ref a := ru
  have e1 := vals_of_refs rv
  subst e1
  have at_ : ∀ p ∈ L, ∃ (o : Obj) (xs : List Value) (n : Nat), s.heap.get? p.1 = some o ∧ o.cls = .type "tuple" ∧ o.data = .seq xs.toArray n ∧ Vals (p.2.map V.int) xs := fun p hp => by
    obtain ⟨xs, rx, ⟨o, ho, hc, n, hd⟩, _⟩ := I.tuple (hT p hp).2
    exact ⟨o, xs, n, ho, hc, hd, rx⟩
  have key : ∀ p ∈ L, PyProof.Rows.G.tupKeyC s.heap noStr (.ref p.1) = some (p.2.map Sum.inl) := fun p hp => by
    obtain ⟨o, xs, n, ho, hc, hd, rx⟩ := at_ p hp
    exact PyProof.Rows.G.tupKeyC_of ho hc hd (items_ints 0 rx)
  have tups : ∀ M : List (Addr × List Int), (∀ p ∈ M, p ∈ L) → ∃ fs, TupsOf s.heap noStr (M.map fun p => Value.ref p.1) fs := by
    intro M
    induction M with
    | nil => intro _; exact ⟨[], .nil⟩
    | cons p M ih =>
      intro hM
      obtain ⟨fs, hf⟩ := ih fun x hx => hM x (List.mem_cons_of_mem _ hx)
      have hp := hM p List.mem_cons_self
      obtain ⟨o, xs, n, ho, hc, hd, rx⟩ := at_ p hp
      have hne := (hT p hp).1
      obtain ⟨b, l⟩ := p
      cases l with
      | nil => exact absurd rfl hne
      | cons m ms =>
        rw [List.map_cons] at rx
        cases rx with
        | cons h1 h2 =>
          rename_i u us'
          exact ⟨u :: fs, .cons ⟨b, o, _, n, rfl, ho, hc, hd, by simp, fun _ => ⟨m, h1⟩, fun e => absurd e (by decide)⟩ hf⟩
  obtain ⟨fs, hf⟩ := tups L fun _ h => h
  refine PyProof.Rows.G.sorted_tups hl.isList hf (fun v hv => ?_) (by rw [← rv.length]; exact hz) fun st hp hso hst => ?_
  · obtain ⟨p, hpL, rfl⟩ := List.mem_map.mp hv
    exact ⟨_, key p hpL⟩
  · have hp2 : (arrOf st).toList.Perm (L.map fun p => (Value.ref p.1, Value.ref p.1)) := by
      have e2 : (pairsOf (L.map fun p => Value.ref p.1)).toList = L.map fun p => (Value.ref p.1, Value.ref p.1) := by
        rw [pairsOf_toList, List.zip_map']
      rw [← e2]
      exact hp.toList
    obtain ⟨ps, h1, h2⟩ := perm_lift (fun p : Addr × List Int => (Value.ref p.1, Value.ref p.1)) hp2 rfl
    have hout : ((arrOf st).map (·.2)).toList = ps.map fun p => Value.ref p.1 := by
      rw [Array.toList_map, h2, List.map_map]
      rfl
    have hlen : ps.length = L.length := h1.length_eq
    have srt : SrtT ps := by
      refine List.pairwise_iff_getElem.mpr fun i j hi hj hij => ?_
      have hsz : j < (pairsOf (L.map fun p => Value.ref p.1)).size := by
        rw [pairsOf_size, List.length_map]
        omega
      have hk := hso i j (Nat.le_of_lt hij) hsz
      have kk : ∀ (m : Nat) (hm : m < ps.length), KK (PyProof.Rows.G.tupKindC s.heap noStr) (arrOf st) m = (ps[m].2.map Sum.inl : List (Int ⊕ List Nat)) := fun m hm => by
        have g : (arrOf st)[m]? = some (Value.ref ps[m].1, Value.ref ps[m].1) := by
          rw [← Array.getElem?_toList, h2, List.getElem?_map, List.getElem?_eq_getElem hm]
          rfl
        unfold KK
        rw [g]
        show (PyProof.Rows.G.tupKeyC s.heap noStr (Value.ref ps[m].1)).getD [] = _
        rw [key ps[m] (h1.mem_iff.mp (List.getElem_mem hm))]
        rfl
      rw [KeyOrd.kle, kk i hi, kk j hj] at hk
      rw [← lex_ints]
      exact hk
    have ho := PyProof.Rows.sortedAll_at s.heap (L.map fun p => Value.ref p.1) ((arrOf st).map (·.2))
    obtain ⟨ep, he⟩ := ho
    refine ⟨.ref (s.heap.objs.size + 1), upd H (s.heap.objs.size + 1) (.lst (ps.map fun q => V.ref q.1)), I.laid (t' := s.toks) (fun _ _ => PyProof.Rows.sortedAll_old) (Nat.le_succ _) ⟨?_, ps.map (fun p => Value.ref p.1), ep, refs_vals ps, ?_⟩, rfl, q _ ps h1 srt (I.hok.fresh (Nat.le_succ _))⟩
    · rw [List.length_map] at hz ⊢
      omega
    · rw [← hout]
      exact he
end
end K25
set_option Elab.async false
set_option linter.all false
set_option maxRecDepth 100000
set_option maxHeartbeats 2000000
/-! defs that are called where no repr is under way: the promise of such a def, its call, the law's own head -/
namespace K25
open PySem PySem.Spec PyProof.Rows L2

/-- as FnOk, at calls where no guard stands -/
structure FnG (P : Program) (w : World) (K : PySem.W.Frag) (mg : Str → Option Value) (base : Heap) (k : Nat) (f : Addr) (fd : FuncData) (ps : List Str) (sp : Sp) : Prop where
  len : ∀ vs H Q E, sp vs H Q E → vs.length = ps.length
  run : ∀ (A : Around) (outer : List Env) (s : Shared) (H : Hp) (args : Args) (us : List Value) (vs : List V) (Q : VK) (E : XK),
    A.guards = some [] → Room k A → Env0 P w K mg base A outer s H → BindsTo s fd args (ps.zip us) → Vals vs us → sp vs H Q E →
    codeAny (model P w) A (.call (.ref f) args) (CR CX0 outer P w H s Q E) s

section
variable {P : Program} {w : World} {K : PySem.W.Frag} {mg : Str → Option Value} {base : Heap}
theorem fnG_of {x qual : Str} {st : Stmt} {f : Addr} {fd : FuncData} {N ps : List Str} {k : Nat} {sp : Sp} (F : Fun K x qual st f fd) (S : FnScope N ps (defScope st)) (len : ∀ vs H Q E, sp vs H Q E → vs.length = ps.length)
    (body : ∀ (cdv : Value) (A : Around) (outer : List Env) (s : Shared) (H : Hp) (vs : List V) (Q : VK) (E : XK), A.guards = some [] →
      Room k (A.deeper (envOfC qual (defScope st) s.heap.objs.size f cdv)) → sp vs H Q E →
      ∃ t, PSs (cxOf CX0 P w K mg base N qual (defScope st) f cdv A outer s H E).nox (defBody st) t ∧ t { nx := fun _ H' => Q .non H', rt := Q } (start N vs) H) :
    FnG P w K mg base (k + 1) f fd ps sp := by
  obtain ⟨c1, c2, c3, c4, c5, c6, cdv, c8, c9, efd, lk, hcode⟩ := F.ex
  subst efd
  refine ⟨len, fun A outer s H args us vs Q E hgd room e0 hbind rel want => ?_⟩
  have nvs := len _ _ _ _ want
  have hK : K.In s.heap := e0.mod.kin.keeps fun b o z => (e0.bs b o z).1
  have hlim : s.heap.NoLimit := e0.mod.nolimit.keeps fun b o z => (e0.bs b o z).1
  have kinds : ∀ y ∈ ps.zip us, (defScope st).names.lookup y.1 = some .local ∨
      ((defScope st).names.lookup y.1 = some .cell ∧ ((cellsFrom (s.heap.objs.size + 1) (defScope st).names []).lookup y.1).isSome = true) := by
    rintro ⟨n, v⟩ hy
    refine (S.par n (List.of_mem_zip hy).1).imp id fun z => ⟨z, ?_⟩
    exact PySem.W.cellsFrom_some _ _ _ (.inl z)
  refine codeAny_call_function room.depth (hK _ _ lk) rfl S.co S.gen rfl (PySem.W.codeRec_of hK hcode) (hbind _ _ _ _ ?_)
  refine wpAny_newFunctionEnv_cells S.kind kinds fun env henv s1 hin => ?_
  subst henv
  refine ⟨hlim.keeps hin.toInCall.keep, codeAny_func ?_⟩
  obtain ⟨t, ht, hq⟩ := body cdv A outer s H vs Q E hgd (room.deeper _) want
  have I0 := inv_start (CX := CX0) (E := E) S room.hd e0 nvs rel hin
  refine wpAny_mono (ht.nox.run [] s1 (start N vs) H _ I0 hq) (fun fl s' hs => ?_) fun _ _ z => z
  cases fl with
  | ret u =>
    obtain ⟨v, sg, H', J, rv, q⟩ := hs
    exact ⟨v, H', J.os, J.bare, J.base, J.hok, rv, q⟩
  | next =>
    obtain ⟨sg, H', J, q⟩ := hs
    exact ⟨V.non, H', J.os, J.bare, J.base, J.hok, rfl, q⟩
  | brk =>
    obtain ⟨_, _, _, q⟩ := hs
    exact q.elim
  | cont =>
    obtain ⟨_, _, _, q⟩ := hs
    exact q.elim
/-- a promise that needs no guard -/
theorem FnG.of {k : Nat} {f : Addr} {fd : FuncData} {ps : List Str} {sp : Sp} (F : FnOk P w K mg base CX0 k f fd ps sp) : FnG P w K mg base k f fd ps sp :=
  ⟨F.len, fun A outer s H args us vs Q E _ => F.run A outer s H args us vs Q E⟩
end

section
variable {X : Cx} {k : Nat} {f : Addr} {fd : FuncData} {ps : List Str} {sp : Sp} {x : Str} {p pos : Pos} {e : Expr} {es : List Expr} {t : TA}
theorem pe_callG (F : FnG X.prog X.w X.K X.mg X.base k f fd ps sp) (hgd : X.A.guards = some []) (hr : Room k X.A) (hg : Gl X x) (hm : X.mg x = some (.ref f)) (hk : PySem.W.keepIn X.K (.ref f) = true) (hb : Binds X.K fd ps [])
    (ha : PA X (e :: es) t) (hdb : (x == ("__debug__" : Str)) = false := by decide) (he : starEach (e :: es) X.env = (false, eval e X.env) :: starEach es X.env := by rfl)
    (hpl : (backTo pos (starEach es X.env)).any (·.1) = false := by rfl) : PE X (.Call (.Name x p) (e :: es) [] pos) (tCall sp [] E0 t) := by
  refine ⟨fun pins s sg H Q I h => wpAny_Call_Name_kw (ld_glob I hg hm ?_ hdb)⟩
  refine PySem.W.callWith_K (h₀ := X.base) I.ok.mod.kin hk (thn (ha.run pos pins s sg H _ I h) fun us s1 ⟨vs, H1, I1, r, q⟩ => ⟨I1.kIn, wpAny_call ?_⟩) he hpl
  replace q : sp (vs ++ []) H1 Q E0 := q
  rw [List.append_nil] at q
  have hl : us.length = ps.length := by rw [← r.length]; exact F.len _ _ _ _ q
  have b0 := hb s1 us I1.kIn (by rw [List.append_nil]; exact hl)
  rw [List.append_nil] at b0
  refine codeAny_mono (F.run X.A X.stack s1 H1 ⟨us, []⟩ us vs Q E0 hgd hr I1.env0 b0 r q) fun rr s' hq => ?_
  match rr, hq with
  | .error _, hq => exact False.elim hq
  | .ok (.ret u), hq => exact I1.after hq
end

/-! ### the law's own call -/
section
variable {P : Program} {w : World} {K : PySem.W.Frag} {mg mb : Str → Option Value} {k : Nat} {fa a : Addr} {fd : FuncData} {x : Str} {sp : Sp} {s1 : Shared} {vs : List Value} {ns : List Int}
abbrev LawOk (s1 : Shared) (r : Result) (s' : Shared) : Prop := r = .ok (.ret (.bool true)) ∧ OldK s1.heap s'.heap ∧ s'.os = s1.os ∧ AllBare s'.gens
/-- H: the script alone may be tracked -/
theorem call_at (H : Hp) (KX : K.In s1.heap) (hns : s1.heap.Ns mainGlobals mg) (hb : s1.heap.Ns builtinsNs mb) (hbb : ∀ x : Str, x ≠ "__name__" → mb x = bootBuiltins x) (hlim : s1.heap.NoLimit) (hg : s1.gens = #[])
    (ha : s1.heap.get? a = some { cls := .type "list", data := .seq vs.toArray }) (hr : Room k callerA)
    (F : ∀ base : Heap, K.In base → base.Ns mainGlobals mg → FnG P w K mg base k fa fd [x] sp) (hbind : ∀ (s : Shared) (u : Value), BindsTo s fd ⟨[u], []⟩ [(x, u)])
    (hsp : sp [.ref a] H (fun v _ => v = .bl true) E0) (only : Only H) (hok : HOk P w H s1.heap) (hA : ∀ b, H b ≠ none → b = a) (hK : H a ≠ none → K.lookup a = none) :
    codeAny (model P w) callerA (.call (.ref fa) ⟨[.ref a], []⟩) (LawOk s1) s1 := by
  have isA : ∀ {b u}, H b = some u → b = a := fun {b u} e => hA b fun z => by rw [z] at e; cases e
  have down : ∀ {b o}, s1.heap.get? b = some o → (b = a → False) → (hidT s1.heap H).get? b = some o := fun {b o} e n => hidT_get e (by
    cases q : H b with
    | none => rfl
    | some u => exact (n (isA q)).elim)
  have ns : ∀ {b : Addr} {m : Str → Option Value}, s1.heap.Ns b m → (hidT s1.heap H).Ns b m := by
    rintro b m ⟨o, es, ep, e, d, r⟩
    refine ⟨o, es, ep, down e fun z => ?_, d, r⟩
    subst z
    cases (Option.some.inj (ha.symm.trans e))
    cases d
  have kin : K.In (hidT s1.heap H) := fun b o e => hidT_get (KX b o e) (by
    cases q : H b with
    | none => rfl
    | some u =>
      have z := isA q
      subst z
      have := hK (by rw [q]; exact fun z => nomatch z)
      rw [e] at this
      cases this)
  have md : Mod K mg (hidT s1.heap H) := ⟨kin, ns hns, ⟨mb, ns hb, hbb⟩, hlim.imp fun m q => ⟨ns q.1, q.2⟩⟩
  have e0 : Env0 P w K mg (hidT s1.heap H) callerA [] s1 H := ⟨rfl, md, fun _ _ e => of_hidT e, Nat.le_of_eq (hidT_size _ _), trivial, fun _ z => (List.not_mem_nil z).elim, hok, .of_eq hg⟩
  have run := (F _ kin (ns hns)).run callerA [] s1 H ⟨[.ref a], []⟩ [.ref a] [.ref a] _ E0 rfl hr e0 (hbind s1 (.ref a)) (.cons rfl .nil) hsp
  refine codeAny_mono run fun r s' h => ?_
  match r, h with
  | .error _, h => exact False.elim h
  | .ok (.ret u), h =>
    obtain ⟨v, H', os, bare, un, hok', rv, q⟩ := h
    replace q : v = .bl true := q
    subst q
    obtain rfl : u = Value.bool true := rv
    refine ⟨rfl, OldK.of_keep fun b o e => ?_, os, bare⟩
    cases q : H b with
    | none => exact un.keep b o e q (fun z => (List.not_mem_nil z).elim) (fun z => (List.not_mem_nil z).elim)
    | some u =>
      rcases only b with z | ⟨ob, xs, z⟩
      · rw [q] at z; cases z
      · have e1 := (hok b _ z).1
        have e2 := (hok' b _ (un.frzs b ob _ z)).1
        cases (Option.some.inj (e.symm.trans e1))
        exact e2
theorem law_callG (KX : K.In s1.heap) (hns : s1.heap.Ns mainGlobals mg) (hb : s1.heap.Ns builtinsNs mb) (hbb : ∀ x : Str, x ≠ "__name__" → mb x = bootBuiltins x) (hlim : s1.heap.NoLimit) (hg : s1.gens = #[])
    (ha : s1.heap.get? a = some { cls := .type "list", data := .seq vs.toArray }) (hi : IntsAre vs ns) (hl : ns.length ≤ sizeLine) (hr : Room k callerA)
    (F : ∀ base : Heap, K.In base → base.Ns mainGlobals mg → FnG P w K mg base k fa fd [x] sp) (hbind : ∀ (s : Shared) (u : Value), BindsTo s fd ⟨[u], []⟩ [(x, u)])
    (hsp : ∀ H : Hp, Only H → SqL K H a (ns.map V.int) → sp [.ref a] H (fun v _ => v = .bl true) E0) :
    codeAny (model P w) callerA (.call (.ref fa) ⟨[.ref a], []⟩) (LawOk s1) s1 := by
  have rv := vals_ints hi
  by_cases hk : K.lookup a = none
  · let o : Obj := { cls := .type "list", data := .seq vs.toArray }
    let H : Hp := fun b => if b = a then some (.frz o (.lst (ns.map V.int))) else none
    have hHa : H a = some (.frz o (.lst (ns.map V.int))) := if_pos rfl
    have hHn : ∀ b, b ≠ a → H b = none := fun b hb => if_neg hb
    have hO : Only H := fun b => by
      by_cases hb : b = a
      · subst hb; exact .inr ⟨_, _, hHa⟩
      · exact .inl (hHn b hb)
    refine call_at H KX hns hb hbb hlim hg ha hr F hbind (hsp H hO (.inl (.inr ⟨o, hHa⟩))) hO (fun b u z => ?_) (fun b z => ?_) fun _ => hk
    · by_cases hb : b = a
      · subst hb
        cases (Option.some.inj (hHa.symm.trans z))
        exact ⟨ha, by rw [List.length_map]; exact hl, vs, _, rv, ha⟩
      · rw [hHn b hb] at z; cases z
    · by_cases hb : b = a
      · exact hb
      · exact absurd (hHn b hb) z
  · obtain ⟨o, ho⟩ := Option.ne_none_iff_exists'.mp hk
    cases (Option.some.inj ((KX a o ho).symm.trans ha))
    have hO : Only (fun _ => none) := fun _ => .inl rfl
    refine call_at (fun _ => none) KX hns hb hbb hlim hg ha hr F hbind (hsp _ hO (.inr ⟨_, vs.toArray, _, ho, rfl, rfl, rfl, by rw [List.size_toArray, hi.length]; exact hl, by simpa using rv⟩)) hO (fun b u z => ?_) (fun b z => absurd rfl z) fun z => absurd rfl z
    exact absurd z (fun z => nomatch z)
end
/-- the goal that the head leaves, from the law's promise -/
theorem walk_G {l : PySem.W.OpenLaw} {n k : Nat} {q : Program} {loose : List Str} {XP : (Str → Option Value) → Heap → Prop} {YP : World → Heap → Prop} {d : DefRec} {x : Str}
    (hn : l.most = some n) (hn2 : n ≤ sizeLine) (hdf : d.params.defaults = []) (hr : Room k callerA)
    (F : ∀ (w : World) (mg : Str → Option Value) (fa : Addr) (h : Heap), YP w h → h.Ns mainGlobals mg → mg d.name = some (.ref fa) →
      ∃ (K : PySem.W.Frag) (fd : FuncData) (sp : Sp), K.In h ∧ (∀ (s : Shared) (u : Value), BindsTo s fd ⟨[u], []⟩ [(x, u)]) ∧
        (∀ (H : Hp) (a : Addr) (ns : List Int), ns.length ≤ n → Only H → SqL K H a (ns.map V.int) → sp [.ref a] H (fun v _ => v = .bl true) E0) ∧
        ∀ base : Heap, K.In base → base.Ns mainGlobals mg → FnG l.prog w K mg base k fa fd [x] sp) :
    PySem.W.WalkO q loose XP YP l.row.toRowW d [] (fun f vs => PySem.call f vs) := by
  refine Att.attach_call hn hdf fun w s0 s1 mg mb fa o pm cd doc a vs ns G Y ho hd hcd hmg hobj hints hlen hg => ?_
  obtain ⟨K, fd, sp, KX, hb, hsp, hF⟩ := F w mg fa _ Y G.T.g hmg
  exact law_callG KX G.T.g G.T.b G.T.builtins G.T.nolimit hg hobj hints (Nat.le_trans hlen hn2) hr hF hb fun H hO hS => hsp H a ns hlen hO hS
end K25
set_option Elab.async false
set_option linter.all false
set_option maxRecDepth 100000
set_option maxHeartbeats 2000000
namespace K25
open PySem PySem.Spec PyProof.Rows L2
open PySem.SeqAt
open PySem.AutoSeq1 (wpAny_loadPart')
open PySem.MeetsSeq PySem.MeetsSeq2 PySem.MeetsSeq3
/-! t * 1 is t -/
theorem tup_mul1 (l : Addr) (items : Array Value) (n : Nat) (dd : Option Addr) (sl : Array (Option Value)) (u : Tok) :
    Meets (Builtin.«tuple.__mul__» ⟨[.ref l, .int 1 u], []⟩) (fun _ R s => s.heap.get? l = some { cls := .type "tuple", dict := dd, data := .seq items n, slots := sl } ∧ R (.ok (.ret (.ref l))) s) :=
  .of_wp fun prog w A R s h => by
    obtain ⟨hp, g, d, tk, os⟩ := s
    obtain ⟨hl, h⟩ := h
    have f1 := AutoSeq1.idx_int
    wp_walk using wpAny_loadPart' hl
    exact ⟨_, rfl, h⟩
def rRep1 (K : PySem.W.Frag) : R2 := fun x y H Q => ∃ l xs, x = .ref l ∧ y = .int 1 ∧ SqT K H l xs ∧ Q (.ref l) H
section
variable {X : Cx}
theorem op_rep1 : OpR X (binaryOp .Mult) (rRep1 X.K) := by
  intro pins s sg H x y v u Q I rx ry h
  obtain ⟨l, xs, ex, ey, hT, q⟩ := h
  subst ex ey
  obtain rfl : v = Value.ref l := rx
  obtain ⟨t, rfl⟩ := ry
  obtain ⟨its, r, ⟨o, ho, hc, n, hd⟩, hs⟩ := I.tuple hT
  obtain ⟨cls, dd, data, sl⟩ := o
  replace hc : cls = .type "tuple" := hc
  replace hd : data = .seq its.toArray n := hd
  subst hc hd
  have m1 := tup_mul1 l its.toArray n dd sl t
  refine wpAny_binaryOp_repeat_ref (T := "tuple") (U := "int") (by decide) ⟨_, ho, rfl⟩ (fun s' => typeIs_int s' 1 t) noFill_tuple_mul F.fills_int_mul F.slot_int_rmul repeat_tuple F.slot_int_index.lookup ?_
  refine call_meets F.slot_int_rmul (typeIs_int s 1 t) F.entry_int_rmul (F.args_int_rmul_2 _ _) (int_rmul_tuple 1 t l its.toArray n dd sl) ⟨ho, rfl, ⟨_, ho, rfl⟩, ?_⟩
  exact call_meets F.slot_tuple_mul ⟨_, ho, rfl⟩ F.entry_tuple_mul (F.args_tuple_mul_2 _ _) m1 ⟨ho, .ref l, H, I, rfl, q⟩
/-- t * k, k from 1 on -/
def rRepA (K : PySem.W.Frag) : R2 := fun x y H Q => rRep1 K x y H Q ∨ rRepT K x y H Q
theorem op_repA : OpR X (binaryOp .Mult) (rRepA X.K) := op_rep1.or op_repT
end
end K25
set_option Elab.async false
set_option linter.all false
set_option maxRecDepth 100000
set_option maxHeartbeats 2000000
/-! the text: its defs by places, their names by slots; what a def of the module keeps; the heap's words -/
namespace K25
open PySem PySem.Spec PyProof.Rows L2

def topS (i : Nat) : Stmt := PySem.Challenge.pw_onlyhigher_k25_whole_spans_by_characters.main.body.getD i (.Pass ⟨0, 0, 0, 0⟩)
abbrev sZero : Stmt := topS 2
abbrev sLen : Stmt := topS 3
abbrev sMem : Stmt := topS 4
abbrev sAdd : Stmt := topS 5
abbrev sSpan : Stmt := topS 6
abbrev sKills : Stmt := topS 7
abbrev sChars : Stmt := topS 8
abbrev sStock : Stmt := topS 10
abbrev sDraw : Stmt := topS 11
abbrev sPick : Stmt := topS 12
abbrev sLMem : Stmt := topS 13
abbrev sGroup : Stmt := topS 14
abbrev sElem : Stmt := topS 15
abbrev sLKills : Stmt := topS 16
abbrev sWide : Stmt := topS 17
abbrev sEven : Stmt := topS 18
abbrev sLaw : Stmt := topS 19

theorem scZero : FnScope ["group"] ["group"] (defScope sZero) := ⟨rfl, rfl, rfl, by decide +kernel, rfl, by decide +kernel, by decide +kernel⟩
theorem scLen : FnScope ["rows", "many", "found", "row", "item"] ["rows", "many"] (defScope sLen) := ⟨rfl, rfl, rfl, by decide +kernel, rfl, by decide +kernel, by decide +kernel⟩
theorem scMem : FnScope ["group", "found", "modulus"] ["group"] (defScope sMem) := ⟨rfl, rfl, rfl, by decide +kernel, rfl, by decide +kernel, by decide +kernel⟩
theorem scAdd : FnScope ["group", "member", "other", "one", "two", "modulus"] ["group", "member", "other"] (defScope sAdd) := ⟨rfl, rfl, rfl, by decide +kernel, rfl, by decide +kernel, by decide +kernel⟩
theorem scSpan : FnScope ["group", "some", "found", "waiting", "member", "other", "further"] ["group", "some"] (defScope sSpan) := ⟨rfl, rfl, rfl, by decide +kernel, rfl, by decide +kernel, by decide +kernel⟩
theorem scKills : FnScope ["group", "character", "member", "whole", "modulus", "parts", "one", "two"] ["group", "character", "member"] (defScope sKills) := ⟨rfl, rfl, rfl, by decide +kernel, rfl, by decide +kernel, by decide +kernel⟩
theorem scChars : FnScope ["group", "some", "found", "character", "member"] ["group", "some"] (defScope sChars) := ⟨rfl, rfl, rfl, by decide +kernel, rfl, by decide +kernel, by decide +kernel⟩
theorem scStock : FnScope ["_law_script", "_law_flat", "_law_cell"] ["_law_script"] (defScope sStock) := ⟨rfl, rfl, rfl, by decide +kernel, rfl, by decide +kernel, by decide +kernel⟩
theorem scDraw : FnScope ["_law_stock_here", "_law_size", "_law_great", "_law_turn", "_law_cell", "_law_blend"] ["_law_stock_here", "_law_size"] (defScope sDraw) := ⟨rfl, rfl, rfl, by decide +kernel, rfl, by decide +kernel, by decide +kernel⟩
theorem scPick : FnScope ["_law_stock_here", "_law_row"] ["_law_stock_here", "_law_row"] (defScope sPick) := ⟨rfl, rfl, rfl, by decide +kernel, rfl, by decide +kernel, by decide +kernel⟩
theorem scLMem : FnScope ["_law_sizes", "_law_found", "_law_size", "_law_longer", "_law_item", "_law_k"] ["_law_sizes"] (defScope sLMem) := ⟨rfl, rfl, rfl, by decide +kernel, rfl, by decide +kernel, by decide +kernel⟩
theorem scGroup : FnScope ["_law_stock_here", "_law_ones", "_law_twos", "_law_threes"] ["_law_stock_here"] (defScope sGroup) := ⟨rfl, rfl, rfl, by decide +kernel, rfl, by decide +kernel, by decide +kernel⟩
theorem scElem : FnScope ["_law_stock_here", "_law_group_here", "_law_modulus"] ["_law_stock_here", "_law_group_here"] (defScope sElem) := ⟨rfl, rfl, rfl, by decide +kernel, rfl, by decide +kernel, by decide +kernel⟩
theorem scLKills : FnScope ["_law_group_here", "_law_ask", "_law_element_here", "_law_whole", "_law_found", "_law_modulus", "_law_a", "_law_b"] ["_law_group_here", "_law_ask", "_law_element_here"] (defScope sLKills) := ⟨rfl, rfl, rfl, by decide +kernel, rfl, by decide +kernel, by decide +kernel⟩
theorem scWide : FnScope ["_law_stock_here"] ["_law_stock_here"] (defScope sWide) := ⟨rfl, rfl, rfl, by decide +kernel, rfl, by decide +kernel, by decide +kernel⟩
theorem scEven : FnScope ["_law_stock_here", "_law_group_here", "_law_some", "_law_every", "_law_spanned", "_law_asks", "_law_item", "_law_left", "_law_is_in", "_law_ask", "_law_told", "_law_due", "_law_turn"] ["_law_stock_here"] (defScope sEven) := ⟨rfl, rfl, rfl, by decide +kernel, rfl, by decide +kernel, by decide +kernel⟩
theorem scLaw : FnScope ["_law_script", "_law_stock_here", "_law_turn", "_law_told", "_law_due"] ["_law_script"] (defScope sLaw) := ⟨rfl, rfl, rfl, by decide +kernel, rfl, by decide +kernel, by decide +kernel⟩

/-! ### a def that stands, and what it keeps -/
/-- the def's function object stands in the written part, under its own name -/
structure Stands (K : PySem.W.Frag) (mg : Str → Option Value) (x : Str) (st : Stmt) (f : Addr) (fd : FuncData) : Prop where
  fn : Fun K x x st f fd
  gl : mg x = some (.ref f)
section
variable (P : Program) (w : World) (K : PySem.W.Frag) (mg : Str → Option Value) (base : Heap)
/-- the def called x keeps the promise sp, at the level k -/
structure Keeps (k : Nat) (x : Str) (ps : List Str) (sp : Sp) : Prop where
  ex : ∃ f fd, FnOk P w K mg base CX0 k f fd ps sp ∧ mg x = some (.ref f) ∧ PySem.W.keepIn K (.ref f) = true ∧ Binds K fd ps []
end
section
variable {P : Program} {w : World} {K : PySem.W.Frag} {mg : Str → Option Value} {base : Heap}
theorem Stands.keeps1 {x p : Str} {st : Stmt} {f : Addr} {fd : FuncData} {k : Nat} {sp : Sp} (S : Stands K mg x st f fd) (ok : FnOk P w K mg base CX0 k f fd [p] sp)
    (h : ∀ (kV doc pm : Value) (an : Option Addr) (cdv ct : Value) (us : List Value), us.length = [p].length → bindArgs (PySem.W.fnOf x x (defArgs st) (defBody st) (defScope st) .none kV doc pm an cdv ct) ⟨us, []⟩ = pure ([p].zip us)) : Keeps P w K mg base k x [p] sp :=
  ⟨f, fd, ok, S.gl, S.fn.kp, S.fn.binds h⟩
theorem Stands.keeps {x : Str} {ps : List Str} {st : Stmt} {f : Addr} {fd : FuncData} {k : Nat} {sp : Sp} (S : Stands K mg x st f fd) (ok : FnOk P w K mg base CX0 k f fd ps sp)
    (h : ∀ (kV doc pm : Value) (an : Option Addr) (cdv ct : Value) (us : List Value), us.length = ps.length → bindArgs (PySem.W.fnOf x x (defArgs st) (defBody st) (defScope st) .none kV doc pm an cdv ct) ⟨us, []⟩ = pure (ps.zip us)) : Keeps P w K mg base k x ps sp :=
  ⟨f, fd, ok, S.gl, S.fn.kp, S.fn.binds h⟩
end
section
variable {X : Cx} {k : Nat} {ps : List Str} {sp : Sp} {x : Str} {p pos : Pos} {e : Expr} {es : List Expr} {t : TA}
theorem pe_callD (D : Keeps X.prog X.w X.K X.mg X.base k x ps sp) (hr : Room k X.A) (ha : PA X (e :: es) t) (hg : Gl X x := by rfl) (hdb : (x == ("__debug__" : Str)) = false := by decide)
    (he : starEach (e :: es) X.env = (false, eval e X.env) :: starEach es X.env := by rfl) (hpl : (backTo pos (starEach es X.env)).any (·.1) = false := by rfl) :
    PE X (.Call (.Name x p) (e :: es) [] pos) (tCall sp [] E0 t) := by
  obtain ⟨f, fd, ok, gl, kp, bd⟩ := D.ex
  exact pe_call ok hr hg gl kp bd .nil pass0 ha hdb he hpl
end

/-- a starred item, the written part named -/
theorem pa_starK {X : Cx} {e : Expr} {es : List Expr} {p : Pos} {te : TE} {t : TA} (K : PySem.W.Frag) (he : PE X e te) (hr : PA X es t) (hK : X.K = K := by rfl) (hs : starEach (.Starred e p :: es) X.env = (true, eval e X.env) :: starEach es X.env := by rfl) :
    PA X (.Starred e p :: es) (StX.tStar K te t) := by
  subst hK
  exact StX.pa_star he hr hs

/-! ### the heap's words -/
/-- at a the tuple of the ints xs -/
abbrev Ints (H : Hp) (a : Addr) (xs : List Int) : Prop := H a = some (.tup (xs.map V.int))
/-- tuples of ints, each at its address -/
def Tups (H : Hp) (L : List (Addr × List Int)) : Prop := ∀ p ∈ L, Ints H p.1 p.2
abbrev refs (L : List (Addr × List Int)) : List V := L.map fun p => V.ref p.1
abbrev vals (L : List (Addr × List Int)) : List (List Int) := L.map fun p => p.2
theorem refs_app (L M : List (Addr × List Int)) : refs (L ++ M) = refs L ++ refs M := List.map_append
theorem vals_app (L M : List (Addr × List Int)) : vals (L ++ M) = vals L ++ vals M := List.map_append
theorem refs_len (L : List (Addr × List Int)) : (refs L).length = L.length := List.length_map _
theorem vals_len (L : List (Addr × List Int)) : (vals L).length = L.length := List.length_map _
theorem refs_at {L : List (Addr × List Int)} {i : Nat} {x : V} (h : (refs L)[i]? = some x) : ∃ p, L[i]? = some p ∧ x = .ref p.1 := by
  rw [List.getElem?_map] at h
  obtain ⟨p, hp, e⟩ := Option.map_eq_some_iff.mp h
  exact ⟨p, hp, e.symm⟩
theorem vals_at {L : List (Addr × List Int)} {i : Nat} {p : Addr × List Int} (h : L[i]? = some p) : (vals L)[i]? = some p.2 := by
  rw [List.getElem?_map, h]
  rfl
/-- at a a list, a tuple of such tuples -/
def LstOf (H : Hp) (a : Addr) (xss : List (List Int)) : Prop := ∃ L, vals L = xss ∧ H a = some (.lst (refs L)) ∧ Tups H L
def TupOf (H : Hp) (a : Addr) (xss : List (List Int)) : Prop := ∃ L, vals L = xss ∧ H a = some (.tup (refs L)) ∧ Tups H L
theorem same_upd {H : Hp} {p : Addr} {o : HO} (h : H p = none) : Same H (upd H p o) := fun b x e => by
  rw [upd_ne (ne_of_none e h)]
  exact e
theorem Tups.same {H H' : Hp} {L : List (Addr × List Int)} (t : Tups H L) (s : Same H H') : Tups H' L := fun p hp => s _ _ (t p hp)
theorem LstOf.same {H H' : Hp} {a : Addr} {xss : List (List Int)} (t : LstOf H a xss) (s : Same H H') : LstOf H' a xss := let ⟨L, h1, h2, h3⟩ := t; ⟨L, h1, s _ _ h2, h3.same s⟩
theorem TupOf.same {H H' : Hp} {a : Addr} {xss : List (List Int)} (t : TupOf H a xss) (s : Same H H') : TupOf H' a xss := let ⟨L, h1, h2, h3⟩ := t; ⟨L, h1, s _ _ h2, h3.same s⟩
theorem Tups.nil {H : Hp} : Tups H [] := fun _ h => (List.not_mem_nil h).elim
theorem Tups.cons {H : Hp} {p : Addr × List Int} {L : List (Addr × List Int)} (h : Ints H p.1 p.2) (t : Tups H L) : Tups H (p :: L) := fun q hq => by
  rcases List.mem_cons.mp hq with rfl | hq
  · exact h
  · exact t q hq
theorem Tups.app {H : Hp} {L M : List (Addr × List Int)} (t : Tups H L) (u : Tups H M) : Tups H (L ++ M) := fun q hq => by
  rcases List.mem_append.mp hq with hq | hq
  · exact t q hq
  · exact u q hq
theorem Tups.sub {H : Hp} {L M : List (Addr × List Int)} (t : Tups H L) (h : ∀ p ∈ M, p ∈ L) : Tups H M := fun q hq => t q (h q hq)
theorem sz {n : Nat} (h : n ≤ 100000) : n ≤ sizeLine := Nat.le_trans h (by decide)
theorem szl {n : Nat} (h : n < 100000) : n < sizeLine := Nat.lt_of_lt_of_le h (by decide)
/-- a group: as the law draws them -/
structure Grp (G : List Int) : Prop where
  one : 1 ≤ G.length
  few : G.length ≤ 3
  pos : ∀ m ∈ G, 2 ≤ m ∧ m ≤ 64
  ord : prod G ≤ 64
theorem Grp.posG {G : List Int} (g : Grp G) : PosG G := fun m hm => by
  have := (g.pos m hm).1
  omega
end K25
set_option Elab.async false
set_option linter.all false
set_option maxRecDepth 100000
set_option maxHeartbeats 4000000
namespace K25
open PySem PySem.Spec PyProof.Rows L2
section
variable {P : Program} {w : World} {K : PySem.W.Frag} {mg : Str → Option Value} {base : Heap} {f : Addr} {fd : FuncData}
/-! ### zero_of -/
def spZero : Sp := fun vs H Q _ => ∃ (a : Addr) (G : List Int), vs = [.ref a] ∧ Ints H a G ∧ 1 ≤ G.length ∧ G.length ≤ 3 ∧ ∀ H' p, Same H H' → Ints H' p (zero G) → Q (.ref p) H'
theorem rep_zero : ∀ n : Nat, (List.replicate n [V.int 0]).flatten = List.replicate n (V.int 0)
  | 0 => rfl
  | n + 1 => by rw [List.replicate_succ, List.flatten_cons, rep_zero n]; rfl
theorem zero_map (G : List Int) : (zero G).map V.int = List.replicate G.length (V.int 0) := by
  unfold zero
  rw [List.map_map]
  induction G with
  | nil => rfl
  | cons m G ih => rw [List.map_cons, ih]; rfl
theorem ok_zero (S : Stands K mg "zero_of" sZero f fd) (ml : mg "len" = none) : Keeps P w K mg base 1 "zero_of" ["group"] spZero := by
  refine S.keeps (S.fn.ok scZero (fun vs H Q E h => ?_) (fun cdv A outer s H vs Q E hr h => ?_)) fun _ _ _ _ _ _ us hl => match us, hl with | [_], _ => rfl
  · obtain ⟨a, G, rfl, _⟩ := h
    rfl
  · obtain ⟨a, G, rfl, hG, h1, h3, q⟩ := h
    refine ⟨_, pss_one (ps_ret (pe_op op_repA (pe_tup (pa_cons pe_int pa_nil)) (pe_callB call_len_seq (by rfl) ml PySem.boot_len (pa_cons (pv 0) pa_nil)))), ?_⟩
    refine ⟨sz (by decide), fun p np => ?_⟩
    have s1 := same_upd (o := .tup [V.int 0]) np
    refine ⟨.ref a, rfl, a, G.map V.int, rfl, .inr (SqT.of (s1 _ _ hG)), ?_⟩
    have hp : SqT K (upd H p (.tup [V.int 0])) p [V.int 0] := SqT.of upd_same
    rw [List.length_map]
    by_cases e : G.length = 1
    · refine .inl ⟨p, [V.int 0], rfl, by rw [e]; rfl, hp, q _ p s1 ?_⟩
      show upd H p _ p = _
      rw [upd_same, zero_map, e]
      rfl
    · refine .inr ⟨p, (G.length : Int), [V.int 0], rfl, rfl, hp, by simp, by omega, by omega, by decide, fun r nr => ?_⟩
      refine q _ r (s1.trans (same_upd nr)) ?_
      show upd _ r _ r = _
      rw [upd_same, zero_map, Int.toNat_natCast, rep_zero]
end
end K25
set_option Elab.async false
set_option linter.all false
set_option maxRecDepth 100000
set_option maxHeartbeats 4000000
namespace K25
open PySem PySem.Spec PyProof.Rows L2
/-! ### a list of tuples that grows -/
theorem Tups.updL {H : Hp} {L : List (Addr × List Int)} {D : Addr} {xs : List V} {o : HO} (t : Tups H L) (h : H D = some (.lst xs)) : Tups (upd H D o) L := fun p hp => by
  have := t p hp
  show upd H D o p.1 = _
  rw [upd_ne (ne_of this h (fun e => nomatch e))]
  exact this
/-- a new list at D, so far the tuples xss -/
structure Bld (H : Hp) (D : Addr) (xss : List (List Int)) (H' : Hp) : Prop where
  new : H D = none
  same : Same H H'
  is : LstOf H' D xss
theorem Bld.start {H : Hp} {D : Addr} (h : H D = none) : Bld H D [] (upd H D (.lst [])) := ⟨h, same_upd h, [], rfl, upd_same, Tups.nil⟩
theorem same_mut {H H' : Hp} {D : Addr} {o : HO} (h : H D = none) (s : Same H H') : Same H (upd H' D o) := fun b u e => by
  rw [upd_ne (ne_of_none e h)]
  exact s b u e
theorem Bld.on {H H1 H2 : Hp} {D : Addr} {xss : List (List Int)} (b : Bld H D xss H1) (s : Same H1 H2) : Bld H D xss H2 := ⟨b.new, b.same.trans s, b.is.same s⟩
theorem Bld.step {H H1 : Hp} {D p : Addr} {xss : List (List Int)} {y : List Int} (b : Bld H D xss H1) (hy : Ints H1 p y) (hz : xss.length < 100000) :
    ∃ acc, H1 D = some (.lst acc) ∧ acc.length < sizeLine ∧ Bld H D (xss ++ [y]) (upd H1 D (.lst (acc ++ [V.ref p]))) := by
  obtain ⟨L, e, hD, t⟩ := b.is
  refine ⟨refs L, hD, ?_, b.new, same_mut b.new b.same, L ++ [(p, y)], by rw [vals_app, e]; rfl, ?_, ?_⟩
  · rw [List.length_map]
    have : L.length = xss.length := by rw [← e, List.length_map]
    exact szl (by omega)
  · rw [upd_same, refs_app]; rfl
  · exact (t.app (Tups.cons (L := []) hy Tups.nil)).updL hD

/-! ### the elements -/
def longer (xss : List (List Int)) (m : Int) : List (List Int) := xss.flatMap fun x => (iota m).map fun k => x ++ [k]
theorem iota_length (m : Int) : (iota m).length = m.toNat := by unfold iota; rw [List.length_map, List.length_range]
theorem iota_get {m : Int} {j : Nat} (h : (j : Int) < m) : (iota m)[j]? = some (j : Int) := by
  unfold iota
  rw [List.getElem?_map, List.getElem?_range (by omega)]
  rfl
theorem take_succ_of {α : Type} {l : List α} {i : Nat} {x : α} (h : l[i]? = some x) : l.take (i + 1) = l.take i ++ [x] := by
  rw [List.take_add_one, h]
  rfl
theorem longer_app (a b : List (List Int)) (m : Int) : longer (a ++ b) m = longer a m ++ longer b m := by unfold longer; rw [List.flatMap_append]
theorem longer_one (x : List Int) (m : Int) : longer [x] m = (iota m).map fun k => x ++ [k] := by unfold longer; rw [List.flatMap_cons, List.flatMap_nil, List.append_nil]
theorem longer_length (a : List (List Int)) (m : Int) : (longer a m).length = a.length * m.toNat := by
  induction a with
  | nil => show 0 = 0 * _; omega
  | cons x a ih =>
    rw [show x :: a = [x] ++ a from rfl, longer_app, List.length_append, ih, longer_one, List.length_map, iota_length, List.length_append, Nat.add_mul]
    show _ = 1 * _ + _
    omega

section
variable {P : Program} {w : World} {K : PySem.W.Frag} {mg : Str → Option Value} {base : Heap} {f : Addr} {fd : FuncData}
/-! ### lengthened -/
def spLen : Sp := fun vs H Q _ => ∃ (a : Addr) (xss : List (List Int)) (m : Int), vs = [.ref a, .int m] ∧ LstOf H a xss ∧ xss.length ≤ 64 ∧ 0 ≤ m ∧ m ≤ 64 ∧ (∀ x ∈ xss, x.length ≤ 3) ∧
  ∀ H' p, Same H H' → LstOf H' p (longer xss m) → Q (.ref p) H'
theorem ok_len (S : Stands K mg "lengthened" sLen f fd) (mr : mg "range" = none) : Keeps P w K mg base 1 "lengthened" ["rows", "many"] spLen := by
  refine S.keeps (S.fn.ok scLen (fun vs H Q E h => ?_) (fun cdv A outer s H vs Q E hr h => ?_)) fun _ _ _ _ _ _ us hl => match us, hl with | [_, _], _ => rfl
  · obtain ⟨a, xss, m, rfl, _⟩ := h
    rfl
  · obtain ⟨a, xss, m, rfl, hL, hlen, hm0, hm1, hx3, q⟩ := h
    refine ⟨_, pss_cons (ps_set (i := 2) scLen.nd rfl (.inl rfl) (pe_lst pa_nil))
      (pss_cons (ps_for PassesOwn.never rfl (pi_list (pv 0)) (pg_name (i := 3) scLen.nd rfl (.inr rfl))
        (pss_one (ps_expr (pe_bm PySem.F.plainAttrs_list PySem.F.slot_list_extend PySem.F.type_list_extend mt_extend (pv 2)
          (pa_cons (pe_lc (own := [("item", 4)]) (g := gName 4) (by rfl) scLen.nd (pi_range1 rfl mr (pa_cons (pv 1) pa_nil))
            (blkOk_by (own := [("item", 4)]) (N := ["rows", "many", "found", "row", "item"]) (sc := defScope sLen) (by decide +kernel))
            (fun _ _ _ _ _ => pg_name (i := 4) scLen.nd rfl (Or.inl rfl)) (fun _ _ _ _ _ => pts_nil)
            (fun _ _ _ _ _ => pe_tup (pa_starK K (pv 3) (pa_cons (pv 4) pa_nil)))) pa_nil)))))
      (pss_one (ps_ret (pv 2)))), ?_⟩
    obtain ⟨L, eL, ha, tL⟩ := hL
    have hLl : L.length = xss.length := by rw [← eL, List.length_map]
    refine ⟨Nat.zero_le _, fun o no => ?_⟩
    have s1 := same_upd (o := .lst []) no
    refine ⟨.ref a, rfl, a, rfl, ⟨_, SqL.of (s1 _ _ ha)⟩, for_list (xs := refs L) (fun i sg H' => ∃ y3 y4, sg = [some (.ref a), some (.int m), some (.ref o), y3, y4] ∧ Bld H o (longer (xss.take i) m) H')
      ⟨none, none, rfl, Bld.start no⟩ (fun i sg H' _ h => ?_) (fun i x sg H' hi h => ?_) (fun sg H' h => ?_)⟩
    · obtain ⟨_, _, _, b⟩ := h
      exact SqL.of (b.same _ _ ha)
    · obtain ⟨y3, y4, rfl, b⟩ := h
      obtain ⟨⟨r, x⟩, hp, rfl⟩ := refs_at hi
      have hx : xss[i]? = some x := by rw [← eL]; exact vals_at hp
      have hr' : Ints H' r x := b.same _ _ (tL _ (List.mem_of_getElem? hp))
      have hxl : x.length ≤ 3 := hx3 x (List.mem_of_getElem? hx)
      have hol : (longer (xss.take i) m).length ≤ 64 * 64 := by
        rw [longer_length]
        exact Nat.mul_le_mul (Nat.le_trans (List.length_take_le' _ _) hlen) (by omega)
      -- found.extend([..])
      obtain ⟨Lo, eo, ho, to⟩ := b.is
      refine ⟨.ref o, rfl, .inl ⟨rfl, _, SqL.of ho⟩, .int m, rfl, m, rfl, by omega, by omega, fun D hD => ?_⟩
      refine lc_range (lo := 0) (n := m.toNat) (fun j H2 => Bld H' D (((iota m).take j).map fun k => x ++ [k]) H2) (Bld.start hD) (fun j H2 hj b2 => ?_) fun H2 b2 => ?_
      · -- (*row, item)
        refine ⟨rfl, .ref r, rfl, r, x.map V.int, rfl, .inl (SqT.of (b2.same _ _ hr')), .int (0 + (j : Int)), rfl, ?_, fun p np => ?_⟩
        · rw [List.length_append, List.length_map]
          exact sz (by show x.length + 1 ≤ _; omega)
        · have hj' : (j : Int) < m := by omega
          have b3 := b2.on (same_upd (o := .tup (x.map V.int ++ [V.int (0 + (j : Int))])) np)
          have hy : Ints (upd H2 p (.tup (x.map V.int ++ [V.int (0 + (j : Int))]))) p (x ++ [(j : Int)]) := by
            show upd H2 p _ p = _
            rw [upd_same, List.map_append, Int.zero_add]
            rfl
          have hz : (((iota m).take j).map fun k => x ++ [k]).length < 100000 := by
            rw [List.length_map]
            have := List.length_take_le j (iota m)
            have := iota_length m
            omega
          obtain ⟨acc, h1, h2, b4⟩ := b3.step hy hz
          refine ⟨acc, h1, h2, ?_⟩
          rw [take_succ_of (iota_get hj'), List.map_append]
          exact b4
      · -- the extension
        have et : (iota m).take m.toNat = iota m := List.take_of_length_le (by rw [iota_length]; exact Nat.le_refl _)
        rw [et] at b2
        obtain ⟨Ld, ed, hd, td⟩ := b2.is
        have ho2 := b2.same _ _ ho
        have l1 : (refs Lo).length = (longer (xss.take i) m).length := by rw [refs_len, ← eo, vals_len]
        have l2 : (refs Ld).length = m.toNat := by rw [refs_len, ← vals_len, ed, List.length_map, iota_length]
        refine ⟨o, D, refs Lo, refs Ld, rfl, rfl, ho2, hd, sz (by omega), some (.ref r), y4, rfl, b.new, same_mut b.new (b.same.trans b2.same), Lo ++ Ld, ?_, ?_, ?_⟩
        · rw [vals_app, eo, ed, take_succ_of hx, longer_app, longer_one]
        · rw [upd_same, refs_app]
        · exact ((to.same b2.same).app td).updL ho2
    · obtain ⟨y3, y4, rfl, b⟩ := h
      refine ⟨.ref o, rfl, q _ o b.same ?_⟩
      have e := b.is
      rw [refs_len, List.take_of_length_le (by omega)] at e
      exact e
end
end K25
set_option Elab.async false
set_option linter.all false
set_option maxRecDepth 100000
set_option maxHeartbeats 4000000
namespace K25
open PySem PySem.Spec PyProof.Rows L2
/-! ### all elements -/
theorem fold_longer : ∀ (G : List Int) (acc : List (List Int)), G.foldl longer acc = acc.flatMap fun x => (mems G).map (x ++ ·)
  | [], acc => by
    show acc = acc.flatMap fun x => [x ++ []]
    induction acc with
    | nil => rfl
    | cons x acc ih => rw [List.flatMap_cons, ← ih, List.append_nil]; rfl
  | m :: r, acc => by
    rw [List.foldl_cons, fold_longer r]
    rw [show mems (m :: r) = (iota m).flatMap fun k => (mems r).map (k :: ·) from rfl]
    unfold longer
    rw [List.flatMap_assoc]
    congr 1
    funext x
    rw [List.flatMap_map, List.map_flatMap]
    congr 1
    funext k
    rw [List.map_map]
    congr 1
    funext y
    show x ++ [k] ++ y = x ++ (k :: y)
    rw [List.append_assoc]
    rfl
theorem mems_fold (G : List Int) : G.foldl longer [[]] = mems G := by
  rw [fold_longer, List.flatMap_cons, List.flatMap_nil, List.append_nil]
  induction (mems G) with
  | nil => rfl
  | cons x l ih => rw [List.map_cons, ih]; rfl
theorem mems_take {G : List Int} {i : Nat} {m : Int} (h : G[i]? = some m) : longer (mems (G.take i)) m = mems (G.take (i + 1)) := by
  rw [← mems_fold, ← mems_fold, take_succ_of h, List.foldl_append]
  rfl
theorem mems_length : ∀ {G : List Int}, PosG G → ((mems G).length : Int) = prod G
  | [], _ => rfl
  | m :: r, h => by
    show ((((iota m).flatMap fun k => (mems r).map (k :: ·)).length : Nat) : Int) = m * prod r
    have : ∀ l : List Int, ((l.flatMap fun k => (mems r).map (k :: ·)).length : Nat) = l.length * (mems r).length := by
      intro l
      induction l with
      | nil => show 0 = 0 * _; omega
      | cons k l ih => rw [List.flatMap_cons, List.length_append, ih, List.length_map, List.length_cons, Nat.add_mul, Nat.one_mul]; omega
    rw [this, iota_length, Int.natCast_mul, mems_length h.tail]
    have := h.head
    rw [Int.toNat_of_nonneg (by omega)]
theorem prod_app : ∀ (a b : List Int), prod (a ++ b) = prod a * prod b
  | [], b => (Int.one_mul _).symm
  | m :: a, b => by
    show m * prod (a ++ b) = m * prod a * prod b
    rw [prod_app a b, Int.mul_assoc]
theorem PosG.take {G : List Int} (h : PosG G) (i : Nat) : PosG (G.take i) := fun m hm => h m (List.mem_of_mem_take hm)
theorem PosG.drop {G : List Int} (h : PosG G) (i : Nat) : PosG (G.drop i) := fun m hm => h m (List.mem_of_mem_drop hm)
theorem prod_take {G : List Int} (h : PosG G) (i : Nat) : prod (G.take i) ≤ prod G := by
  have e : prod G = prod (G.take i) * prod (G.drop i) := by rw [← prod_app, List.take_append_drop]
  have h1 := prod_pos (h.take i)
  have h2 := prod_pos (h.drop i)
  rw [e]
  have := Int.mul_le_mul_of_nonneg_left (show 1 ≤ prod (G.drop i) by omega) (Int.le_of_lt h1)
  rwa [Int.mul_one] at this
theorem Grp.mems_le {G : List Int} (g : Grp G) (i : Nat) : (mems (G.take i)).length ≤ 64 := by
  have h1 := mems_length (g.posG.take i)
  have h2 := prod_take g.posG i
  have h3 := g.ord
  omega
theorem Grp.mems_len {G : List Int} (g : Grp G) : (mems G).length ≤ 64 := by
  have h1 := mems_length g.posG
  have h3 := g.ord
  omega
theorem isM_length : ∀ {G x : List Int}, IsM G x → x.length = G.length
  | [], [], _ => rfl
  | _ :: _, _ :: _, h => by rw [List.length_cons, List.length_cons, isM_length h.2]

section
variable {P : Program} {w : World} {K : PySem.W.Frag} {mg : Str → Option Value} {base : Heap} {f : Addr} {fd : FuncData}
def spMem : Sp := fun vs H Q _ => ∃ (a : Addr) (G : List Int), vs = [.ref a] ∧ Ints H a G ∧ Grp G ∧ ∀ H' p, Same H H' → TupOf H' p (mems G) → Q (.ref p) H'
theorem ok_mem (S : Stands K mg "group_members" sMem f fd) (DL : Keeps P w K mg base 1 "lengthened" ["rows", "many"] spLen) (mt : mg "tuple" = none) : Keeps P w K mg base 2 "group_members" ["group"] spMem := by
  refine S.keeps (S.fn.ok scMem (fun vs H Q E h => ?_) (fun cdv A outer s H vs Q E hr h => ?_)) fun _ _ _ _ _ _ us hl => match us, hl with | [_], _ => rfl
  · obtain ⟨a, G, rfl, _⟩ := h
    rfl
  · obtain ⟨a, G, rfl, hG, g, q⟩ := h
    refine ⟨_, pss_cons (ps_set (i := 1) scMem.nd rfl (.inl rfl) (pe_lst (pa_cons (pe_tup pa_nil) pa_nil)))
      (pss_cons (ps_for PassesOwn.never rfl (pi_tup (pv 0)) (pg_name (i := 2) scMem.nd rfl (.inl rfl))
        (pss_one (ps_set (i := 1) scMem.nd rfl (.inl rfl) (pe_callD DL hr (pa_cons (pv 1) (pa_cons (pv 2) pa_nil))))))
      (pss_one (ps_ret (pe_callTy call_tuple_of (by rfl) mt (by decide +kernel) (pa_cons (pv 1) pa_nil))))), ?_⟩
    refine ⟨Nat.zero_le _, fun p0 n0 => ⟨sz (by show 1 ≤ 100000; decide), fun o no => ?_⟩⟩
    have s1 := same_upd (o := .tup []) n0
    have s2 := s1.trans (same_upd (o := .lst [V.ref p0]) no)
    refine ⟨.ref a, rfl, a, rfl, ⟨_, SqT.of (s2 _ _ hG)⟩, for_tup (xs := G.map V.int) (fun i sg H' => ∃ o y2, sg = [some (.ref a), some (.ref o), y2] ∧ Same H H' ∧ LstOf H' o (mems (G.take i)))
      ⟨o, none, rfl, s2, [(p0, [])], rfl, upd_same, ?_⟩ (fun i sg H' _ h => ?_) (fun i x sg H' hi h => ?_) (fun sg H' h => ?_)⟩
    · refine Tups.cons ?_ Tups.nil
      show upd _ o _ p0 = _
      rw [upd_ne (ne_of_none upd_same no), upd_same]
      rfl
    · obtain ⟨_, _, _, s, _⟩ := h
      exact SqT.of (s _ _ hG)
    · obtain ⟨o, y2, rfl, s, hl⟩ := h
      obtain ⟨m, hm, rfl⟩ : ∃ m, G[i]? = some m ∧ x = .int m := by
        rw [List.getElem?_map] at hi
        obtain ⟨m, hm, e⟩ := Option.map_eq_some_iff.mp hi
        exact ⟨m, hm, e.symm⟩
      have hmG := g.pos m (List.mem_of_getElem? hm)
      refine ⟨.ref o, rfl, .int m, rfl, o, mems (G.take i), m, rfl, hl, g.mems_le i, by omega, by omega, fun x hx => ?_, fun H2 p s3 h3 => ?_⟩
      · have := isM_length (mem_mems.mp hx)
        have h3 := g.few
        have := List.length_take_le' i G
        omega
      · refine ⟨p, some (.int m), rfl, s.trans s3, ?_⟩
        rw [← mems_take hm]
        exact h3
    · obtain ⟨o, y2, rfl, s, hl⟩ := h
      rw [List.length_map, List.take_length] at hl
      obtain ⟨L, e, ho, t⟩ := hl
      refine ⟨.ref o, rfl, o, refs L, rfl, .inl ⟨SqL.of ho, fun l nl => q _ l (s.trans (same_upd nl)) ⟨L, e, upd_same, t.same (same_upd nl)⟩⟩⟩
end
end K25
set_option Elab.async false
set_option linter.all false
set_option maxRecDepth 100000
set_option maxHeartbeats 4000000
namespace K25
open PySem PySem.Spec PyProof.Rows L2
/-! ### a list of ints that a comprehension fills -/
structure BldI (H : Hp) (D : Addr) (xs : List Int) (H' : Hp) : Prop where
  new : H D = none
  same : Same H H'
  is : H' D = some (.lst (xs.map V.int))
theorem BldI.start {H : Hp} {D : Addr} (h : H D = none) : BldI H D [] (upd H D (.lst [])) := ⟨h, same_upd h, upd_same⟩
theorem BldI.on {H H1 H2 : Hp} {D : Addr} {xs : List Int} (b : BldI H D xs H1) (s : Same H1 H2) : BldI H D xs H2 := ⟨b.new, b.same.trans s, s _ _ b.is⟩
theorem BldI.step {H H1 : Hp} {D : Addr} {xs : List Int} {y : Int} (b : BldI H D xs H1) (hz : xs.length < 100000) :
    ∃ acc, H1 D = some (.lst acc) ∧ acc.length < sizeLine ∧ BldI H D (xs ++ [y]) (upd H1 D (.lst (acc ++ [V.int y]))) := by
  refine ⟨_, b.is, ?_, b.new, same_mut b.new b.same, ?_⟩
  · rw [List.length_map]
    exact szl hz
  · rw [upd_same, List.map_append] <;> rfl
theorem ints_at {xs : List Int} {i : Nat} {v : V} (h : (xs.map V.int)[i]? = some v) : ∃ n, xs[i]? = some n ∧ v = .int n := by
  rw [List.getElem?_map] at h
  obtain ⟨n, hn, e⟩ := Option.map_eq_some_iff.mp h
  exact ⟨n, hn, e.symm⟩

/-! ### the sum's items -/
theorem add_at : ∀ {G x y : List Int} {i : Nat} {m a b : Int}, G[i]? = some m → x[i]? = some a → y[i]? = some b → (add G x y)[i]? = some ((a + b) % m)
  | m :: G, a :: x, b :: y, 0, _, _, _, h1, h2, h3 => by
    cases (Option.some.inj h1)
    cases (Option.some.inj h2)
    cases (Option.some.inj h3)
    rfl
  | m :: G, a :: x, b :: y, i + 1, _, _, _, h1, h2, h3 => add_at (G := G) (x := x) (y := y) (i := i) h1 h2 h3
  | [], _, _, _, _, _, _, h, _, _ => by simp at h
  | _ :: _, [], _, _, _, _, _, _, h, _ => by simp at h
  | _ :: _, _ :: _, [], _, _, _, _, _, _, h => by simp at h

/-! ### the parts of a kill -/
def parts (L : Int) : List Int → List Int → List Int → List Int
  | m :: r, c :: cs, e :: es => c * e * (L / m) :: parts L r cs es
  | _, _, _ => []
theorem parts_at (L : Int) : ∀ {G x y : List Int} {i : Nat} {m a b : Int}, G[i]? = some m → x[i]? = some a → y[i]? = some b → (parts L G x y)[i]? = some (a * b * (L / m))
  | m :: G, a :: x, b :: y, 0, _, _, _, h1, h2, h3 => by
    cases (Option.some.inj h1)
    cases (Option.some.inj h2)
    cases (Option.some.inj h3)
    rfl
  | m :: G, a :: x, b :: y, i + 1, _, _, _, h1, h2, h3 => parts_at L (G := G) (x := x) (y := y) (i := i) h1 h2 h3
  | [], _, _, _, _, _, _, h, _, _ => by simp at h
  | _ :: _, [], _, _, _, _, _, _, h, _ => by simp at h
  | _ :: _, _ :: _, [], _, _, _, _, _, _, h => by simp at h
theorem parts_length (L : Int) : ∀ {G x y : List Int}, x.length = G.length → y.length = G.length → (parts L G x y).length = G.length
  | [], [], [], _, _ => rfl
  | m :: G, a :: x, b :: y, h1, h2 => by
    show (parts L G x y).length + 1 = G.length + 1
    rw [parts_length L (G := G) (by simpa using h1) (by simpa using h2)]
theorem parts_mul (k L : Int) : ∀ {G x y : List Int}, (∀ m ∈ G, m ∣ L) → (parts (k * L) G x y).sum = k * (parts L G x y).sum
  | [], _, _, _ => (Int.mul_zero k).symm
  | m :: G, [], _, _ => (Int.mul_zero k).symm
  | m :: G, a :: x, [], _ => (Int.mul_zero k).symm
  | m :: G, a :: x, b :: y, h => by
    show (a * b * (k * L / m) :: parts (k * L) G x y).sum = k * (a * b * (L / m) :: parts L G x y).sum
    rw [List.sum_cons, List.sum_cons, parts_mul k L fun z hz => h z (List.mem_cons_of_mem _ hz), Int.mul_ediv_assoc k (h m List.mem_cons_self), Int.mul_add]
    congr 1
    rw [Int.mul_left_comm]
theorem dvd_prod : ∀ {G : List Int} {m : Int}, m ∈ G → m ∣ prod G
  | n :: G, m, h => by
    rcases List.mem_cons.mp h with e | h
    · rw [e]; exact Int.dvd_mul_right _ _
    · exact Int.dvd_trans (dvd_prod h) (Int.dvd_mul_left _ _)
theorem parts_prod : ∀ {G x y : List Int}, PosG G → (parts (prod G) G x y).sum = pw G x y
  | [], _, _, _ => rfl
  | m :: G, [], _, _ => rfl
  | m :: G, a :: x, [], _ => rfl
  | m :: G, a :: x, b :: y, h => by
    show (a * b * (m * prod G / m) :: parts (m * prod G) G x y).sum = a * b * prod G + m * pw G x y
    rw [List.sum_cons, parts_mul m (prod G) fun z hz => dvd_prod hz, parts_prod h.tail, Int.mul_ediv_cancel_left _ (Int.ne_of_gt h.head)]
/-- by any common multiple that divides the product -/
theorem kill_by {G x y : List Int} {L : Int} (h : PosG G) (hL : ∀ m ∈ G, m ∣ L) (hp : L ∣ prod G) : L ∣ (parts L G x y).sum ↔ Kill G x y := by
  obtain ⟨k, hk⟩ := hp
  have hpos := prod_pos h
  have hk0 : k ≠ 0 := fun e => by rw [e, Int.mul_zero] at hk; omega
  unfold Kill
  rw [← parts_prod h, hk, Int.mul_comm L k, parts_mul k L hL]
  exact (Int.mul_dvd_mul_iff_left hk0).symm
def lcmI (a b : Int) : Int := ((Nat.lcm a.natAbs b.natAbs : Nat) : Int)
theorem lcmI_left (a b : Int) : a ∣ lcmI a b := Int.natAbs_dvd_natAbs.mp (by unfold lcmI; rw [Int.natAbs_natCast]; exact Nat.dvd_lcm_left _ _)
theorem lcmI_right (a b : Int) : b ∣ lcmI a b := Int.natAbs_dvd_natAbs.mp (by unfold lcmI; rw [Int.natAbs_natCast]; exact Nat.dvd_lcm_right _ _)
theorem lcmI_dvd {a b c : Int} (h1 : a ∣ c) (h2 : b ∣ c) : lcmI a b ∣ c := Int.natAbs_dvd_natAbs.mp (by
  unfold lcmI
  rw [Int.natAbs_natCast]
  exact Nat.lcm_dvd (Int.natAbs_dvd_natAbs.mpr h1) (Int.natAbs_dvd_natAbs.mpr h2))
theorem lcmI_nn (a b : Int) : 0 ≤ lcmI a b := Int.natCast_nonneg _
def lcms (G : List Int) : Int := G.foldl lcmI 1
theorem lcms_snoc (G : List Int) (m : Int) : lcms (G ++ [m]) = lcmI (lcms G) m := by unfold lcms; rw [List.foldl_append]; rfl
theorem fold_all {α : Type} {Pr : List α → Prop} (h0 : Pr []) (h1 : ∀ l a, Pr l → Pr (l ++ [a])) (l : List α) : Pr l := by
  have : ∀ r : List α, Pr r.reverse := by
    intro r
    induction r with
    | nil => exact h0
    | cons a r ih => rw [List.reverse_cons]; exact h1 _ _ ih
  have q := this l.reverse
  rwa [List.reverse_reverse] at q
theorem lcms_ok : ∀ G : List Int, (∀ m ∈ G, m ∣ lcms G) ∧ lcms G ∣ prod G ∧ 0 ≤ lcms G := by
  refine fold_all ⟨fun _ h => (List.not_mem_nil h).elim, Int.dvd_refl 1, by decide⟩ fun G m h => ?_
  obtain ⟨h1, h2, h3⟩ := h
  rw [lcms_snoc, prod_app]
  have hm : prod [m] = m := Int.mul_one m
  refine ⟨fun z hz => ?_, lcmI_dvd (Int.dvd_trans h2 (Int.dvd_mul_right _ _)) (by rw [hm]; exact Int.dvd_mul_left _ _), lcmI_nn _ _⟩
  rcases List.mem_append.mp hz with hz | hz
  · exact Int.dvd_trans (h1 z hz) (lcmI_left _ _)
  · rw [List.mem_singleton.mp hz]
    exact lcmI_right _ _
theorem lcms_le {G : List Int} (h : PosG G) (i : Nat) : 0 < lcms (G.take i) ∧ lcms (G.take i) ≤ prod G := by
  obtain ⟨h1, h2, h3⟩ := lcms_ok (G.take i)
  have hp := prod_pos (h.take i)
  have hl := Int.le_of_dvd hp h2
  have ht := prod_take h i
  refine ⟨?_, by omega⟩
  have : lcms (G.take i) ≠ 0 := fun e => by
    rw [e] at h2
    have := Int.zero_dvd.mp h2
    omega
  omega
instance (G c e : List Int) : Decidable (Kill G c e) := inferInstanceAs (Decidable (prod G ∣ pw G c e))
def killB (G c e : List Int) : Bool := decide (Kill G c e)
theorem killB_mod {G x y : List Int} {L : Int} (h : PosG G) (hL : ∀ m ∈ G, m ∣ L) (hp : L ∣ prod G) : decide (V.int ((parts L G x y).sum % L) = V.int 0) = killB G x y := by
  unfold killB
  refine decide_eq_decide.mpr ?_
  rw [← kill_by h hL hp]
  exact ⟨fun e => Int.dvd_of_emod_eq_zero (V.int.inj e), fun e => by rw [Int.emod_eq_zero_of_dvd e]⟩
theorem isM_bound : ∀ {G x : List Int} {i : Nat} {a : Int}, Grp G → IsM G x → x[i]? = some a → 0 ≤ a ∧ a < 64 := by
  have : ∀ {G x : List Int} {i : Nat} {a : Int}, (∀ m ∈ G, 2 ≤ m ∧ m ≤ 64) → IsM G x → x[i]? = some a → 0 ≤ a ∧ a < 64
  := by
    intro G
    induction G with
    | nil => intro x i a _ h e; cases x with
      | nil => simp at e
      | cons _ _ => exact h.elim
    | cons m G ih =>
      intro x i a hG h e
      cases x with
      | nil => simp at e
      | cons b x =>
        have hm := hG m List.mem_cons_self
        cases i with
        | zero =>
          cases (Option.some.inj e)
          have := h.1
          omega
        | succ i => exact ih (fun z hz => hG z (List.mem_cons_of_mem _ hz)) h.2 e
  intro G x i a g h e
  exact this g.pos h e

section
variable {P : Program} {w : World} {K : PySem.W.Frag} {mg : Str → Option Value} {base : Heap} {f : Addr} {fd : FuncData}
/-! ### added -/
def spAdd : Sp := fun vs H Q _ => ∃ (a b c : Addr) (G x y : List Int), vs = [.ref a, .ref b, .ref c] ∧ Ints H a G ∧ Ints H b x ∧ Ints H c y ∧ Grp G ∧ IsM G x ∧ IsM G y ∧ ∀ H' p, Same H H' → Ints H' p (add G x y) → Q (.ref p) H'
theorem ok_add (S : Stands K mg "added" sAdd f fd) (mt : mg "tuple" = none) (mz : mg "zip" = none) : Keeps P w K mg base 1 "added" ["group", "member", "other"] spAdd := by
  refine S.keeps (S.fn.ok scAdd (fun vs H Q E h => ?_) (fun cdv A outer s H vs Q E hr h => ?_)) fun _ _ _ _ _ _ us hl => match us, hl with | [_, _, _], _ => rfl
  · obtain ⟨a, b, c, G, x, y, rfl, _⟩ := h
    rfl
  · obtain ⟨a, b, c, G, x, y, rfl, ha, hb, hc, g, hx, hy, q⟩ := h
    refine ⟨_, pss_one (ps_ret (pe_callTy call_tuple_of (by rfl) mt (by decide +kernel) (pa_cons
      (pe_lc (own := [("one", 3), ("two", 4), ("modulus", 5)]) (g := gTup K 3 (gCons (gName 3) (gCons (gName 4) (gCons (gName 5) gNil)))) (by rfl) scAdd.nd
        (pi_zip3 (by rfl) mz (pa_cons (pv 1) (pa_cons (pv 2) (pa_cons (pv 0) pa_nil))))
        (blkOk_by (own := [("one", 3), ("two", 4), ("modulus", 5)]) (N := ["group", "member", "other", "one", "two", "modulus"]) (sc := defScope sAdd) (by decide +kernel))
        (fun _ _ _ _ _ => pg_tup (by rfl) (pgs_cons (pg_name (i := 3) scAdd.nd rfl (.inl rfl)) (pgs_cons (pg_name (i := 4) scAdd.nd rfl (.inl rfl)) (pgs_cons (pg_name (i := 5) scAdd.nd rfl (.inl rfl)) pgs_nil))))
        (fun _ _ _ _ _ => pts_nil) (fun _ _ _ _ _ => pe_op op_mod (pe_op op_add (pv 3) (pv 4)) (pv 5))) pa_nil))), ?_⟩
    have lx := isM_length hx
    have ly := isM_length hy
    have la := isM_length (isM_add g.posG hx hy)
    have h3 := g.few
    refine ⟨.ref b, rfl, .ref c, rfl, .ref a, rfl, b, c, a, x.map V.int, y.map V.int, G.map V.int, rfl, SqT.of hb, SqT.of hc, SqT.of ha, fun D hD => ?_⟩
    refine lc_it (walk_zip3 (by rw [List.length_map, List.length_map]; omega) (by rw [List.length_map, List.length_map]; omega)) (fun i H1 => BldI H D ((add G x y).take i) H1) (BldI.start hD)
      (fun i H1 _ b1 => ⟨SqT.of (b1.same _ _ hb), SqT.of (b1.same _ _ hc), SqT.of (b1.same _ _ ha)⟩) (fun i v H1 H2 hi b1 hY => ?_) fun H1 b1 => ?_
    · obtain ⟨T, u1, u2, u3, rfl, nT, rfl, e1, e2, e3⟩ := hY
      obtain ⟨n1, f1, rfl⟩ := ints_at e1
      obtain ⟨n2, f2, rfl⟩ := ints_at e2
      obtain ⟨n3, f3, rfl⟩ := ints_at e3
      have hm := g.pos n3 (List.mem_of_getElem? f3)
      have hs := add_at f3 f1 f2
      have b2 := b1.on (same_upd (o := .tup [V.int n1, V.int n2, V.int n3]) nT)
      refine ⟨T, [V.int n1, V.int n2, V.int n3], rfl, SqT.of upd_same, rfl, _, _, rfl, _, _, rfl, _, _, rfl, rfl, rfl, ?_⟩
      refine ⟨.int n1, rfl, .int n2, rfl, n1, n2, rfl, rfl, .int n3, rfl, _, n3, rfl, rfl, by omega, ?_⟩
      obtain ⟨acc, k1, k2, b3⟩ := b2.step (y := (n1 + n2) % n3) (by have := List.length_take_le' i (add G x y); omega)
      refine ⟨acc, k1, k2, ?_⟩
      rw [take_succ_of hs]
      exact b3
    · rw [List.length_map, List.take_of_length_le (by omega)] at b1
      exact ⟨D, _, rfl, .inl ⟨SqL.of b1.is, fun l nl => q _ l (b1.same.trans (same_upd nl)) upd_same⟩⟩
end
end K25
set_option Elab.async false
set_option linter.all false
set_option maxRecDepth 100000
set_option maxHeartbeats 4000000
namespace K25
open PySem PySem.Spec PyProof.Rows L2
section
variable {P : Program} {w : World} {K : PySem.W.Frag} {mg : Str → Option Value} {base : Heap} {f : Addr} {fd : FuncData}
theorem small_abs {a : Int} (h0 : 0 ≤ a) (h1 : a ≤ 64) : a.natAbs < 2 ^ 30 := by
  have : a.natAbs ≤ 64 := by omega
  exact Nat.lt_of_le_of_lt this (by decide)
theorem mul_small {a b : Int} (h0 : 0 ≤ a) (h1 : a < 64) (h2 : 0 ≤ b) (h3 : b < 64) : 0 ≤ a * b ∧ a * b < 4096 := by
  refine ⟨Int.mul_nonneg h0 h2, ?_⟩
  have := Int.mul_le_mul (show a ≤ 63 by omega) (show b ≤ 63 by omega) h2 (by decide : (0 : Int) ≤ 63)
  omega
/-! ### kills -/
def spKills : Sp := fun vs H Q _ => ∃ (a b c : Addr) (G x y : List Int), vs = [.ref a, .ref b, .ref c] ∧ Ints H a G ∧ Ints H b x ∧ Ints H c y ∧ Grp G ∧ IsM G x ∧ IsM G y ∧ ∀ H', Same H H' → Q (.bl (killB G x y)) H'
theorem ok_kills (S : Stands K mg "kills" sKills f fd) (ml : mg "lcm" = some (.builtin "math.lcm")) (mz : mg "zip" = none) (ms : mg "sum" = none) : Keeps P w K mg base 1 "kills" ["group", "character", "member"] spKills := by
  refine S.keeps (S.fn.ok scKills (fun vs H Q E h => ?_) (fun cdv A outer s H vs Q E hr h => ?_)) fun _ _ _ _ _ _ us hl => match us, hl with | [_, _, _], _ => rfl
  · obtain ⟨a, b, c, G, x, y, rfl, _⟩ := h
    rfl
  · obtain ⟨a, b, c, G, x, y, rfl, ha, hb, hc, g, hx, hy, q⟩ := h
    refine ⟨_, pss_cons (ps_set (i := 3) scKills.nd rfl (.inr rfl) pe_int)
      (pss_cons (ps_for PassesOwn.never rfl (pi_tup (pv 0)) (pg_name (i := 4) scKills.nd rfl (.inl rfl))
        (pss_one (ps_set (i := 3) scKills.nd rfl (.inr rfl) (pe_callBfun cr_lcm (by rfl) ml (pa_cons (pv 3) (pa_cons (pv 4) pa_nil))))))
      (pss_cons (ps_setLc (i := 5) (own := [("one", 6), ("two", 7), ("modulus", 4)]) (g := gTup K 3 (gCons (gName 6) (gCons (gName 7) (gCons (gName 4) gNil)))) (by rfl) scKills.nd rfl rfl (sw_true rfl rfl rfl (by decide +kernel))
        (pi_zip3 (by rfl) mz (pa_cons (pv 1) (pa_cons (pv 2) (pa_cons (pv 0) pa_nil))))
        (blkOk_by (own := [("one", 6), ("two", 7), ("modulus", 4)]) (N := ["group", "character", "member", "whole", "modulus", "parts", "one", "two"]) (sc := defScope sKills) (by decide +kernel))
        (fun _ _ _ _ _ => pg_tup (by rfl) (pgs_cons (pg_name (i := 6) scKills.nd rfl (.inl rfl)) (pgs_cons (pg_name (i := 7) scKills.nd rfl (.inl rfl)) (pgs_cons (pg_name (i := 4) scKills.nd rfl (.inl rfl)) pgs_nil))))
        (fun _ _ _ _ _ => pts_nil) (fun _ _ _ _ _ => pe_op op_mul (pe_op op_mul (pv 6) (pv 7)) (pe_op op_fdiv (pv 3) (pv 4))))
      (pss_one (ps_ret (pe_cmpR op_eq (pe_op op_mod (pe_callB (cr_sum rfl) (by rfl) ms (by decide +kernel) (pa_cons (pv 5) pa_nil)) (pv 3)) pe_int (nomark _)))))), ?_⟩
    have lx := isM_length hx
    have ly := isM_length hy
    have h3 := g.few
    -- whole = lcm of the moduli
    refine ⟨.ref a, rfl, a, rfl, ⟨_, SqT.of ha⟩, for_tup (xs := G.map V.int) (fun i sg H' => ∃ y4, sg = [some (.ref a), some (.ref b), some (.ref c), some (.int (lcms (G.take i))), y4, none, none, none] ∧ H' = H)
      ⟨none, rfl, rfl⟩ (fun i sg H' _ h => ?_) (fun i v sg H' hi h => ?_) (fun sg H' h => ?_)⟩
    · obtain ⟨_, _, rfl⟩ := h
      exact SqT.of ha
    · obtain ⟨y4, rfl, rfl⟩ := h
      obtain ⟨m, hm, rfl⟩ := ints_at hi
      have hmG := g.pos m (List.mem_of_getElem? hm)
      have hl := lcms_le g.posG i
      have ho := g.ord
      refine ⟨.int (lcms (G.take i)), rfl, .int m, rfl, lcms (G.take i), m, rfl, small_abs (by omega) (by omega), small_abs (by omega) (by omega), some (.int m), ?_, rfl⟩
      rw [take_succ_of hm, lcms_snoc]
      rfl
    · obtain ⟨y4, rfl, rfl⟩ := h
      have eG : G.take (G.map V.int).length = G := List.take_of_length_le (by rw [List.length_map]; exact Nat.le_refl _)
      have hl := lcms_le g.posG (G.map V.int).length
      have hok := lcms_ok G
      rw [eG] at hl ⊢
      have ho := g.ord
      -- parts
      have lp := parts_length (lcms G) (G := G) lx ly
      refine ⟨.ref b, rfl, .ref c, rfl, .ref a, rfl, b, c, a, x.map V.int, y.map V.int, G.map V.int, rfl, SqT.of hb, SqT.of hc, SqT.of ha, fun D hD => ?_⟩
      refine lc_it (walk_zip3 (by rw [List.length_map, List.length_map]; omega) (by rw [List.length_map, List.length_map]; omega)) (fun i H1 => BldI H' D ((parts (lcms G) G x y).take i) H1) (BldI.start hD)
        (fun i H1 _ b1 => ⟨SqT.of (b1.same _ _ hb), SqT.of (b1.same _ _ hc), SqT.of (b1.same _ _ ha)⟩) (fun i v H1 H2 hi b1 hY => ?_) fun H1 b1 => ?_
      · obtain ⟨T, u1, u2, u3, rfl, nT, rfl, e1, e2, e3⟩ := hY
        obtain ⟨n1, f1, rfl⟩ := ints_at e1
        obtain ⟨n2, f2, rfl⟩ := ints_at e2
        obtain ⟨n3, f3, rfl⟩ := ints_at e3
        have hm := g.pos n3 (List.mem_of_getElem? f3)
        have b1' := isM_bound g hx f1
        have b2' := isM_bound g hy f2
        have hs := parts_at (lcms G) f3 f1 f2
        have b2 := b1.on (same_upd (o := .tup [V.int n1, V.int n2, V.int n3]) nT)
        have hmul := mul_small b1'.1 b1'.2 b2'.1 b2'.2
        refine ⟨T, [V.int n1, V.int n2, V.int n3], rfl, SqT.of upd_same, rfl, _, _, rfl, _, _, rfl, _, _, rfl, rfl, rfl, ?_⟩
        refine ⟨.int n1, rfl, .int n2, rfl, n1, n2, rfl, rfl, .inl ⟨by omega, by omega⟩, .int (lcms G), rfl, .int n3, rfl, lcms G, n3, rfl, rfl, ⟨by omega, by omega⟩, n1 * n2, lcms G / n3, rfl, rfl, .inl ⟨by omega, by omega⟩, ?_⟩
        obtain ⟨acc, k1, k2, b3⟩ := b2.step (y := n1 * n2 * (lcms G / n3)) (by have := List.length_take_le' i (parts (lcms G) G x y); omega)
        refine ⟨acc, k1, k2, ?_⟩
        rw [take_succ_of hs]
        exact b3
      · rw [List.length_map, List.take_of_length_le (by omega)] at b1
        refine ⟨.ref D, rfl, D, parts (lcms G) G x y, rfl, SqL.of b1.is, .int (lcms G), rfl, _, lcms G, rfl, rfl, hl.1, rfl, ?_⟩
        rw [killB_mod g.posG hok.1 hok.2.1]
        exact q _ b1.same
end
end K25
set_option Elab.async false
set_option linter.all false
set_option maxRecDepth 100000
set_option maxHeartbeats 4000000
namespace K25
open PySem PySem.Spec PyProof.Rows L2
/-! ### a list of any values that a comprehension fills -/
structure BldV (H : Hp) (D : Addr) (xs : List V) (H' : Hp) : Prop where
  new : H D = none
  same : Same H H'
  is : H' D = some (.lst xs)
theorem BldV.start {H : Hp} {D : Addr} (h : H D = none) : BldV H D [] (upd H D (.lst [])) := ⟨h, same_upd h, upd_same⟩
theorem BldV.on {H H1 H2 : Hp} {D : Addr} {xs : List V} (b : BldV H D xs H1) (s : Same H1 H2) : BldV H D xs H2 := ⟨b.new, b.same.trans s, s _ _ b.is⟩
theorem BldV.step {H H1 : Hp} {D : Addr} {xs : List V} {y : V} (b : BldV H D xs H1) (hz : xs.length < 100000) :
    ∃ acc, H1 D = some (.lst acc) ∧ acc.length < sizeLine ∧ BldV H D (xs ++ [y]) (upd H1 D (.lst (acc ++ [y]))) :=
  ⟨_, b.is, szl hz, b.new, same_mut b.new b.same, upd_same⟩
def charsL (G : List Int) (some : List (List Int)) : List (List Int) := (mems G).filter fun c => some.all fun m => killB G c m
theorem filter_take {α : Type} {l : List α} {i : Nat} {x : α} (p : α → Bool) (h : l[i]? = some x) : (l.take (i + 1)).filter p = (l.take i).filter p ++ if p x = true then [x] else [] := by
  rw [take_succ_of h, List.filter_append]
  congr 1
  by_cases hp : p x = true
  · rw [if_pos hp, List.filter_cons_of_pos hp]; rfl
  · rw [if_neg hp, List.filter_cons_of_neg hp]; rfl
theorem filter_take_le {α : Type} {l : List α} (i : Nat) (p : α → Bool) : ((l.take i).filter p).length ≤ l.length :=
  Nat.le_trans (List.length_filter_le _ _) (List.length_take_le' _ _)
section
variable {P : Program} {w : World} {K : PySem.W.Frag} {mg : Str → Option Value} {base : Heap} {f : Addr} {fd : FuncData}
/-! ### characters -/
def spChars : Sp := fun vs H Q _ => ∃ (a b : Addr) (G : List Int) (sm : List (List Int)), vs = [.ref a, .ref b] ∧ Ints H a G ∧ TupOf H b sm ∧ Grp G ∧ (∀ x ∈ sm, IsM G x) ∧ sm.length ≤ 64 ∧
  ∀ H' p, Same H H' → TupOf H' p (charsL G sm) → Q (.ref p) H'
theorem fn_chars (S : Stands K mg "characters" sChars f fd) (DM : Keeps P w K mg base 2 "group_members" ["group"] spMem) (DK : Keeps P w K mg base 1 "kills" ["group", "character", "member"] spKills)
    (mt : mg "tuple" = none) (ma : mg "all" = none) : FnOk P w K mg base CX0 3 f fd ["group", "some"] spChars := by
  refine S.fn.ok scChars (fun vs H Q E h => ?_) (fun cdv A outer s H vs Q E hr h => ?_)
  · obtain ⟨a, b, G, sm, rfl, _⟩ := h
    rfl
  · obtain ⟨a, b, G, sm, rfl, ha, hb, g, hM, hlen, q⟩ := h
    refine ⟨_, pss_cons (ps_set (i := 2) scChars.nd rfl (.inl rfl) (pe_lst pa_nil))
      (pss_cons (ps_for PassesOwn.never rfl (pi_tup (pe_callD DM hr (pa_cons (pv 0) pa_nil))) (pg_name (i := 3) scChars.nd rfl (.inr rfl))
        (pss_one (ps_if (pt_val (pe_callB (cr_all rfl) (by rfl) ma (by decide +kernel) (pa_cons
            (pe_lc (own := [("member", 4)]) (g := gName 4) (by rfl) scChars.nd (pi_tup (pv 1))
              (blkOk_by (own := [("member", 4)]) (N := ["group", "some", "found", "character", "member"]) (sc := defScope sChars) (by decide +kernel))
              (fun _ _ _ _ _ => pg_name (i := 4) scChars.nd rfl (.inl rfl)) (fun _ _ _ _ _ => pts_nil)
              (fun _ _ _ _ _ => pe_callD DK (hr.mono (by decide)) (pa_cons (pv 0) (pa_cons (pv 3) (pa_cons (pv 4) pa_nil))))) pa_nil)))
          (pss_one (ps_expr (pe_bm PySem.F.plainAttrs_list PySem.F.slot_list_append PySem.F.type_list_append mt_append (pv 2) (pa_cons (pv 3) pa_nil)))) pss_nil)))
      (pss_one (ps_ret (pe_callTy call_tuple_of (by rfl) mt (by decide +kernel) (pa_cons (pv 2) pa_nil))))), ?_⟩
    refine ⟨Nat.zero_le _, fun o no => ?_⟩
    have s1 := same_upd (o := .lst []) no
    -- for character in group_members(group)
    refine ⟨.ref a, rfl, a, G, rfl, s1 _ _ ha, g, fun H2 p s2 hL => ?_⟩
    obtain ⟨L, eL, hp, tL⟩ := hL
    have lL : L.length = (mems G).length := by rw [← eL, vals_len]
    have lm := g.mems_len
    refine ⟨p, rfl, ⟨_, SqT.of hp⟩, for_tup (xs := refs L) (fun i sg H' => ∃ y3 y4, sg = [some (.ref a), some (.ref b), some (.ref o), y3, y4] ∧ Same H H' ∧ (∀ q ∈ L, Ints H' q.1 q.2) ∧ H' p = some (.tup (refs L)) ∧ LstOf H' o (((mems G).take i).filter fun c => sm.all fun m => killB G c m) ∧ H o = none)
      ⟨none, none, rfl, s1.trans s2, tL, hp, LstOf.same ⟨[], rfl, upd_same, Tups.nil⟩ s2, no⟩ (fun i sg H' _ h => ?_) (fun i v sg H' hi h => ?_) (fun sg H' h => ?_)⟩
    · obtain ⟨_, _, _, _, _, h, _⟩ := h
      exact SqT.of h
    · obtain ⟨y3, y4, rfl, sH, tH, hpH, hl, _⟩ := h
      obtain ⟨⟨r, c⟩, hrL, rfl⟩ := refs_at hi
      have hc : (mems G)[i]? = some c := by rw [← eL]; exact vals_at hrL
      have hrc := tH _ (List.mem_of_getElem? hrL)
      have hcM : IsM G c := mem_mems.mp (List.mem_of_getElem? hc)
      obtain ⟨M, eM, hbM, tM⟩ := hb
      have lM : M.length = sm.length := by rw [← eM, vals_len]
      -- all([kills(..) for member in some])
      refine ⟨.ref b, rfl, b, rfl, ⟨_, SqT.of (sH _ _ hbM)⟩, fun D hD => ?_⟩
      refine lc_tup (xs := refs M) (fun j H3 => BldV H' D (((sm.take j).map fun m => killB G c m).map V.bl) H3) (BldV.start hD) (fun j H3 _ b3 => SqT.of ((sH.trans b3.same) _ _ hbM)) (fun j v H3 hj b3 => ?_) fun H3 b3 => ?_
      · obtain ⟨⟨rm, m⟩, hrm, rfl⟩ := refs_at hj
        have hm : sm[j]? = some m := by rw [← eM]; exact vals_at hrm
        have him := tM _ (List.mem_of_getElem? hrm)
        refine ⟨rfl, .ref a, rfl, .ref r, rfl, .ref rm, rfl, a, r, rm, G, c, m, rfl, (sH.trans b3.same) _ _ ha, b3.same _ _ hrc, (sH.trans b3.same) _ _ him, g, hcM, hM m (List.mem_of_getElem? hm), fun H4 s4 => ?_⟩
        obtain ⟨acc, k1, k2, b4⟩ := (b3.on s4).step (y := .bl (killB G c m)) (by
          rw [List.length_map, List.length_map]
          have := List.length_take_le' j sm
          omega)
        refine ⟨acc, k1, k2, ?_⟩
        rw [take_succ_of hm, List.map_append, List.map_append]
        exact b4
      · rw [refs_len, List.take_of_length_le (by omega)] at b3
        refine ⟨D, _, rfl, SqL.of b3.is, _, rfl, ?_⟩
        have eall : ((sm.map fun m => killB G c m).all id) = sm.all fun m => killB G c m := by rw [List.all_map]; rfl
        rw [eall]
        have sH3 := sH.trans b3.same
        have hl3 := hl.same b3.same
        refine ite2 (fun hyes => ?_) fun hno => ?_
        · -- found.append(character)
          obtain ⟨Lo, eo, ho, to⟩ := hl3
          have hlen2 : (refs Lo).length ≤ 64 := by
            rw [refs_len, ← vals_len, eo]
            exact Nat.le_trans (filter_take_le i _) lm
          refine ⟨.ref o, rfl, .inl ⟨rfl, _, SqL.of ho⟩, .ref r, rfl, o, refs Lo, .ref r, rfl, rfl, ho, szl (by omega), some (.ref r), y4, rfl, same_mut no sH3, fun q hq => ?_, ?_, ⟨Lo ++ [(r, c)], ?_, ?_, ?_⟩, no⟩
          · exact Tups.updL (L := L) (fun z hz => b3.same _ _ (tH z hz)) ho q hq
          · rw [upd_ne (ne_of (b3.same _ _ hpH) ho (fun e => nomatch e))]
            exact b3.same _ _ hpH
          · rw [vals_app, eo, filter_take _ hc, if_pos hyes]
            rfl
          · rw [upd_same, refs_app]
            rfl
          · exact (to.app (Tups.cons (L := []) (b3.same _ _ hrc) Tups.nil)).updL ho
        · refine ⟨some (.ref r), y4, rfl, sH3, fun q hq => b3.same _ _ (tH q hq), b3.same _ _ hpH, ?_, no⟩
          rw [filter_take _ hc, if_neg hno, List.append_nil]
          exact hl3
    · obtain ⟨y3, y4, rfl, sH, tH, hpH, hl, _⟩ := h
      rw [refs_len, List.take_of_length_le (by omega)] at hl
      obtain ⟨Lo, eo, ho, to⟩ := hl
      exact ⟨.ref o, rfl, o, refs Lo, rfl, .inl ⟨SqL.of ho, fun l nl => q _ l (sH.trans (same_upd nl)) ⟨Lo, eo, upd_same, to.same (same_upd nl)⟩⟩⟩
theorem ok_chars (S : Stands K mg "characters" sChars f fd) (DM : Keeps P w K mg base 2 "group_members" ["group"] spMem) (DK : Keeps P w K mg base 1 "kills" ["group", "character", "member"] spKills)
    (mt : mg "tuple" = none) (ma : mg "all" = none) : Keeps P w K mg base 3 "characters" ["group", "some"] spChars :=
  S.keeps (fn_chars S DM DK mt ma) fun _ _ _ _ _ _ us hl => match us, hl with | [_, _], _ => rfl
end
end K25
set_option Elab.async false
set_option linter.all false
set_option maxRecDepth 100000
set_option maxHeartbeats 4000000
namespace K25
open PySem PySem.Spec PyProof.Rows L2
/-! ### the span as a closure, and by its characters -/
inductive Spn (G : List Int) (sm : List (List Int)) : List Int → Prop
  | zero : Spn G sm (zero G)
  | step {x o : List Int} : Spn G sm x → o ∈ sm → Spn G sm (add G x o)
def spanL (G : List Int) (sm : List (List Int)) : List (List Int) := (mems G).filter fun x => (charsL G sm).all fun c => killB G c x
theorem add_assoc : ∀ {G a b c : List Int}, add G (add G a b) c = add G a (add G b c)
  | [], _, _, _ => by simp [add]
  | m :: r, [], _, _ => by simp [add]
  | m :: r, a :: as, [], _ => by simp [add]
  | m :: r, a :: as, b :: bs, [] => by simp [add]
  | m :: r, a :: as, b :: bs, c :: cs => by
    show ((a + b) % m + c) % m :: add r (add r as bs) cs = (a + (b + c) % m) % m :: add r as (add r bs cs)
    rw [add_assoc, Int.emod_add_emod, Int.add_emod_emod, Int.add_assoc]
theorem zero_add {G a : List Int} (h : IsM G a) : add G (zero G) a = a := by rw [add_comm, add_zero h]
section
variable {G : List Int} {sm : List (List Int)}
theorem Spn.isM (hp : PosG G) (hs : ∀ o ∈ sm, IsM G o) {x : List Int} (h : Spn G sm x) : IsM G x := by
  induction h with
  | zero => exact isM_zero hp
  | step _ ho ih => exact isM_add hp ih (hs _ ho)
theorem Spn.sub (hp : PosG G) (hs : ∀ o ∈ sm, IsM G o) : Sub G (Spn G sm) := by
  refine ⟨.zero, fun a b ha hb h1 h2 => ?_⟩
  clear hb
  induction h2 with
  | zero => rw [add_zero ha]; exact h1
  | step _ ho ih => rw [← add_assoc]; exact .step ih ho
theorem Spn.of_mem (hs : ∀ o ∈ sm, IsM G o) {o : List Int} (ho : o ∈ sm) : Spn G sm o := by
  have := Spn.step (G := G) (Spn.zero (sm := sm)) ho
  rwa [zero_add (hs o ho)] at this
theorem ann_spn (hp : PosG G) (hs : ∀ o ∈ sm, IsM G o) {c : List Int} (hc : IsM G c) : Ann G (Spn G sm) c ↔ ∀ o ∈ sm, Kill G c o := by
  constructor
  · intro h o ho
    exact h o (hs o ho) (Spn.of_mem hs ho)
  · intro h x hx hsp
    clear hx
    induction hsp with
    | zero => exact Kill.zero
    | step h1 ho ih => exact Kill.add hc (Spn.isM hp hs h1) (hs _ ho) ih (h _ ho)
theorem mem_charsL {c : List Int} : c ∈ charsL G sm ↔ IsM G c ∧ ∀ o ∈ sm, Kill G c o := by
  unfold charsL
  rw [List.mem_filter, mem_mems, List.all_eq_true]
  unfold killB
  simp only [decide_eq_true_eq]
theorem mem_spanL' {x : List Int} : x ∈ spanL G sm ↔ IsM G x ∧ ∀ c ∈ charsL G sm, Kill G c x := by
  unfold spanL
  rw [List.mem_filter, mem_mems, List.all_eq_true]
  unfold killB
  simp only [decide_eq_true_eq]
/-- the duality -/
theorem mem_spanL (hp : PosG G) (hs : ∀ o ∈ sm, IsM G o) {x : List Int} : x ∈ spanL G sm ↔ Spn G sm x := by
  rw [mem_spanL']
  constructor
  · rintro ⟨hx, h⟩
    refine (ann_ann hp (Spn.sub hp hs) hx).mp fun c hc hA => ?_
    exact (h c (mem_charsL.mpr ⟨hc, (ann_spn hp hs hc).mp hA⟩)).comm
  · intro h
    have hx := Spn.isM hp hs h
    refine ⟨hx, fun c hc => ?_⟩
    obtain ⟨h1, h2⟩ := mem_charsL.mp hc
    exact (ann_spn hp hs h1).mpr h2 x hx h
/-- how many of both -/
theorem span_chars (hp : PosG G) (hs : ∀ o ∈ sm, IsM G o) : (charsL G sm).length * (spanL G sm).length = (mems G).length := by
  classical
  have h := count_main hp (Spn.sub hp hs)
  have h2 := mems_length hp
  have e1 : cnt (mems G) (Spn G sm) = (spanL G sm).length := by
    unfold cnt
    rw [List.countP_eq_length_filter]
    unfold spanL
    congr 1
    refine List.filter_congr fun x hx => ?_
    have hM := mem_mems.mp hx
    have := mem_spanL (x := x) hp hs
    rw [mem_spanL'] at this
    rw [Bool.eq_iff_iff, decide_eq_true_eq, List.all_eq_true, ← this]
    unfold killB
    simp only [decide_eq_true_eq]
    exact ⟨fun h => h.2, fun h => ⟨hM, h⟩⟩
  have e2 : cnt (mems G) (Ann G (Spn G sm)) = (charsL G sm).length := by
    unfold cnt
    rw [List.countP_eq_length_filter]
    unfold charsL
    congr 1
    refine List.filter_congr fun c hc => ?_
    have hM := mem_mems.mp hc
    have := ann_spn hp hs hM
    rw [Bool.eq_iff_iff, decide_eq_true_eq, List.all_eq_true, this]
    unfold killB
    simp only [decide_eq_true_eq]
  rw [e1, e2, ← h2] at h
  rw [Nat.mul_comm]
  omega
end

/-! ### sorted lists of tuples -/
theorem lexLt_irr : ∀ a : List Int, HT.lexLt a a = false
  | [] => rfl
  | x :: a => by rw [HT.lexLt_cons, if_pos rfl, lexLt_irr a]
theorem lexLt_asymm : ∀ {a b : List Int}, HT.lexLt a b = true → HT.lexLt b a = false
  | [], [], h => rfl
  | [], _ :: _, _ => rfl
  | _ :: _, [], h => by cases h
  | x :: a, y :: b, h => by
    rw [HT.lexLt_cons] at h ⊢
    by_cases e : x = y
    · subst e
      rw [if_pos rfl] at h ⊢
      exact lexLt_asymm h
    · rw [if_neg e] at h
      rw [if_neg (Ne.symm e)]
      have := of_decide_eq_true h
      exact decide_eq_false (by omega)
theorem lexLt_total : ∀ {a b : List Int}, HT.lexLt a b = false → HT.lexLt b a = false → a = b
  | [], [], _, _ => rfl
  | [], _ :: _, h, _ => by cases h
  | _ :: _, [], _, h => by cases h
  | x :: a, y :: b, h1, h2 => by
    rw [HT.lexLt_cons] at h1 h2
    by_cases e : x = y
    · subst e
      rw [if_pos rfl] at h1 h2
      rw [lexLt_total h1 h2]
    · rw [if_neg e] at h1
      rw [if_neg (Ne.symm e)] at h2
      have a1 := of_decide_eq_false h1
      have a2 := of_decide_eq_false h2
      omega
abbrev Asc (l : List (List Int)) : Prop := l.Pairwise fun x y => HT.lexLt x y = true
theorem asc_mems : ∀ G : List Int, Asc (mems G)
  | [] => List.pairwise_singleton _ _
  | m :: r => by
    refine List.pairwise_flatMap.mpr ⟨fun k _ => List.pairwise_map.mpr (List.Pairwise.imp (fun h => ?_) (asc_mems r)), ?_⟩
    · rw [HT.lexLt_cons, if_pos rfl]
      exact h
    · unfold iota
      refine List.pairwise_map.mpr (List.Pairwise.imp (fun h => ?_) List.pairwise_lt_range)
      intro x hx y hy
      obtain ⟨z, _, rfl⟩ := List.mem_map.mp hx
      obtain ⟨w, _, rfl⟩ := List.mem_map.mp hy
      rw [HT.lexLt_cons, if_neg (by omega)]
      exact decide_eq_true (by omega)
theorem asc_unique : ∀ {l k : List (List Int)}, Asc l → Asc k → (∀ x, x ∈ l ↔ x ∈ k) → l = k
  | [], [], _, _, _ => rfl
  | [], y :: k, _, _, h => absurd ((h y).mpr List.mem_cons_self) (by simp)
  | x :: l, [], _, _, h => absurd ((h x).mp List.mem_cons_self) (by simp)
  | x :: l, y :: k, hl, hk, h => by
    obtain ⟨l1, l2⟩ := List.pairwise_cons.mp hl
    obtain ⟨k1, k2⟩ := List.pairwise_cons.mp hk
    have e : x = y := by
      rcases List.mem_cons.mp ((h x).mp List.mem_cons_self) with e | hx
      · exact e
      · rcases List.mem_cons.mp ((h y).mpr List.mem_cons_self) with e | hy
        · exact e.symm
        · have a1 := k1 x hx
          have a2 := l1 y hy
          rw [lexLt_asymm a1] at a2
          cases a2
    subst e
    rw [asc_unique l2 k2 fun z => ?_]
    constructor
    · intro hz
      rcases List.mem_cons.mp ((h z).mp (List.mem_cons_of_mem _ hz)) with e | hz2
      · subst e
        have := l1 z hz
        rw [lexLt_irr] at this
        cases this
      · exact hz2
    · intro hz
      rcases List.mem_cons.mp ((h z).mpr (List.mem_cons_of_mem _ hz)) with e | hz2
      · subst e
        have := k1 z hz
        rw [lexLt_irr] at this
        cases this
      · exact hz2
/-- what sorted leaves of a list without twins -/
theorem asc_of_srt {l : List (List Int)} (hs : l.Pairwise fun x y => HT.lexLt y x = false) (hn : l.Nodup) : Asc l := by
  refine (hs.and hn).imp fun h => ?_
  obtain ⟨h1, h2⟩ := h
  cases q : HT.lexLt _ _ with
  | true => rfl
  | false => exact absurd (lexLt_total q h1) h2
end K25
set_option Elab.async false
set_option linter.all false
set_option maxRecDepth 100000
set_option maxHeartbeats 4000000
namespace K25
open PySem PySem.Spec PyProof.Rows L2
/-! ### tuples of ints as data -/
abbrev datT (x : List Int) : PyData := .tuple (x.map PyData.int)
abbrev datTs (xss : List (List Int)) : List PyData := xss.map datT
theorem ints_lay : ∀ x : List Int, PyData.canLayAll0 (x.map PyData.int) = true
  | [] => by simp [PyData.canLayAll0]
  | _ :: x => by simp [PyData.canLayAll0, PyData.canLay0, ints_lay x]
theorem ints_depth : ∀ x : List Int, PyData.depthAll (x.map PyData.int) = 0
  | [] => by simp [PyData.depthAll]
  | _ :: x => by simp [PyData.depthAll, PyData.depth, ints_depth x]
theorem datT_lay (x : List Int) : (datT x).canLay0 = true := by simp only [datT, PyData.canLay0]; exact ints_lay x
theorem datT_depth (x : List Int) : (datT x).depth = 1 := by simp only [datT, PyData.depth, ints_depth]
theorem datTs_lay : ∀ xss : List (List Int), PyData.canLayAll0 (datTs xss) = true
  | [] => by simp [PyData.canLayAll0]
  | x :: xss => by
    rw [datTs, List.map_cons]
    simp only [PyData.canLayAll0, datT_lay x, Bool.true_and]
    exact datTs_lay xss
theorem datTs_depth : ∀ xss : List (List Int), PyData.depthAll (datTs xss) ≤ 1
  | [] => by simp [PyData.depthAll]
  | x :: xss => by
    rw [datTs, List.map_cons]
    simp only [PyData.depthAll, datT_depth x]
    have := datTs_depth xss
    exact Nat.max_le.mpr ⟨Nat.le_refl 1, this⟩
theorem shaped_of {d : PyData} (h1 : d.canLay0 = true) (h2 : d.depth ≤ 60) : SeqAt.shaped d = true := by
  show (d.canLay0 && decide (d.depth ≤ 64)) = true
  rw [Bool.and_eq_true]
  exact ⟨h1, decide_eq_true (by omega)⟩
theorem shaped_T (x : List Int) : SeqAt.shaped (datT x) = true := shaped_of (datT_lay x) (by rw [datT_depth]; decide)
theorem shaped_L (xss : List (List Int)) : SeqAt.shaped (.list (datTs xss)) = true := shaped_of (by simp only [PyData.canLay0]; exact datTs_lay xss) (by
  simp only [PyData.depth]
  have := datTs_depth xss
  omega)
theorem shaped_U (xss : List (List Int)) : SeqAt.shaped (.tuple (datTs xss)) = true := shaped_of (by simp only [PyData.canLay0]; exact datTs_lay xss) (by
  simp only [PyData.depth]
  have := datTs_depth xss
  omega)
theorem shaped_I (x : List Int) : SeqAt.shaped (.list (x.map PyData.int)) = true := shaped_of (by simp only [PyData.canLay0]; exact ints_lay x) (by
  simp only [PyData.depth, ints_depth]
  decide)
theorem eqv_ints : ∀ x y : List Int, PyData.eqvAll (x.map PyData.int) (y.map PyData.int) = decide (x = y)
  | [], [] => by simp [PyData.eqvAll]
  | [], _ :: _ => by simp [PyData.eqvAll]
  | _ :: _, [] => by simp [PyData.eqvAll]
  | a :: x, b :: y => by
    rw [List.map_cons, List.map_cons]
    simp only [PyData.eqvAll, PyData.eqv, eqv_ints x y]
    by_cases e : a = b
    · subst e
      simp
    · simp [e]
theorem eqv_T (x y : List Int) : PyData.eqv (datT x) (datT y) = decide (x = y) := by simp only [datT, PyData.eqv]; exact eqv_ints x y
theorem eqv_Ts : ∀ xss yss : List (List Int), PyData.eqvAll (datTs xss) (datTs yss) = decide (xss = yss)
  | [], [] => by simp [PyData.eqvAll]
  | [], _ :: _ => by simp [PyData.eqvAll]
  | _ :: _, [] => by simp [PyData.eqvAll]
  | a :: x, b :: y => by
    rw [datTs, datTs, List.map_cons, List.map_cons]
    simp only [PyData.eqvAll, eqv_T]
    have ih := eqv_Ts x y
    rw [ih]
    by_cases e : a = b
    · subst e
      simp
    · simp [e]
theorem eqv_L (xss yss : List (List Int)) : PyData.eqv (.list (datTs xss)) (.list (datTs yss)) = decide (xss = yss) := by simp only [PyData.eqv]; exact eqv_Ts xss yss
theorem eqv_I (x y : List Int) : PyData.eqv (.list (x.map PyData.int)) (.list (y.map PyData.int)) = decide (x = y) := by simp only [PyData.eqv]; exact eqv_ints x y
theorem any_T (x : List Int) : ∀ xss : List (List Int), ((datTs xss).any fun z => PyData.eqv z (datT x)) = decide (x ∈ xss)
  | [] => by simp
  | y :: xss => by
    rw [datTs, List.map_cons, List.any_cons, any_T x xss, eqv_T]
    by_cases e : y = x
    · subst e
      simp
    · rw [decide_eq_false e, Bool.false_or]
      refine decide_eq_decide.mpr ?_
      rw [List.mem_cons]
      exact ⟨.inr, fun h => h.elim (fun h => absurd h.symm e) id⟩
theorem dp_ints {K : PySem.W.Frag} {H : Hp} : ∀ x : List Int, DpAll K H (x.map V.int) (x.map PyData.int)
  | [] => .nil
  | n :: x => .cons (.int n) (dp_ints x)
theorem dp_T {K : PySem.W.Frag} {H : Hp} {a : Addr} {x : List Int} (h : Ints H a x) : Dp K H (.ref a) (datT x) := .tup (SqT.of h) (dp_ints x)
theorem dp_refs {K : PySem.W.Frag} {H : Hp} : ∀ {L : List (Addr × List Int)}, Tups H L → DpAll K H (refs L) (datTs (vals L))
  | [], _ => .nil
  | p :: L, t => .cons (dp_T (t p List.mem_cons_self)) (dp_refs fun q hq => t q (List.mem_cons_of_mem _ hq))
theorem dp_L {K : PySem.W.Frag} {H : Hp} {a : Addr} {xss : List (List Int)} (h : LstOf H a xss) : Dp K H (.ref a) (.list (datTs xss)) := by
  obtain ⟨L, e, ha, t⟩ := h
  rw [← e]
  exact .lst (SqL.of ha) (dp_refs t)
theorem dp_U {K : PySem.W.Frag} {H : Hp} {a : Addr} {xss : List (List Int)} (h : TupOf H a xss) : Dp K H (.ref a) (.tuple (datTs xss)) := by
  obtain ⟨L, e, ha, t⟩ := h
  rw [← e]
  exact .tup (SqT.of ha) (dp_refs t)
theorem dp_I {K : PySem.W.Frag} {H : Hp} {a : Addr} {x : List Int} (h : H a = some (.lst (x.map V.int))) : Dp K H (.ref a) (.list (x.map PyData.int)) := .lst (SqL.of h) (dp_ints x)

/-! ### their texts -/
theorem piled_le {b : Nat} : ∀ ts : List Str, (∀ t ∈ ts, t.length ≤ b) → piled ts ≤ ts.length * (b + 2)
  | [], _ => Nat.zero_le _
  | t :: ts, h => by
    have h1 := h t List.mem_cons_self
    have h2 := piled_le ts fun u hu => h u (List.mem_cons_of_mem _ hu)
    rw [piled_cons, List.length_cons, Nat.add_mul, Nat.one_mul]
    omega
theorem tupleText_le (ts : List Str) : (tupleText ts).length ≤ piled ts + 3 := by
  unfold tupleText
  have e1 : (("(" : String) : Str).length = 1 := rfl
  have e2 : ((if ts.length == 1 then ",)" else ")" : String) : Str).length ≤ 2 := by
    split
    · exact Nat.le_refl 2
    · show 1 ≤ 2; decide
  rw [strLen_append, strLen_append, e1]
  cases ts with
  | nil =>
    have : (Str.join ", " ([] : List Str)).length = 0 := rfl
    omega
  | cons t r =>
    have := join_length_add (t :: r) (by simp)
    omega
theorem textFrom_le : ∀ (ts : List Str) (k : Nat) (acc : Str), (textFrom k acc ts).length ≤ acc.length + piled ts
  | [], _, _ => Nat.le_add_right _ _
  | t :: r, k, acc => by
    have h := textFrom_le r (k + 1) (acc ++ (if k > 0 then ", " else "" : String) ++ t)
    rw [strLen_append, strLen_append] at h
    have e : ((if k > 0 then ", " else "" : String) : Str).length ≤ 2 := by
      split
      · exact Nat.le_refl 2
      · exact Nat.zero_le 2
    rw [piled_cons]
    show (textFrom (k + 1) _ r).length ≤ _
    omega
theorem listText_le (ts : List Str) : (listText ts).length ≤ piled ts + 2 := by
  unfold listText
  have e1 : (("]" : String) : Str).length = 1 := rfl
  have e2 : (("[" : String) : Str).length = 1 := rfl
  rw [strLen_append, e1]
  have := textFrom_le ts 0 "["
  omega
theorem shownAll_map (ds : List PyData) : PyData.shownAll ds = ds.map PyData.shown := by
  induction ds with
  | nil => simp [PyData.shownAll]
  | cons d ds ih => simp [PyData.shownAll, ih]
theorem shown_small : ∀ k : Nat, k < 64 → (PyData.int (k : Int)).shown.length ≤ 2 ∧ (PyData.int (k : Int)).showable = true := by decide +kernel
theorem shown_int {n : Int} (h0 : 0 ≤ n) (h1 : n < 64) : (PyData.int n).shown.length ≤ 2 ∧ (PyData.int n).showable = true := by
  obtain ⟨k, rfl⟩ := Int.eq_ofNat_of_zero_le h0
  exact shown_small k (by omega)
/-- small: few items, each small -/
def Smal (xss : List (List Int)) : Prop := xss.length ≤ 64 ∧ ∀ x ∈ xss, x.length ≤ 3 ∧ ∀ n ∈ x, 0 ≤ n ∧ n < 64
theorem shown_T {x : List Int} (h3 : x.length ≤ 3) (h : ∀ n ∈ x, 0 ≤ n ∧ n < 64) : (datT x).shown.length ≤ 15 ∧ (datT x).showable = true := by
  constructor
  · show (PyData.shown (.tuple (x.map PyData.int))).length ≤ 15
    simp only [PyData.shown]
    rw [shownAll_map]
    have h1 := tupleText_le ((x.map PyData.int).map PyData.shown)
    have h2 := piled_le (b := 2) ((x.map PyData.int).map PyData.shown) fun t ht => by
      obtain ⟨d, hd, rfl⟩ := List.mem_map.mp ht
      obtain ⟨n, hn, rfl⟩ := List.mem_map.mp hd
      exact (shown_int (h n hn).1 (h n hn).2).1
    rw [List.length_map, List.length_map] at h2
    omega
  · simp only [datT, PyData.showable]
    clear h3
    induction x with
    | nil => simp [PyData.showableAll]
    | cons n x ih =>
      rw [List.map_cons]
      simp only [PyData.showableAll, Bool.and_eq_true]
      have := h n List.mem_cons_self
      exact ⟨(shown_int this.1 this.2).2, ih fun z hz => h z (List.mem_cons_of_mem _ hz)⟩
theorem shown_U {xss : List (List Int)} (h : Smal xss) : (PyData.tuple (datTs xss)).shown.length ≤ 1100 ∧ (PyData.tuple (datTs xss)).showable = true := by
  obtain ⟨h1, h2⟩ := h
  constructor
  · simp only [PyData.shown]
    rw [shownAll_map]
    have a1 := tupleText_le ((datTs xss).map PyData.shown)
    have a2 := piled_le (b := 15) ((datTs xss).map PyData.shown) fun t ht => by
      obtain ⟨d, hd, rfl⟩ := List.mem_map.mp ht
      obtain ⟨x, hx, rfl⟩ := List.mem_map.mp hd
      exact (shown_T (h2 x hx).1 (h2 x hx).2).1
    rw [List.length_map, List.length_map] at a2
    omega
  · simp only [PyData.showable]
    clear h1
    induction xss with
    | nil => simp [PyData.showableAll]
    | cons x xss ih =>
      rw [datTs, List.map_cons]
      simp only [PyData.showableAll, Bool.and_eq_true]
      have := h2 x List.mem_cons_self
      exact ⟨(shown_T this.1 this.2).2, ih fun z hz => h2 z (List.mem_cons_of_mem _ hz)⟩
theorem noDict_ints : ∀ x : List Int, PyData.hasDictAll (x.map PyData.int) = false
  | [] => by simp [PyData.hasDictAll]
  | _ :: x => by simp [PyData.hasDictAll, PyData.hasDict, noDict_ints x]
theorem noDict_Ts : ∀ xss : List (List Int), PyData.hasDictAll (datTs xss) = false
  | [] => by simp [PyData.hasDictAll]
  | x :: xss => by
    rw [datTs, List.map_cons]
    simp only [PyData.hasDictAll, PyData.hasDict, noDict_ints, Bool.false_or]
    exact noDict_Ts xss
theorem noDict_U (xss : List (List Int)) : (PyData.tuple (datTs xss)).hasDict = false := by simp only [PyData.hasDict]; exact noDict_Ts xss
theorem depth_U (xss : List (List Int)) : (PyData.tuple (datTs xss)).depth ≤ 2 := by
  simp only [PyData.depth]
  have := datTs_depth xss
  omega
/-- a list of three of these -/
abbrev datL3 (a b c : List (List Int)) : PyData := .list [.tuple (datTs a), .tuple (datTs b), .tuple (datTs c)]
theorem L3_ok {a b c : List (List Int)} (ha : Smal a) (hb : Smal b) (hc : Smal c) : (datL3 a b c).showable = true ∧ (datL3 a b c).hasDict = false ∧ (datL3 a b c).depth ≤ 60 ∧ (datL3 a b c).shown.length ≤ sizeLine := by
  refine ⟨?_, ?_, ?_, ?_⟩
  · have h1 := (shown_U ha).2
    have h2 := (shown_U hb).2
    have h3 := (shown_U hc).2
    simp only [PyData.showable] at h1 h2 h3
    simp only [datL3, PyData.showable, PyData.showableAll, h1, h2, h3, Bool.and_self]
  · have h1 := noDict_U a
    have h2 := noDict_U b
    have h3 := noDict_U c
    simp only [PyData.hasDict] at h1 h2 h3
    simp only [datL3, PyData.hasDict, PyData.hasDictAll, h1, h2, h3, Bool.or_self]
  · have h1 := depth_U a
    have h2 := depth_U b
    have h3 := depth_U c
    simp only [datL3, PyData.depth, PyData.depthAll] at h1 h2 h3 ⊢
    omega
  · have h1 := (shown_U ha).1
    have h2 := (shown_U hb).1
    have h3 := (shown_U hc).1
    refine sz ?_
    show (PyData.shown (.list [.tuple (datTs a), .tuple (datTs b), .tuple (datTs c)])).length ≤ _
    rw [PyData.shown, shownAll_map]
    have a1 := listText_le ([PyData.tuple (datTs a), .tuple (datTs b), .tuple (datTs c)].map PyData.shown)
    have a2 := piled_le (b := 1100) ([PyData.tuple (datTs a), .tuple (datTs b), .tuple (datTs c)].map PyData.shown) fun t ht => by
      simp only [List.map_cons, List.map_nil, List.mem_cons, List.not_mem_nil, or_false] at ht
      rcases ht with rfl | rfl | rfl <;> assumption
    rw [List.length_map] at a2
    have e : [PyData.tuple (datTs a), .tuple (datTs b), .tuple (datTs c)].length = 3 := rfl
    rw [e] at a2
    omega
end K25
set_option Elab.async false
set_option linter.all false
set_option maxRecDepth 100000
set_option maxHeartbeats 4000000
namespace K25
open PySem PySem.Spec PyProof.Rows L2
/-! ### the dict found: its keys FL -/
abbrev keyE (x : List Int) : List Key × V := (x.map Sum.inl, V.bl true)
abbrev dictT (FL : List (List Int)) : HO := .dT (FL.map keyE)
theorem key_inj {x y : List Int} (h : (x.map Sum.inl : List Key) = y.map Sum.inl) : x = y := by
  induction x generalizing y with
  | nil => cases y with
    | nil => rfl
    | cons _ _ => cases h
  | cons a x ih =>
    cases y with
    | nil => cases h
    | cons b y =>
      rw [List.map_cons, List.map_cons] at h
      obtain ⟨h1, h2⟩ := List.cons.inj h
      rw [ih h2, Sum.inl.inj h1]
theorem key_vals (x : List Int) : (x.map Sum.inl : List Key).map kV = x.map V.int := by rw [List.map_map]; rfl
theorem valV_keys (x : List Int) : ∀ FL : List (List Int), (valV (FL.map keyE) (x.map Sum.inl)).isSome = decide (x ∈ FL)
  | [] => by simp [valV]
  | y :: FL => by
    rw [List.map_cons]
    by_cases e : y = x
    · subst e
      rw [valV_pos rfl, decide_eq_true List.mem_cons_self]
      rfl
    · rw [valV_neg (fun q => e (key_inj q)), valV_keys x FL]
      refine decide_eq_decide.mpr ?_
      rw [List.mem_cons]
      exact ⟨.inr, fun h => h.elim (fun h => absurd h.symm e) id⟩
theorem putK_keys {x : List Int} {FL : List (List Int)} (h : x ∉ FL) : putK (FL.map keyE) (x.map Sum.inl) (V.bl true) = (FL ++ [x]).map keyE := by
  unfold putK
  rw [if_neg, List.map_append]
  · rfl
  · rw [List.any_eq_true]
    rintro ⟨p, hp, e⟩
    obtain ⟨y, hy, rfl⟩ := List.mem_map.mp hp
    have := key_inj (of_decide_eq_true e)
    rw [← this] at h
    exact h hy

/-- the state of the search: the dict at d holds FL, the list at t waits with WL -/
structure Sch (H0 : Hp) (d t : Addr) (G : List Int) (sm FL : List (List Int)) (WL : List (Addr × List Int)) (H : Hp) : Prop where
  same : Same H0 H
  nd : H0 d = none
  nt : H0 t = none
  dict : H d = some (dictT FL)
  wait : H t = some (.lst (refs WL))
  tups : Tups H WL
  mem : ∀ x ∈ FL, Spn G sm x
  nod : FL.Nodup
  zer : zero G ∈ FL
  sub : ∀ p ∈ WL, p.2 ∈ FL
theorem Sch.len {H0 H : Hp} {d t : Addr} {G : List Int} {sm FL : List (List Int)} {WL : List (Addr × List Int)} (s : Sch H0 d t G sm FL WL H) (hp : PosG G) (hs : ∀ o ∈ sm, IsM G o) : FL.length ≤ (mems G).length :=
  List.Nodup.length_le_of_subset s.nod fun x hx => mem_mems.mpr (Spn.isM hp hs (s.mem x hx))
theorem Sch.on {H0 H H' : Hp} {d t : Addr} {G : List Int} {sm FL : List (List Int)} {WL : List (Addr × List Int)} (s : Sch H0 d t G sm FL WL H) (h : Same H H') : Sch H0 d t G sm FL WL H' :=
  ⟨s.same.trans h, s.nd, s.nt, h _ _ s.dict, h _ _ s.wait, s.tups.same h, s.mem, s.nod, s.zer, s.sub⟩
/-- one is taken from the waiting -/
theorem Sch.pop {H0 H : Hp} {d t : Addr} {G : List Int} {sm FL : List (List Int)} {WL : List (Addr × List Int)} {p : Addr × List Int} (s : Sch H0 d t G sm FL (WL ++ [p]) H) : Sch H0 d t G sm FL WL (upd H t (.lst (refs WL))) := by
  have hne : d ≠ t := ne_of s.dict s.wait (fun e => nomatch e)
  refine ⟨same_mut s.nt s.same, s.nd, s.nt, ?_, upd_same, ?_, s.mem, s.nod, s.zer, fun q hq => s.sub q (List.mem_append_left _ hq)⟩
  · rw [upd_ne hne]
    exact s.dict
  · exact Tups.updL (s.tups.sub fun q hq => List.mem_append_left _ hq) s.wait
/-- a new one is stored -/
theorem Sch.put {H0 H : Hp} {d t q : Addr} {G : List Int} {sm FL : List (List Int)} {WL : List (Addr × List Int)} {y : List Int} (s : Sch H0 d t G sm FL WL H) (hq : Ints H q y) (hy : Spn G sm y) (hn : y ∉ FL) :
    Sch H0 d t G sm (FL ++ [y]) (WL ++ [(q, y)]) (upd (upd H d (dictT (FL ++ [y]))) t (.lst (refs WL ++ [V.ref q]))) := by
  have hne : d ≠ t := ne_of s.dict s.wait (fun e => nomatch e)
  have keepD : ∀ {a : Addr} {xs : List Int}, Ints H a xs → upd H d (dictT (FL ++ [y])) a = some (.tup (xs.map V.int)) := fun {a xs} h => by
    rw [upd_ne (ne_of h s.dict (fun e => nomatch e))]
    exact h
  have keepT : ∀ {a : Addr} {xs : List Int}, Ints H a xs → Ints (upd (upd H d (dictT (FL ++ [y]))) t (.lst (refs WL ++ [V.ref q]))) a xs := fun {a xs} h => by
    show upd _ t _ a = _
    rw [upd_ne (ne_of h s.wait (fun e => nomatch e))]
    exact keepD h
  refine ⟨same_mut s.nt (same_mut s.nd s.same), s.nd, s.nt, ?_, ?_, fun p hp => ?_, fun x hx => ?_, ?_, List.mem_append_left _ s.zer, fun p hp => ?_⟩
  · rw [upd_ne hne, upd_same]
  · rw [upd_same, refs_app]
    rfl
  · rcases List.mem_append.mp hp with hp | hp
    · exact keepT (s.tups p hp)
    · rw [List.mem_singleton.mp hp]
      exact keepT hq
  · rcases List.mem_append.mp hx with hx | hx
    · exact s.mem x hx
    · rw [List.mem_singleton.mp hx]
      exact hy
  · refine List.pairwise_append.mpr ⟨s.nod, List.pairwise_singleton _ _, fun a ha b hb e => ?_⟩
    rw [List.mem_singleton.mp hb] at e
    exact hn (e ▸ ha)
  · rcases List.mem_append.mp hp with hp | hp
    · exact List.mem_append_left _ (s.sub p hp)
    · rw [List.mem_singleton.mp hp]
      exact List.mem_append_right _ List.mem_cons_self
/-- all are found -/
theorem Sch.all {H0 H : Hp} {d t : Addr} {G : List Int} {sm FL : List (List Int)} (s : Sch H0 d t G sm FL [] H) (hc : ∀ x ∈ FL, x ∈ vals [] ∨ ∀ o ∈ sm, add G x o ∈ FL) {x : List Int} : x ∈ FL ↔ Spn G sm x := by
  refine ⟨s.mem x, fun h => ?_⟩
  induction h with
  | zero => exact s.zer
  | step _ ho ih =>
    rcases hc _ ih with h | h
    · exact absurd h (by simp)
    · exact h _ ho
/-- the keys' own tuples -/
theorem isKeys_tups {H : Hp} : ∀ {FL : List (List Int)} {bs : List Addr}, IsKeys H (FL.map keyE) bs → ∃ L, vals L = FL ∧ refs L = bs.map V.ref ∧ Tups H L
  | [], _, h => by
    cases h
    exact ⟨[], rfl, rfl, Tups.nil⟩
  | x :: FL, _, h => by
    rw [List.map_cons] at h
    cases h with
    | @cons _ b _ bs h1 h2 =>
      obtain ⟨L, e1, e2, t⟩ := isKeys_tups h2
      rw [key_vals] at h1
      refine ⟨(b, x) :: L, ?_, ?_, Tups.cons h1 t⟩
      · show x :: vals L = _
        rw [e1]
      · show V.ref b :: refs L = _
        rw [e2]
        rfl
end K25
set_option Elab.async false
set_option linter.all false
set_option maxRecDepth 100000
set_option maxHeartbeats 4000000
namespace K25
open PySem PySem.Spec PyProof.Rows L2
section
variable {P : Program} {w : World} {K : PySem.W.Frag} {mg : Str → Option Value} {base : Heap} {f : Addr} {fd : FuncData}
/-! ### span -/
def spSpan : Sp := fun vs H Q _ => ∃ (a b : Addr) (G : List Int) (sm : List (List Int)), vs = [.ref a, .ref b] ∧ Ints H a G ∧ TupOf H b sm ∧ Grp G ∧ (∀ x ∈ sm, IsM G x) ∧
  ∀ H' p, Same H H' → TupOf H' p (spanL G sm) → Q (.ref p) H'
theorem fn_span (S : Stands K mg "span" sSpan f fd) (DZ : Keeps P w K mg base 1 "zero_of" ["group"] spZero) (DA : Keeps P w K mg base 1 "added" ["group", "member", "other"] spAdd)
    (mt : mg "tuple" = none) (ms : mg "sorted" = none) (ml : mg "list" = none) : FnOk P w K mg base CX0 2 f fd ["group", "some"] spSpan := by
  refine S.fn.ok scSpan (fun vs H Q E h => ?_) (fun cdv A outer s H vs Q E hr h => ?_)
  · obtain ⟨a, b, G, sm, rfl, _⟩ := h
    rfl
  · obtain ⟨a, b, G, sm, rfl, ha, hb, g, hM, q⟩ := h
    have hu := hu_of hr
    refine ⟨_, pss_cons (ps_par (i := 2) (j := 3) (by rfl) scSpan.nd rfl rfl (by decide) rfl rfl
        (pa_cons (pe_disp1T hu (pe_callD DZ hr (pa_cons (pv 0) pa_nil)) pe_bl) (pa_cons (pe_lst (pa_cons (pe_callD DZ hr (pa_cons (pv 0) pa_nil)) pa_nil)) pa_nil)) (by rfl))
      (pss_cons (ps_while PassesOwn.never (pt_cmpR (op_neD hr.units) (pv 3) (pe_lst pa_nil) (nomark _))
        (pss_cons (ps_set (i := 4) scSpan.nd rfl (.inl rfl) (pe_bm0 PySem.F.plainAttrs_list PySem.F.slot_list_pop PySem.F.type_list_pop mt_pop (pv 3)))
        (pss_one (ps_for PassesOwn.never rfl (pi_tup (pv 1)) (pg_name (i := 5) scSpan.nd rfl (.inl rfl))
          (pss_cons (ps_set (i := 6) scSpan.nd rfl (.inl rfl) (pe_callD DA hr (pa_cons (pv 0) (pa_cons (pv 4) (pa_cons (pv 5) pa_nil)))))
          (pss_one (ps_if (pt_cmp (pc_dnotin hu (pv 6) (pv 2)) (by rfl))
            (pss_cons (ps_dput hu (pv 2) (pv 6) pe_bl rfl) (pss_one (ps_expr (pe_bm PySem.F.plainAttrs_list PySem.F.slot_list_append PySem.F.type_list_append mt_append (pv 3) (pa_cons (pv 6) pa_nil)))))
            pss_nil)))))))
      (pss_one (ps_ret (pe_callTy call_tuple_of (by rfl) mt (by decide +kernel) (pa_cons (pe_callB cr_sortT (by rfl) ms (by decide +kernel) (pa_cons
        (pe_callTy (call_list_dT rfl) (by rfl) ml (by decide +kernel) (pa_cons (pv 2) pa_nil)) pa_nil)) pa_nil))))), ?_⟩
    have hp := g.posG
    have h1 := g.one
    have h3 := g.few
    obtain ⟨M, eM, hbM, tM⟩ := hb
    have lM : M.length = sm.length := by rw [← eM, vals_len]
    -- found, waiting
    intro d nd
    have s1 := same_upd (o := .dT []) nd
    refine ⟨.ref a, rfl, a, G, rfl, s1 _ _ ha, h1, h3, fun H2 z s2 hz => ⟨s2 _ _ upd_same, z, (zero G).map Sum.inl, rfl, ?_, ?_⟩⟩
    · rw [key_vals]
      exact hz
    have hne : z ≠ d := ne_of hz (s2 _ _ upd_same) (fun e => nomatch e)
    have s3 : Same H (upd H2 d (dictT [zero G])) := same_mut nd (s1.trans s2)
    refine ⟨.ref a, rfl, a, G, rfl, s3 _ _ ha, h1, h3, fun H3 z2 s4 hz2 => ⟨sz (by show 1 ≤ 100000; decide), fun t nt => ?_⟩⟩
    have s5 := s3.trans s4
    refine ⟨.ref d, .ref t, rfl, ?_⟩
    have start : Sch H d t G sm [zero G] [(z2, zero G)] (upd H3 t (.lst [V.ref z2])) := by
      have nH3 : ∀ c, H3 c = none → H c = none := fun c e => s5.free e
      refine ⟨s5.trans (same_upd nt), nd, nH3 t nt, ?_, upd_same, ?_, fun x hx => ?_, List.pairwise_singleton _ _, List.mem_cons_self, fun p hp => ?_⟩
      · have hd3 : H3 d = some (dictT [zero G]) := s4 _ _ upd_same
        rw [upd_ne (ne_of_none hd3 nt)]
        exact hd3
      · exact Tups.cons (by show upd _ t _ z2 = _; rw [upd_ne (ne_of_none hz2 nt)]; exact hz2) Tups.nil
      · rw [List.mem_singleton.mp hx]
        exact .zero
      · rw [List.mem_singleton.mp hp]
        exact List.mem_cons_self
    -- while waiting != []
    refine ⟨fun m sg H' => ∃ FL WL y4 y5 y6, sg = [some (.ref a), some (.ref b), some (.ref d), some (.ref t), y4, y5, y6] ∧ Sch H d t G sm FL WL H' ∧ (∀ x ∈ FL, x ∈ vals WL ∨ ∀ o ∈ sm, add G x o ∈ FL) ∧ m = ((mems G).length - FL.length) + WL.length ∧ m ≤ (mems G).length,
      ⟨_, [zero G], [(z2, zero G)], none, none, none, rfl, start, fun x hx => .inl hx, rfl, ?_⟩, ?_⟩
    · have hl0 := start.len hp hM
      have e1 : [zero G].length = 1 := rfl
      have e2 : [(z2, zero G)].length = 1 := rfl
      omega
    rintro m sg H' ⟨FL, WL, y4, y5, y6, rfl, sc, cl, em, hmN⟩
    refine ⟨.ref t, rfl, Nat.zero_le _, fun l nl => ?_⟩
    have sE := same_upd (o := .lst []) nl
    have sc1 := sc.on sE
    have e0 : ([] : List PyData) = datTs [] := rfl
    refine ⟨.list (datTs (vals WL)), .list (datTs []), dp_L ⟨WL, rfl, sc1.wait, sc1.tups⟩, .lst (SqL.of upd_same) .nil, shaped_L _, shaped_L _, _, rfl, ?_⟩
    rw [eqv_L]
    refine ite2 (fun hne0 => ?_) fun he0 => ?_
    · -- a turn
      have hWne : WL ≠ [] := fun e => by
        subst e
        exact absurd hne0 (by decide)
      obtain ⟨WL', p, rfl⟩ : ∃ WL' p, WL = WL' ++ [p] := ⟨WL.dropLast, WL.getLast hWne, (List.dropLast_concat_getLast hWne).symm⟩
      obtain ⟨pm, x⟩ := p
      have hxFL : x ∈ FL := sc.sub (pm, x) (List.mem_append_right _ List.mem_cons_self)
      have hxM : IsM G x := Spn.isM hp hM (sc.mem x hxFL)
      have hpm : Ints (upd H' l (.lst [])) pm x := sc1.tups (pm, x) (List.mem_append_right _ List.mem_cons_self)
      refine ⟨fun sg2 H2' => ∃ m', m' < m ∧ ∃ FL WL y4 y5 y6, sg2 = [some (.ref a), some (.ref b), some (.ref d), some (.ref t), y4, y5, y6] ∧ Sch H d t G sm FL WL H2' ∧ (∀ x ∈ FL, x ∈ vals WL ∨ ∀ o ∈ sm, add G x o ∈ FL) ∧ m' = ((mems G).length - FL.length) + WL.length ∧ m' ≤ (mems G).length, fun _ _ h => h, ?_⟩
      -- member = waiting.pop()
      have edl : (refs (WL' ++ [(pm, x)])).dropLast = refs WL' := by rw [refs_app]; exact List.dropLast_concat
      refine ⟨.ref t, rfl, .inl ⟨rfl, _, SqL.of sc1.wait⟩, t, refs (WL' ++ [(pm, x)]), .ref pm, rfl, rfl, sc1.wait, ?_, ?_⟩
      · rw [refs_app, List.length_append]
        show (refs WL' ++ [V.ref pm])[(refs WL').length + 1 - 1]? = _
        rw [Nat.add_sub_cancel, List.getElem?_append_right (Nat.le_refl _), Nat.sub_self]
        rfl
      rw [edl]
      have sc2 := sc1.pop
      have hpm2 : Ints (upd (upd H' l (.lst [])) t (.lst (refs WL'))) pm x := by
        show upd _ t _ pm = _
        rw [upd_ne (ne_of hpm sc1.wait (fun e => nomatch e))]
        exact hpm
      have hWl : (WL' ++ [(pm, x)]).length = WL'.length + 1 := by rw [List.length_append]; rfl
      -- for other in some
      refine ⟨.ref b, rfl, b, rfl, ⟨_, SqT.of (sc2.same _ _ hbM)⟩, for_tup (xs := refs M) (fun i sg2 H2' => ∃ FL WL y5 y6, sg2 = [some (.ref a), some (.ref b), some (.ref d), some (.ref t), some (.ref pm), y5, y6] ∧ Sch H d t G sm FL WL H2' ∧ Ints H2' pm x ∧ x ∈ FL ∧
          (∀ z ∈ FL, z ∈ vals WL ∨ z = x ∨ ∀ o ∈ sm, add G z o ∈ FL) ∧ (∀ o ∈ sm.take i, add G x o ∈ FL) ∧ ((mems G).length - FL.length) + WL.length + 1 = m)
        ⟨FL, WL', y5, y6, rfl, sc2, hpm2, hxFL, fun z hz => ?_, fun o ho => absurd ho (by simp), by omega⟩ (fun i sg2 H2' _ h => ?_) (fun i v sg2 H2' hi h => ?_) (fun sg2 H2' h => ?_)⟩
      · rcases cl z hz with h | h
        · rw [vals_app] at h
          rcases List.mem_append.mp h with h | h
          · exact .inl h
          · exact .inr (.inl (List.mem_singleton.mp h))
        · exact .inr (.inr h)
      · obtain ⟨_, _, _, _, _, sc, _⟩ := h
        exact SqT.of (sc.same _ _ hbM)
      · obtain ⟨FL2, WL2, y5, y6, rfl, sc3, hpm3, hx3, cl3, ta3, em3⟩ := h
        obtain ⟨⟨ro, o⟩, hro, rfl⟩ := refs_at hi
        have ho : sm[i]? = some o := by rw [← eM]; exact vals_at hro
        have hom : o ∈ sm := List.mem_of_getElem? ho
        have hoM : IsM G o := hM o hom
        -- further = added(group, member, other)
        refine ⟨.ref a, rfl, .ref pm, rfl, .ref ro, rfl, a, pm, ro, G, x, o, rfl, sc3.same _ _ ha, hpm3, sc3.same _ _ (tM _ (List.mem_of_getElem? hro)), g, hxM, hoM, fun H4 r s4 hr4 => ?_⟩
        have sc4 := sc3.on s4
        have hlen4 := sc4.len hp hM
        have hml := g.mems_len
        -- if further not in found
        refine ⟨.ref r, rfl, .ref d, rfl, d, _, rfl, DGet.t (k := (add G x o).map Sum.inl) sc4.dict (by rw [key_vals]; exact hr4), _, rfl, ?_⟩
        rw [valV_keys]
        refine ite2 (fun hnot => ?_) fun hin => ?_
        · have hn : add G x o ∉ FL2 := by
            intro hmem
            rw [decide_eq_true hmem] at hnot
            exact absurd hnot (by decide)
          have hspn : Spn G sm (add G x o) := .step (sc3.mem x hx3) hom
          have hput := sc4.put hr4 hspn hn
          -- found[further] = True
          refine ⟨.ref d, rfl, .ref r, rfl, d, _, rfl, DPut.t (k := (add G x o).map Sum.inl) sc4.dict (by rw [key_vals]; exact hr4) ?_, ?_⟩
          · rw [List.length_map]
            exact szl (by omega)
          rw [putK_keys hn]
          have hwait5 : upd H4 d (dictT (FL2 ++ [add G x o])) t = some (.lst (refs WL2)) := by
            rw [upd_ne (Ne.symm (ne_of sc4.dict sc4.wait (fun e => nomatch e)))]
            exact sc4.wait
          have hlenp := hput.len hp hM
          rw [List.length_append] at hlenp
          have e1 : [add G x o].length = 1 := rfl
          -- waiting.append(further)
          have hWle : WL2.length < 100000 := by
            have := g.mems_len
            omega
          refine ⟨.ref t, rfl, .inl ⟨rfl, _, SqL.of hwait5⟩, .ref r, rfl, t, refs WL2, .ref r, rfl, rfl, hwait5, szl (by rw [refs_len]; exact hWle), FL2 ++ [add G x o], WL2 ++ [(r, add G x o)], some (.ref ro), some (.ref r), rfl, hput, ?_, List.mem_append_left _ hx3, fun z hz => ?_, fun o' ho' => ?_, ?_⟩
          · show upd _ t _ pm = _
            have h4 := s4 _ _ hpm3
            rw [upd_ne (ne_of h4 sc4.wait (fun e => nomatch e)), upd_ne (ne_of h4 sc4.dict (fun e => nomatch e))]
            exact h4
          · rcases List.mem_append.mp hz with hz | hz
            · rcases cl3 z hz with h | h | h
              · exact .inl (by rw [vals_app]; exact List.mem_append_left _ h)
              · exact .inr (.inl h)
              · exact .inr (.inr fun o ho => List.mem_append_left _ (h o ho))
            · rw [List.mem_singleton.mp hz]
              exact .inl (by rw [vals_app]; exact List.mem_append_right _ List.mem_cons_self)
          · rw [take_succ_of ho] at ho'
            rcases List.mem_append.mp ho' with h | h
            · exact List.mem_append_left _ (ta3 o' h)
            · rw [List.mem_singleton.mp h]
              exact List.mem_append_right _ List.mem_cons_self
          · rw [List.length_append, List.length_append, e1]
            show _ - (FL2.length + 1) + (WL2.length + 1) + 1 = m
            omega
        · have hmem : add G x o ∈ FL2 := by
            cases hd : decide (add G x o ∈ FL2) with
            | true => exact of_decide_eq_true hd
            | false =>
              rw [hd] at hin
              exact absurd rfl hin
          refine ⟨FL2, WL2, some (.ref ro), some (.ref r), rfl, sc4, s4 _ _ hpm3, hx3, cl3, fun o' ho' => ?_, em3⟩
          rw [take_succ_of ho] at ho'
          rcases List.mem_append.mp ho' with h | h
          · exact ta3 o' h
          · rw [List.mem_singleton.mp h]
            exact hmem
      · obtain ⟨FL2, WL2, y5, y6, rfl, sc3, hpm3, hx3, cl3, ta3, em3⟩ := h
        rw [refs_len, List.take_of_length_le (by omega)] at ta3
        refine ⟨((mems G).length - FL2.length) + WL2.length, by omega, FL2, WL2, some (.ref pm), y5, y6, rfl, sc3, fun z hz => ?_, rfl, by omega⟩
        rcases cl3 z hz with h | h | h
        · exact .inl h
        · rw [h]
          exact .inr ta3
        · exact .inr h
    · -- the end: tuple(sorted(list(found)))
      have hW : vals WL = [] := by
        cases hv : vals WL with
        | nil => rfl
        | cons _ _ =>
          rw [hv] at he0
          exact absurd rfl he0
      have hW2 : WL = [] := by
        cases WL with
        | nil => rfl
        | cons _ _ => cases hW
      subst hW2
      refine ⟨.ref d, rfl, d, _, rfl, .inl sc1.dict, fun pl bs npl hk => ?_⟩
      obtain ⟨L, eL, rL, tL⟩ := isKeys_tups hk
      have hmem : ∀ x, x ∈ FL ↔ Spn G sm x := fun x => sc.all cl
      have sP := same_upd (o := .lst (bs.map V.ref)) npl
      refine ⟨pl, L, rfl, ?_, fun p hpL => ⟨?_, SqT.of (sP _ _ (tL p hpL))⟩, fun pr ps hperm hsrt npr => ?_⟩
      · show SqL K _ pl (refs L)
        rw [rL]
        exact SqL.of upd_same
      · intro e
        have hpF : p.2 ∈ FL := by rw [← eL]; exact List.mem_map.mpr ⟨p, hpL, rfl⟩
        have := isM_length (Spn.isM hp hM (sc.mem _ hpF))
        rw [e] at this
        have : (0 : Nat) = G.length := this
        omega
      have sR := same_upd (o := .lst (refs ps)) npr
      refine ⟨pr, refs ps, rfl, .inl ⟨SqL.of upd_same, fun pt npt => ?_⟩⟩
      have sT := same_upd (o := .tup (refs ps)) npt
      refine q _ pt (((sc1.same.trans sP).trans sR).trans sT) ⟨ps, ?_, upd_same, fun z hz => sT _ _ (sR _ _ (sP _ _ (tL z (hperm.mem_iff.mp hz))))⟩
      -- it is the span
      have hpv : (vals ps).Perm FL := by
        have := hperm.map (fun p : Addr × List Int => p.2)
        rw [← eL]
        exact this
      refine asc_unique (asc_of_srt (List.pairwise_map.mpr hsrt) (hpv.nodup_iff.mpr sc.nod)) ((asc_mems G).filter _) fun z => ?_
      rw [hpv.mem_iff, hmem z]
      exact (mem_spanL hp hM).symm
theorem ok_span (S : Stands K mg "span" sSpan f fd) (DZ : Keeps P w K mg base 1 "zero_of" ["group"] spZero) (DA : Keeps P w K mg base 1 "added" ["group", "member", "other"] spAdd)
    (mt : mg "tuple" = none) (ms : mg "sorted" = none) (ml : mg "list" = none) : Keeps P w K mg base 2 "span" ["group", "some"] spSpan :=
  S.keeps (fn_span S DZ DA mt ms ml) fun _ _ _ _ _ _ us hl => match us, hl with | [_, _], _ => rfl
end
end K25
set_option Elab.async false
set_option linter.all false
set_option maxRecDepth 100000
set_option maxHeartbeats 4000000
namespace K25
open PySem PySem.Spec PyProof.Rows L2
/-! ### the stock: at p the list of both lists, the sum and the count; at g the great ones, at f the flat ones -/
structure Stk (p g f : Addr) (H : Hp) : Prop where
  ex : ∃ (S c : Int) (gs fs : List Int), H p = some (.lst [.ref g, .ref f, .int S, .int c]) ∧ H g = some (.lst (gs.map V.int)) ∧ H f = some (.lst (fs.map V.int)) ∧ gs.length ≤ 63 ∧ 1 ≤ fs.length ∧ fs.length ≤ 64
  gp : g ≠ p
  fp : f ≠ p
  fg : f ≠ g
/-- all but the stock's two lists is as it was -/
def Kp (p g : Addr) (H H' : Hp) : Prop := ∀ b o, b ≠ p → b ≠ g → H b = some o → H' b = some o
theorem Kp.refl (p g : Addr) (H : Hp) : Kp p g H H := fun _ _ _ _ h => h
theorem Kp.trans {p g : Addr} {H H1 H2 : Hp} (a : Kp p g H H1) (b : Kp p g H1 H2) : Kp p g H H2 := fun c o h1 h2 h => b c o h1 h2 (a c o h1 h2 h)
theorem Kp.same {p g : Addr} {H H' : Hp} (s : Same H H') : Kp p g H H' := fun b o _ _ h => s b o h
theorem Kp.updP {p g : Addr} {H : Hp} {o : HO} : Kp p g H (upd H p o) := fun b u h1 _ h => by rw [upd_ne h1]; exact h
theorem Kp.updG {p g : Addr} {H : Hp} {o : HO} : Kp p g H (upd H g o) := fun b u _ h2 h => by rw [upd_ne h2]; exact h
theorem Stk.same {p g f : Addr} {H H' : Hp} (k : Stk p g f H) (s : Same H H') : Stk p g f H' := by
  obtain ⟨S, c, gs, fs, h1, h2, h3, r⟩ := k.ex
  exact ⟨⟨S, c, gs, fs, s _ _ h1, s _ _ h2, s _ _ h3, r⟩, k.gp, k.fp, k.fg⟩
theorem Kp.tup {p g a : Addr} {H H' : Hp} {xs ys zs : List V} (k : Kp p g H H') (h : H a = some (.tup xs)) (hp : H p = some (.lst ys)) (hg : H g = some (.lst zs)) : H' a = some (.tup xs) :=
  k a _ (ne_of h hp (fun e => nomatch e)) (ne_of h hg (fun e => nomatch e)) h
theorem Stk.tup {p g f a : Addr} {H H' : Hp} {xs : List V} (k : Stk p g f H) (kp : Kp p g H H') (h : H a = some (.tup xs)) : H' a = some (.tup xs) := by
  obtain ⟨S, c, gs, fs, h1, h2, _⟩ := k.ex
  exact kp.tup h h1 h2
section
variable {P : Program} {w : World} {K : PySem.W.Frag} {mg : Str → Option Value} {base : Heap} {f : Addr} {fd : FuncData}
/-! ### _law_stock -/
def great (z : Int) : Bool := decide ((10 : Int) ^ Int.toNat 15 ≤ z)
def spStock (K : PySem.W.Frag) : Sp := fun vs H Q _ => ∃ (a : Addr) (ns : List Int), vs = [.ref a] ∧ SqL K H a (ns.map V.int) ∧ ns.length ≤ 63 ∧ ∀ H' p g f, Same H H' → Stk p g f H' → Q (.ref p) H'
theorem cut63 {ns : List Int} (h : ns.length ≤ 63) : cutV (ns.map V.int) none (some 63) = ns.map V.int := by
  unfold cutV
  rw [HT.sIx_none, show HT.sIx (ns.map V.int).length (ns.map V.int).length (some 63) = min 63 (ns.map V.int).length from HT.sIx_nat (ns.map V.int).length (ns.map V.int).length 63, List.length_map, List.drop_zero]
  rw [List.take_of_length_le]
  rw [List.length_map]
  omega
theorem ok_stock (S : Stands K mg "_law_stock" sStock f fd) (ml : mg "len" = none) (ms : mg "sum" = none) : Keeps P w K mg base 1 "_law_stock" ["_law_script"] (spStock K) := by
  refine S.keeps (S.fn.ok scStock (fun vs H Q E h => ?_) (fun cdv A outer s H vs Q E hr h => ?_)) fun _ _ _ _ _ _ us hl => match us, hl with | [_], _ => rfl
  · obtain ⟨a, ns, rfl, _⟩ := h
    rfl
  · obtain ⟨a, ns, rfl, ha, hlen, q⟩ := h
    refine ⟨_, pss_cons (ps_setLc (i := 1) (own := [("_law_cell", 2)]) (g := gName 2) (by rfl) scStock.nd rfl rfl (sw_true rfl rfl rfl (by decide +kernel))
        (pi_list (pe_slice sl_list (pv 0) po_none (po_some pe_int)))
        (blkOk_by (own := [("_law_cell", 2)]) (N := ["_law_script", "_law_flat", "_law_cell"]) (sc := defScope sStock) (by decide +kernel))
        (fun _ _ _ _ _ => pg_name (i := 2) scStock.nd rfl (.inl rfl)) (fun _ _ _ _ _ => pts_nil)
        (fun _ _ _ _ _ => pe_ifExp (pt_cmpR op_ge (pv 2) pe_int (nomark _)) (pe_op op_mul pe_int (pv 2)) (pe_op op_sub (pe_op op_mul (pe_un un_neg pe_int) (pv 2)) pe_int)))
      (pss_one (ps_ret (pe_lst (pa_cons
          (pe_lc (own := [("_law_cell", 2)]) (g := gName 2) (by rfl) scStock.nd (pi_list (pv 1))
            (blkOk_by (own := [("_law_cell", 2)]) (N := ["_law_script", "_law_flat", "_law_cell"]) (sc := defScope sStock) (by decide +kernel))
            (fun _ _ _ _ _ => pg_name (i := 2) scStock.nd rfl (.inl rfl)) (fun _ _ _ _ _ => pts_one (pt_cmpR op_ge (pv 2) (pe_op op_pow pe_int pe_int) (nomark _))) (fun _ _ _ _ _ => pv 2))
        (pa_cons (pe_op op_cat (pv 1) (pe_lst (pa_cons (pe_op op_add (pe_callB call_len_seq (by rfl) ml PySem.boot_len (pa_cons (pv 1) pa_nil)) pe_int) pa_nil)))
        (pa_cons (pe_callB (cr_sum rfl) (by rfl) ms (by decide +kernel) (pa_cons (pv 1) pa_nil)) (pa_cons pe_int pa_nil))))))), ?_⟩
    -- flat
    refine ⟨.ref a, rfl, 63, rfl, a, ns.map V.int, rfl, ha, fun c nc => ?_⟩
    rw [cut63 hlen]
    have s1 := same_upd (o := .lst (ns.map V.int)) nc
    refine ⟨c, rfl, ⟨_, SqL.of upd_same⟩, fun D hD => ?_⟩
    let flat : List Int := ns.map fun z => if 0 ≤ z then 2 * z else -2 * z - 1
    have lf : flat.length = ns.length := List.length_map _
    refine lc_list (xs := ns.map V.int) (fun i H1 => BldI (upd H c (.lst (ns.map V.int))) D (flat.take i) H1) (BldI.start hD) (fun i H1 _ b => SqL.of (b.same _ _ upd_same)) (fun i v H1 hi b => ?_) fun H1 b => ?_
    · obtain ⟨n, hn, rfl⟩ := ints_at hi
      have hfl : flat[i]? = some (if 0 ≤ n then 2 * n else -2 * n - 1) := by
        show (ns.map _)[i]? = _
        rw [List.getElem?_map, hn]
        rfl
      refine ⟨rfl, .int n, rfl, n, 0, rfl, rfl, _, rfl, ?_⟩
      have hz : (flat.take i).length < 100000 := by
        have := List.length_take_le' i flat
        omega
      refine ite2 (fun h0 => ?_) fun h0 => ?_
      · have h0 := of_decide_eq_true h0
        refine ⟨.int n, rfl, 2, n, rfl, rfl, .inl ⟨by decide, by decide⟩, ?_⟩
        obtain ⟨acc, k1, k2, b2⟩ := b.step (y := 2 * n) hz
        refine ⟨acc, k1, k2, ?_⟩
        rw [take_succ_of hfl, if_pos h0]
        exact b2
      · have h0 : ¬ 0 ≤ n := fun e => h0 (decide_eq_true e)
        refine ⟨2, rfl, .int n, rfl, -2, n, rfl, rfl, .inl ⟨by decide, by decide⟩, -2 * n, 1, rfl, rfl, ?_⟩
        obtain ⟨acc, k1, k2, b2⟩ := b.step (y := -2 * n - 1) hz
        refine ⟨acc, k1, k2, ?_⟩
        rw [take_succ_of hfl, if_neg h0]
        exact b2
    · rw [List.length_map, List.take_of_length_le (by omega)] at b
      have sF := s1.trans b.same
      -- the great ones
      refine ⟨.ref D, rfl, D, rfl, ⟨_, SqL.of b.is⟩, fun G hG => ?_⟩
      have nGD : D ≠ G := ne_of_none b.is hG
      refine lc_list (xs := flat.map V.int) (fun i H2 => BldI H1 G ((flat.take i).filter great) H2) (BldI.start hG) (fun i H2 _ b2 => SqL.of (b2.same _ _ b.is)) (fun i v H2 hi b2 => ?_) fun H2 b2 => ?_
      · obtain ⟨n, hn, rfl⟩ := ints_at hi
        refine ⟨rfl, .int n, rfl, 10, 15, rfl, rfl, ⟨by decide, by decide, by decide⟩, n, _, rfl, rfl, _, rfl, ?_⟩
        have hz : ((flat.take i).filter great).length < 100000 := by
          have := filter_take_le (l := flat) i great
          omega
        refine ite2 (fun h0 => ?_) fun h0 => ?_
        · obtain ⟨acc, k1, k2, b3⟩ := b2.step (y := n) hz
          refine ⟨.int n, rfl, acc, k1, k2, ?_⟩
          rw [filter_take _ hn, if_pos (show great n = true from h0)]
          exact b3
        · rw [filter_take _ hn, if_neg (show ¬ great n = true from h0), List.append_nil]
          exact b2
      · rw [List.length_map, List.take_of_length_le (by omega)] at b2
        have hD2 := b2.same _ _ b.is
        have hgl := List.length_filter_le (great) flat
        -- flat + [len(flat) + 245]
        refine ⟨.ref D, rfl, .ref D, rfl, D, flat.map V.int, rfl, .inl (SqL.of hD2), _, 245, rfl, rfl, sz (by show 1 ≤ 100000; decide), fun l nl => ?_⟩
        have s3 := same_upd (o := .lst [V.int (((flat.map V.int).length : Int) + 245)]) nl
        refine ⟨D, l, flat.map V.int, _, rfl, rfl, s3 _ _ hD2, upd_same, ?_, fun F nF => ?_⟩
        · rw [List.length_map]
          exact sz (by show flat.length + 1 ≤ 100000; omega)
        have s4 := same_upd (o := .lst (flat.map V.int ++ [V.int (((flat.map V.int).length : Int) + 245)])) nF
        -- sum(flat), 0
        refine ⟨.ref D, rfl, D, flat, rfl, SqL.of (s4 _ _ (s3 _ _ hD2)), sz (by show 4 ≤ 100000; decide), fun p np => ?_⟩
        have s5 := same_upd (o := .lst [V.ref G, V.ref F, V.int flat.sum, V.int 0]) np
        have hG5 := s5 _ _ (s4 _ _ (s3 _ _ b2.is))
        have hF5 : upd (upd (upd H2 l _) F _) p (.lst [V.ref G, V.ref F, V.int flat.sum, V.int 0]) F = some (.lst (flat.map V.int ++ [V.int (((flat.map V.int).length : Int) + 245)])) := s5 _ _ upd_same
        refine q _ p G F (((((sF.trans b2.same).trans s3).trans s4)).trans s5) ⟨⟨flat.sum, 0, flat.filter great, flat ++ [((flat.map V.int).length : Int) + 245], upd_same, hG5, ?_, by omega, ?_, ?_⟩, ?_, ?_, ?_⟩
        · rw [hF5, List.map_append]
          rfl
        · rw [List.length_append]
          exact Nat.le_add_left _ _
        · rw [List.length_append]
          show flat.length + 1 ≤ 64
          omega
        · exact ne_of_none (s4 _ _ (s3 _ _ b2.is)) np
        · exact ne_of_none upd_same np
        · exact (ne_of_none (s3 _ _ b2.is) nF).symm
end
end K25
set_option Elab.async false
set_option linter.all false
set_option maxRecDepth 100000
set_option maxHeartbeats 4000000
namespace K25
open PySem PySem.Spec PyProof.Rows L2
section
variable {P : Program} {w : World} {K : PySem.W.Frag} {mg : Str → Option Value} {base : Heap} {f : Addr} {fd : FuncData}
/-! ### _law_draw -/
def spDraw : Sp := fun vs H Q _ => ∃ (p g fl : Addr) (m : Int), vs = [.ref p, .int m] ∧ Stk p g fl H ∧ 1 ≤ m ∧ m ≤ 1000 ∧ ∀ H' r, 0 ≤ r → r < m → Stk p g fl H' → Kp p g H H' → Q (.int r) H'
theorem mod_rng {a m : Int} (h : 1 ≤ m) : 0 ≤ a % m ∧ a % m < m := ⟨Int.emod_nonneg _ (by omega), Int.emod_lt_of_pos _ (by omega)⟩
theorem ok_draw (S : Stands K mg "_law_draw" sDraw f fd) (ml : mg "len" = none) (mi : mg "int" = none) : Keeps P w K mg base 1 "_law_draw" ["_law_stock_here", "_law_size"] spDraw := by
  refine S.keeps (S.fn.ok scDraw (fun vs H Q E h => ?_) (fun cdv A outer s H vs Q E hr h => ?_)) fun _ _ _ _ _ _ us hl => match us, hl with | [_, _], _ => rfl
  · obtain ⟨p, g, fl, m, rfl, _⟩ := h
    rfl
  · obtain ⟨p, g, fl, m, rfl, hst, hm1, hm2, q⟩ := h
    refine ⟨_, pss_cons (ps_if (pt_cmpR (op_neD hr.units) (pe_ix ix_list (pv 0) pe_int (fun _ _ => rfl)) (pe_lst pa_nil) (nomark _))
        (pss_cons (ps_set (i := 2) scDraw.nd rfl (.inl rfl) (pe_bm0 PySem.F.plainAttrs_list PySem.F.slot_list_pop PySem.F.type_list_pop mt_pop (pe_ix ix_list (pv 0) pe_int (fun _ _ => rfl))))
        (pss_cons (ps_if (pt_cmpR op_ge (pv 2) (pv 1) (nomark _))
          (pss_one (ps_expr (pe_bm PySem.F.plainAttrs_list PySem.F.slot_list_append PySem.F.type_list_append mt_append (pe_ix ix_list (pv 0) pe_int (fun _ _ => rfl)) (pa_cons (pe_op op_fdiv (pv 2) (pv 1)) pa_nil)))) pss_nil)
        (pss_one (ps_ret (pe_op op_mod (pe_callTy call_int1 (by rfl) mi (by decide +kernel) (pa_cons (pv 2) pa_nil)) (pv 1)))))) pss_nil)
      (pss_cons (ps_asg (pe_op op_add (pe_ix ix_list (pv 0) pe_int (fun _ _ => rfl)) pe_int) (pg_sub (pv 0) pe_int set_list))
      (pss_cons (ps_set (i := 3) scDraw.nd rfl (.inl rfl) (pe_ix ix_list (pv 0) pe_int (fun _ _ => rfl)))
      (pss_cons (ps_set (i := 4) scDraw.nd rfl (.inl rfl) (pe_op op_mod (pe_callTy call_int1 (by rfl) mi (by decide +kernel) (pa_cons
          (pe_ix ix_list (pe_ix ix_list (pv 0) pe_int (fun _ _ => rfl))
            (pe_op op_mod (pe_callTy call_int1 (by rfl) mi (by decide +kernel) (pa_cons (pv 3) pa_nil)) (pe_callB call_len_seq (by rfl) ml PySem.boot_len (pa_cons (pe_ix ix_list (pv 0) pe_int (fun _ _ => rfl)) pa_nil))) (fun _ _ => rfl)) pa_nil)) pe_int))
      (pss_cons (ps_set (i := 5) scDraw.nd rfl (.inl rfl) (pe_op op_mod (pe_callTy call_int1 (by rfl) mi (by decide +kernel) (pa_cons
          (pe_op op_add (pe_op op_add (pe_op op_mul (pv 4) pe_int)
            (pe_op op_mul (pe_op op_mod (pe_callTy call_int1 (by rfl) mi (by decide +kernel) (pa_cons (pe_ix ix_list (pv 0) pe_int (fun _ _ => rfl)) pa_nil)) pe_int) pe_int)) (pe_op op_mul (pv 3) pe_int)) pa_nil)) pe_int))
      (pss_cons (ps_set (i := 5) scDraw.nd rfl (.inl rfl) (pe_op op_mod (pe_callTy call_int1 (by rfl) mi (by decide +kernel) (pa_cons
          (pe_op op_add (pe_op op_add (pe_op op_mul (pv 5) (pv 5)) (pe_op op_mul (pv 3) pe_int)) (pv 4)) pa_nil)) pe_int))
      (pss_one (ps_ret (pe_op op_mod (pe_op op_fdiv (pe_op op_mod (pe_callTy call_int1 (by rfl) mi (by decide +kernel) (pa_cons
          (pe_op op_add (pe_op op_mul (pv 5) pe_int) (pe_op op_mul (pv 3) pe_int)) pa_nil)) pe_int) pe_int) (pv 1))))))))), ?_⟩
    obtain ⟨S0, c, gs, fs, hp, hg, hf, hgl, hf1, hf2⟩ := hst.ex
    have hgp := hst.gp
    have hfp := hst.fp
    have hfg := hst.fg
    -- if stock[0] != []
    refine ⟨.ref p, rfl, p, _, 0, .ref g, rfl, rfl, SqL.of hp, atI_nat (j := 0) rfl, Nat.zero_le _, fun l nl => ?_⟩
    have sE := same_upd (o := .lst []) nl
    have hp1 := sE _ _ hp
    have hg1 := sE _ _ hg
    have hf1' := sE _ _ hf
    refine ⟨.list (gs.map PyData.int), .list (([] : List Int).map PyData.int), dp_I hg1, .lst (SqL.of upd_same) .nil, shaped_I _, shaped_I _, _, rfl, ?_⟩
    rw [eqv_I]
    refine ite2 (fun hne => ?_) fun he => ?_
    · have hgne : gs ≠ [] := fun e => by
        subst e
        exact absurd hne (by decide)
      obtain ⟨gs', n, rfl⟩ : ∃ gs' n, gs = gs' ++ [n] := ⟨gs.dropLast, gs.getLast hgne, (List.dropLast_concat_getLast hgne).symm⟩
      have edl : ((gs' ++ [n]).map V.int).dropLast = gs'.map V.int := by rw [List.map_append]; exact List.dropLast_concat
      have hl2 : gs'.length + 1 ≤ 63 := by rw [List.length_append] at hgl; exact hgl
      -- great = stock[0].pop()
      refine ⟨.ref p, rfl, p, _, 0, .ref g, rfl, rfl, SqL.of hp1, atI_nat (j := 0) rfl, .inl ⟨rfl, _, SqL.of hg1⟩, g, _, .int n, rfl, rfl, hg1, ?_, ?_⟩
      · rw [List.map_append, List.length_append]
        show (gs'.map V.int ++ [V.int n])[(gs'.map V.int).length + 1 - 1]? = _
        rw [Nat.add_sub_cancel, List.getElem?_append_right (Nat.le_refl _), Nat.sub_self]
        rfl
      rw [edl]
      have hp2 : upd (upd H l (.lst [])) g (.lst (gs'.map V.int)) p = some (.lst [.ref g, .ref fl, .int S0, .int c]) := by rw [upd_ne (Ne.symm hgp)]; exact hp1
      have hf2' : upd (upd H l (.lst [])) g (.lst (gs'.map V.int)) fl = some (.lst (fs.map V.int)) := by rw [upd_ne hfg]; exact hf1'
      have k2 : Kp p g H (upd (upd H l (.lst [])) g (.lst (gs'.map V.int))) := (Kp.same sE).trans Kp.updG
      -- if great >= size
      refine ⟨.int n, rfl, .int m, rfl, n, m, rfl, rfl, _, rfl, ite2 (fun _ => ?_) fun _ => ?_⟩
      · refine ⟨.ref p, rfl, p, _, 0, .ref g, rfl, rfl, SqL.of hp2, atI_nat (j := 0) rfl, .inl ⟨rfl, _, SqL.of upd_same⟩, .int n, rfl, .int m, rfl, n, m, rfl, rfl, ⟨by omega, by omega⟩, g, gs'.map V.int, .int (n / m), rfl, rfl, upd_same, szl (by rw [List.length_map]; omega), ?_⟩
        -- return int(great) % size
        have hr0 := mod_rng (a := n) hm1
        refine ⟨.int n, rfl, .inl ⟨n, rfl, .int m, rfl, n, m, rfl, rfl, by omega, q _ _ hr0.1 hr0.2 ⟨⟨S0, c, gs' ++ [n / m], fs, ?_, ?_, ?_, ?_, hf1, hf2⟩, hgp, hfp, hfg⟩ (k2.trans Kp.updG)⟩⟩
        · rw [upd_ne (Ne.symm hgp)]; exact hp2
        · rw [upd_same, List.map_append] <;> rfl
        · rw [upd_ne hfg]; exact hf2'
        · rw [List.length_append]; exact hl2
      · have hr0 := mod_rng (a := n) hm1
        exact ⟨.int n, rfl, .inl ⟨n, rfl, .int m, rfl, n, m, rfl, rfl, by omega, q _ _ hr0.1 hr0.2 ⟨⟨S0, c, gs', fs, hp2, upd_same, hf2', by omega, hf1, hf2⟩, hgp, hfp, hfg⟩ k2⟩⟩
    · -- stock[3] = stock[3] + 1
      have hset : ([V.ref g, V.ref fl, V.int S0, V.int c] : List V).set 3 (.int (c + 1)) = [V.ref g, V.ref fl, V.int S0, V.int (c + 1)] := rfl
      refine ⟨.ref p, rfl, p, _, 3, .int c, rfl, rfl, SqL.of hp1, atI_nat (j := 3) rfl, c, 1, rfl, rfl, .ref p, rfl, p, _, 3, 3, rfl, rfl, hp1, rfl, ?_⟩
      rw [hset]
      have hp3 : upd (upd H l (.lst [])) p (.lst [.ref g, .ref fl, .int S0, .int (c + 1)]) p = some (.lst [.ref g, .ref fl, .int S0, .int (c + 1)]) := upd_same
      have hg3 : upd (upd H l (.lst [])) p (.lst [.ref g, .ref fl, .int S0, .int (c + 1)]) g = some (.lst (gs.map V.int)) := by rw [upd_ne hgp]; exact hg1
      have hf3 : upd (upd H l (.lst [])) p (.lst [.ref g, .ref fl, .int S0, .int (c + 1)]) fl = some (.lst (fs.map V.int)) := by rw [upd_ne hfp]; exact hf1'
      have k3 : Kp p g H (upd (upd H l (.lst [])) p (.lst [.ref g, .ref fl, .int S0, .int (c + 1)])) := (Kp.same sE).trans Kp.updP
      -- turn
      refine ⟨.ref p, rfl, p, _, 3, .int (c + 1), rfl, rfl, SqL.of hp3, atI_nat (j := 3) rfl, ?_⟩
      -- cell
      have hlen : (0 : Int) < ((fs.map V.int).length : Nat) := by rw [List.length_map]; omega
      have hi := mod_rng (a := c + 1) (m := ((fs.map V.int).length : Nat)) (by omega)
      obtain ⟨j, hj⟩ := Int.eq_ofNat_of_zero_le hi.1
      have hjl : j < fs.length := by
        have := hi.2
        rw [hj, List.length_map] at this
        omega
      refine ⟨.ref p, rfl, p, _, 1, .ref fl, rfl, rfl, SqL.of hp3, atI_nat (j := 1) rfl, .int (c + 1), rfl, .inl ⟨c + 1, rfl, .ref p, rfl, p, _, 1, .ref fl, rfl, rfl, SqL.of hp3, atI_nat (j := 1) rfl, fl, fs.map V.int, rfl, .inl (SqL.of hf3), c + 1, _, rfl, rfl, hlen, fl, fs.map V.int, _, .int fs[j], rfl, rfl, SqL.of hf3, ?_, .inl ⟨fs[j], rfl, fs[j], 1000000007, rfl, rfl, by show (0 : Int) < 1000000007; decide, ?_⟩⟩⟩
      · rw [hj]
        exact atI_nat (by rw [List.getElem?_map, List.getElem?_eq_getElem hjl]; rfl)
      have hc0 := mod_rng (a := fs[j]) (m := 1000000007) (by decide)
      obtain ⟨cell, ecell⟩ : ∃ z, z = fs[j] % 1000000007 := ⟨_, rfl⟩
      rw [← ecell] at hc0
      -- blend
      refine ⟨.int cell, by rw [ecell]; rfl, cell, 48271, rfl, rfl, .inr ⟨by decide, by decide⟩, .ref p, rfl, p, _, 2, .int S0, rfl, rfl, SqL.of hp3, atI_nat (j := 2) rfl, .inl ⟨S0, rfl, S0, 998244353, rfl, rfl, by show (0 : Int) < 998244353; decide, S0 % 998244353, 69621, rfl, rfl, .inr ⟨by decide, by decide⟩, cell * 48271, S0 % 998244353 * 69621, rfl, rfl, .int (c + 1), rfl, c + 1, 2654435761, rfl, rfl, .inr ⟨by decide, by decide⟩, cell * 48271 + S0 % 998244353 * 69621, (c + 1) * 2654435761, rfl, rfl, .inl ⟨_, rfl, cell * 48271 + S0 % 998244353 * 69621 + (c + 1) * 2654435761, 4294967291, rfl, rfl, by show (0 : Int) < 4294967291; decide, ?_⟩⟩⟩
      have hb0 := mod_rng (a := cell * 48271 + S0 % 998244353 * 69621 + (c + 1) * 2654435761) (m := 4294967291) (by decide)
      obtain ⟨blend, eblend⟩ : ∃ z, z = (cell * 48271 + S0 % 998244353 * 69621 + (c + 1) * 2654435761) % 4294967291 := ⟨_, rfl⟩
      rw [← eblend] at hb0
      refine ⟨.int blend, by rw [eblend]; rfl, .int blend, by rw [eblend]; rfl, blend, blend, rfl, rfl, .inl ⟨by omega, by omega⟩, .int (c + 1), rfl, c + 1, 362437, rfl, rfl, .inr ⟨by decide, by decide⟩, blend * blend, (c + 1) * 362437, rfl, rfl, .int cell, by rw [ecell]; rfl, blend * blend + (c + 1) * 362437, cell, rfl, rfl, .inl ⟨_, rfl, blend * blend + (c + 1) * 362437 + cell, 4294967279, rfl, rfl, by show (0 : Int) < 4294967279; decide, ?_⟩⟩
      obtain ⟨b2, eb2⟩ : ∃ z, z = (blend * blend + (c + 1) * 362437 + cell) % 4294967279 := ⟨_, rfl⟩
      refine ⟨.int b2, by rw [eb2]; rfl, b2, 40692, rfl, rfl, .inr ⟨by decide, by decide⟩, .int (c + 1), rfl, c + 1, 65537, rfl, rfl, .inr ⟨by decide, by decide⟩, b2 * 40692, (c + 1) * 65537, rfl, rfl, .inl ⟨_, rfl, b2 * 40692 + (c + 1) * 65537, 4294967231, rfl, rfl, by show (0 : Int) < 4294967231; decide, (b2 * 40692 + (c + 1) * 65537) % 4294967231, 4096, rfl, rfl, ⟨by decide, by decide⟩, .int m, rfl, (b2 * 40692 + (c + 1) * 65537) % 4294967231 / 4096, m, rfl, rfl, by omega, ?_⟩⟩
      have hr0 := mod_rng (a := (b2 * 40692 + (c + 1) * 65537) % 4294967231 / 4096) hm1
      exact q _ _ hr0.1 hr0.2 ⟨⟨S0, c + 1, gs, fs, hp3, hg3, hf3, hgl, hf1, hf2⟩, hgp, hfp, hfg⟩ k3
end
end K25
set_option Elab.async false
set_option linter.all false
set_option maxRecDepth 100000
set_option maxHeartbeats 4000000
namespace K25
open PySem PySem.Spec PyProof.Rows L2
section
variable {P : Program} {w : World} {K : PySem.W.Frag} {mg : Str → Option Value} {base : Heap} {f : Addr} {fd : FuncData}
/-! ### _law_pick -/
def spPick : Sp := fun vs H Q _ => ∃ (p g fl a : Addr) (xs : List V), vs = [.ref p, .ref a] ∧ Stk p g fl H ∧ H a = some (.lst xs) ∧ a ≠ p ∧ a ≠ g ∧ 1 ≤ xs.length ∧ xs.length ≤ 1000 ∧ ∀ H' v, v ∈ xs → Stk p g fl H' → Kp p g H H' → Q v H'
theorem ok_pick (S : Stands K mg "_law_pick" sPick f fd) (DD : Keeps P w K mg base 1 "_law_draw" ["_law_stock_here", "_law_size"] spDraw) (ml : mg "len" = none) : Keeps P w K mg base 2 "_law_pick" ["_law_stock_here", "_law_row"] spPick := by
  refine S.keeps (S.fn.ok scPick (fun vs H Q E h => ?_) (fun cdv A outer s H vs Q E hr h => ?_)) fun _ _ _ _ _ _ us hl => match us, hl with | [_, _], _ => rfl
  · obtain ⟨p, g, fl, a, xs, rfl, _⟩ := h
    rfl
  · obtain ⟨p, g, fl, a, xs, rfl, hst, ha, h1, h2, h3, h4, q⟩ := h
    refine ⟨_, pss_one (ps_ret (pe_ix ix_list (pv 1) (pe_callD DD hr (pa_cons (pv 0) (pa_cons (pe_callB call_len_seq (by rfl) ml PySem.boot_len (pa_cons (pv 1) pa_nil)) pa_nil))) (fun _ _ => rfl))), ?_⟩
    refine ⟨.ref a, rfl, .ref p, rfl, .ref a, rfl, a, xs, rfl, .inl (SqL.of ha), p, g, fl, (xs.length : Int), rfl, hst, by omega, by omega, fun H' r hr0 hr1 hs hk => ?_⟩
    obtain ⟨j, rfl⟩ := Int.eq_ofNat_of_zero_le hr0
    have hj : j < xs.length := by omega
    exact ⟨a, xs, (j : Int), xs[j], rfl, rfl, SqL.of (hk a _ h1 h2 ha), atI_nat (List.getElem?_eq_getElem hj), q H' _ (List.getElem_mem hj) hs hk⟩

/-! ### _law_members -/
def spLMem : Sp := fun vs H Q _ => ∃ (a : Addr) (G : List Int), vs = [.ref a] ∧ Ints H a G ∧ Grp G ∧ ∀ H' p, Same H H' → H p = none → LstOf H' p (mems G) → Q (.ref p) H'
theorem ok_lmem (S : Stands K mg "_law_members" sLMem f fd) (mr : mg "range" = none) (ml : mg "list" = none) : Keeps P w K mg base 1 "_law_members" ["_law_sizes"] spLMem := by
  refine S.keeps (S.fn.ok scLMem (fun vs H Q E h => ?_) (fun cdv A outer s H vs Q E hr h => ?_)) fun _ _ _ _ _ _ us hl => match us, hl with | [_], _ => rfl
  · obtain ⟨a, G, rfl, _⟩ := h
    rfl
  · obtain ⟨a, G, rfl, hG, g, q⟩ := h
    refine ⟨_, pss_cons (ps_set (i := 1) scLMem.nd rfl (.inl rfl) (pe_lst (pa_cons (pe_tup pa_nil) pa_nil)))
      (pss_cons (ps_for PassesOwn.never rfl (pi_tup (pv 0)) (pg_name (i := 2) scLMem.nd rfl (.inl rfl))
        (pss_cons (ps_set (i := 3) scLMem.nd rfl (.inl rfl) (pe_lst pa_nil))
        (pss_cons (ps_for PassesOwn.never rfl (pi_list (pv 1)) (pg_name (i := 4) scLMem.nd rfl (.inr rfl))
          (pss_one (ps_set (i := 3) scLMem.nd rfl (.inl rfl) (pe_op op_cat (pv 3)
            (pe_lc (own := [("_law_k", 5)]) (g := gName 5) (by rfl) scLMem.nd (pi_range1 rfl mr (pa_cons (pv 2) pa_nil))
              (blkOk_by (own := [("_law_k", 5)]) (N := ["_law_sizes", "_law_found", "_law_size", "_law_longer", "_law_item", "_law_k"]) (sc := defScope sLMem) (by decide +kernel))
              (fun _ _ _ _ _ => pg_name (i := 5) scLMem.nd rfl (.inl rfl)) (fun _ _ _ _ _ => pts_nil)
              (fun _ _ _ _ _ => pe_op (r := rCatA K) op_catA (pv 4) (pe_tup (pa_cons (pv 5) pa_nil))))))))
        (pss_one (ps_set (i := 1) scLMem.nd rfl (.inl rfl) (pe_callTy call_list_of (by rfl) ml (by decide +kernel) (pa_cons (pv 3) pa_nil)))))))
      (pss_one (ps_ret (pv 1)))), ?_⟩
    refine ⟨Nat.zero_le _, fun p0 n0 => ⟨sz (by show 1 ≤ 100000; decide), fun o no => ?_⟩⟩
    have s1 := same_upd (o := .tup []) n0
    have s2 := s1.trans (same_upd (o := .lst [V.ref p0]) no)
    refine ⟨.ref a, rfl, a, rfl, ⟨_, SqT.of (s2 _ _ hG)⟩, for_tup (xs := G.map V.int) (fun i sg H' => ∃ o y2 y3 y4 y5, sg = [some (.ref a), some (.ref o), y2, y3, y4, y5] ∧ Same H H' ∧ H o = none ∧ LstOf H' o (mems (G.take i)))
      ⟨o, none, none, none, none, rfl, s2, s1.free no, [(p0, [])], rfl, upd_same, ?_⟩ (fun i sg H' _ h => ?_) (fun i x sg H' hi h => ?_) (fun sg H' h => ?_)⟩
    · refine Tups.cons ?_ Tups.nil
      show upd _ o _ p0 = _
      rw [upd_ne (ne_of_none upd_same no), upd_same]
      rfl
    · obtain ⟨_, _, _, _, _, _, s, _⟩ := h
      exact SqT.of (s _ _ hG)
    · obtain ⟨o, y2, y3, y4, y5, rfl, s, hno, hl⟩ := h
      obtain ⟨m, hm, rfl⟩ := ints_at hi
      have hmG := g.pos m (List.mem_of_getElem? hm)
      obtain ⟨L, eL, ho, tL⟩ := hl
      have lL : L.length = (mems (G.take i)).length := by rw [← eL, vals_len]
      have hle := g.mems_le i
      -- longer = []
      refine ⟨Nat.zero_le _, fun ol nol => ?_⟩
      have sl := same_upd (o := .lst []) nol
      -- for item in found
      refine ⟨.ref o, rfl, o, rfl, ⟨_, SqL.of (sl _ _ ho)⟩, for_list (xs := refs L) (fun j sg2 H2 => ∃ ol y4 y5, sg2 = [some (.ref a), some (.ref o), some (.int m), some (.ref ol), y4, y5] ∧ Same H' H2 ∧ LstOf H2 ol (longer ((mems (G.take i)).take j) m))
        ⟨ol, y4, y5, rfl, sl, [], rfl, upd_same, Tups.nil⟩ (fun j sg2 H2 _ h => ?_) (fun j v sg2 H2 hj h => ?_) (fun sg2 H2 h => ?_)⟩
      · obtain ⟨_, _, _, _, s3, _⟩ := h
        exact SqL.of (s3 _ _ ho)
      · obtain ⟨ol2, z4, z5, rfl, s3, hl3⟩ := h
        obtain ⟨⟨r, x⟩, hr0, rfl⟩ := refs_at hj
        have hx : (mems (G.take i))[j]? = some x := by rw [← eL]; exact vals_at hr0
        have hrx : Ints H2 r x := s3 _ _ (tL _ (List.mem_of_getElem? hr0))
        have hxl : x.length ≤ 3 := by
          have := isM_length (mem_mems.mp (List.mem_of_getElem? hx))
          have h3 := g.few
          have := List.length_take_le' i G
          omega
        obtain ⟨Lo, eo, hol, tol⟩ := hl3
        have hlo : (refs Lo).length ≤ 64 * 64 := by
          rw [refs_len, ← vals_len, eo, longer_length]
          exact Nat.mul_le_mul (Nat.le_trans (List.length_take_le' _ _) hle) (by omega)
        -- longer + [..]
        refine ⟨.ref ol2, rfl, .int m, rfl, m, rfl, by omega, by omega, fun D hD => ?_⟩
        refine lc_range (lo := 0) (n := m.toNat) (fun k H3 => Bld H2 D (((iota m).take k).map fun z => x ++ [z]) H3) (Bld.start hD) (fun k H3 hk b3 => ?_) fun H3 b3 => ?_
        · have hk' : (k : Int) < m := by omega
          refine ⟨rfl, .ref r, rfl, .int (0 + (k : Int)), rfl, sz (by show 1 ≤ 100000; decide), fun t nt => ?_⟩
          have b4 := b3.on (same_upd (o := .tup [V.int (0 + (k : Int))]) nt)
          have hz : (((iota m).take k).map fun z => x ++ [z]).length < 100000 := by
            rw [List.length_map]
            have := List.length_take_le' k (iota m)
            have := iota_length m
            omega
          refine ⟨r, t, x.map V.int, [V.int (0 + (k : Int))], rfl, rfl, SqT.of (b4.same _ _ hrx), SqT.of upd_same, ?_, fun e => ?_, fun _ e => (List.cons_ne_nil _ _ e).elim, fun _ _ u nu => ?_⟩
          · rw [List.length_map]
            exact sz (by show x.length + 1 ≤ 100000; omega)
          · have ex : x = [] := List.map_eq_nil_iff.mp e
            obtain ⟨acc, k1, k2, b5⟩ := b4.step (p := t) (y := x ++ [(k : Int)]) (by
              show upd H3 t _ t = _
              rw [upd_same, ex, Int.zero_add]
              rfl) hz
            refine ⟨acc, k1, k2, ?_⟩
            rw [take_succ_of (iota_get hk'), List.map_append]
            exact b5
          · have b5 := b4.on (same_upd (o := .tup (x.map V.int ++ [V.int (0 + (k : Int))])) nu)
            obtain ⟨acc, k1, k2, b6⟩ := b5.step (p := u) (y := x ++ [(k : Int)]) (by
              show upd _ u _ u = _
              rw [upd_same, List.map_append, Int.zero_add]
              rfl) hz
            refine ⟨acc, k1, k2, ?_⟩
            rw [take_succ_of (iota_get hk'), List.map_append]
            exact b6
        · have et : (iota m).take m.toNat = iota m := List.take_of_length_le (by rw [iota_length]; exact Nat.le_refl _)
          rw [et] at b3
          obtain ⟨Ld, ed, hd, td⟩ := b3.is
          have hol3 := b3.same _ _ hol
          have l2 : (refs Ld).length = m.toNat := by rw [refs_len, ← vals_len, ed, List.length_map, iota_length]
          refine ⟨ol2, D, refs Lo, refs Ld, rfl, rfl, hol3, hd, sz (by omega), fun n hn => ?_⟩
          have sn := same_upd (o := .lst (refs Lo ++ refs Ld)) hn
          refine ⟨n, some (.ref r), z5, rfl, (s3.trans b3.same).trans sn, Lo ++ Ld, ?_, ?_, ((tol.same b3.same).app td).same sn⟩
          · rw [vals_app, eo, ed, take_succ_of hx, longer_app, longer_one]
          · rw [upd_same, refs_app]
      · obtain ⟨ol2, z4, z5, rfl, s3, hl3⟩ := h
        rw [refs_len, List.take_of_length_le (by omega), mems_take hm] at hl3
        obtain ⟨Lo, eo, hol, tol⟩ := hl3
        refine ⟨.ref ol2, rfl, ol2, refs Lo, rfl, .inl (SqL.of hol), fun n hn => ?_⟩
        have sn := same_upd (o := .lst (refs Lo)) hn
        exact ⟨n, some (.int m), some (.ref ol2), z4, z5, rfl, (s.trans s3).trans sn, (s.trans s3).free hn, Lo, eo, upd_same, tol.same sn⟩
    · obtain ⟨o, y2, y3, y4, y5, rfl, s, hno, hl⟩ := h
      rw [List.length_map, List.take_length] at hl
      exact ⟨.ref o, rfl, q _ o s hno hl⟩
end
end K25
set_option Elab.async false
set_option linter.all false
set_option maxRecDepth 100000
set_option maxHeartbeats 4000000
namespace K25
open PySem PySem.Spec PyProof.Rows L2
/-! ### displays of tuples of ints -/
def RdI (t : TA) (x : List Int) : Prop := ∀ sg H Q, Q (x.map V.int) H → t sg H Q
theorem RdI.nil : RdI tNil [] := fun _ _ _ h => h
theorem RdI.cons {n : Int} {t : TA} {x : List Int} (h : RdI t x) : RdI (tCons (tC (.int n)) t) (n :: x) := fun sg H Q q => h sg H (fun vs H2 => Q (V.int n :: vs) H2) q
def RdT (t : TA) (xss : List (List Int)) : Prop := ∀ sg H Q, (∀ L H', vals L = xss → Same H H' → Tups H' L → Q (refs L) H') → t sg H Q
theorem RdT.nil : RdT tNil [] := fun _ H _ h => h [] H rfl (Same.refl H) Tups.nil
theorem RdT.cons {ti t : TA} {x : List Int} {xss : List (List Int)} (hx : x.length ≤ 1000) (hi : RdI ti x) (h : RdT t xss) : RdT (tCons (tTup ti) t) (x :: xss) := fun sg H Q q => by
  refine hi sg H _ ⟨sz (by rw [List.length_map]; omega), fun p np => ?_⟩
  have s1 := same_upd (o := .tup (x.map V.int)) np
  refine h sg _ _ fun L H' e s t => ?_
  exact q ((p, x) :: L) H' (by show x :: vals L = _; rw [e]) (s1.trans s) (Tups.cons (s _ _ upd_same) t)
theorem rd_list {t : TA} {xss : List (List Int)} (h : RdT t xss) (hx : xss.length ≤ 1000) {sg : L2.St} {H : Hp} {Q : VK} (q : ∀ a H', H a = none → Same H H' → LstOf H' a xss → Q (.ref a) H') : tLst t sg H Q := by
  refine h sg H _ fun L H1 e s t => ⟨sz (by rw [refs_len, ← vals_len, e]; omega), fun a na => ?_⟩
  have s1 := same_upd (o := .lst (refs L)) na
  exact q a _ (s.free na) (s.trans s1) ⟨L, e, upd_same, t.same s1⟩
theorem rd_set {t : TA} {xss : List (List Int)} {i : Nat} {D : Ends} {u : TS} {sg : L2.St} {H : Hp} (h : RdT t xss) (hx : xss.length ≤ 1000) (q : ∀ a H', H a = none → Same H H' → LstOf H' a xss → u D (sg.set i (some (.ref a))) H') :
    tSeq (tAsg (tLst t) (gName i)) u D sg H :=
  show tLst t sg H (fun x H1 => u D (sg.set i (some x)) H1) from rd_list h hx q
def grpB (G : List Int) : Bool := decide (1 ≤ G.length) && decide (G.length ≤ 3) && G.all (fun m => decide (2 ≤ m) && decide (m ≤ 64)) && decide (prod G ≤ 64)
theorem grp_of {G : List Int} (h : grpB G = true) : Grp G := by
  unfold grpB at h
  simp only [Bool.and_eq_true, decide_eq_true_eq, List.all_eq_true] at h
  exact ⟨h.1.1.1, h.1.1.2, h.1.2, h.2⟩

def gOnes : List (List Int) := [[2], [3], [4], [5], [6], [7], [8], [9], [10], [11], [12]]
theorem gOnes_ok : ∀ G ∈ gOnes, Grp G := fun G h => grp_of (List.all_eq_true.mp (show gOnes.all grpB = true by decide +kernel) G h)
def gTwos : List (List Int) := [[2, 2], [2, 3], [3, 2], [2, 4], [4, 2], [3, 3], [2, 5], [5, 2], [2, 6], [6, 2], [3, 4], [4, 3]]
theorem gTwos_ok : ∀ G ∈ gTwos, Grp G := fun G h => grp_of (List.all_eq_true.mp (show gTwos.all grpB = true by decide +kernel) G h)
def gThrees : List (List Int) := [[2, 2, 2], [2, 2, 3], [2, 3, 2], [3, 2, 2]]
theorem gThrees_ok : ∀ G ∈ gThrees, Grp G := fun G h => grp_of (List.all_eq_true.mp (show gThrees.all grpB = true by decide +kernel) G h)
def gWides : List (List Int) := [[64], [61], [8, 8], [2, 31], [4, 16], [3, 3, 7], [4, 4, 4], [2, 3, 10], [63], [5, 12]]
theorem gWides_ok : ∀ G ∈ gWides, Grp G := fun G h => grp_of (List.all_eq_true.mp (show gWides.all grpB = true by decide +kernel) G h)

section
variable {P : Program} {w : World} {K : PySem.W.Frag} {mg : Str → Option Value} {base : Heap} {f : Addr} {fd : FuncData}
theorem Stk.ne {p g fl a : Addr} {H : Hp} (k : Stk p g fl H) (h : H a = none) : a ≠ p ∧ a ≠ g := by
  obtain ⟨S, c, gs, fs, h1, h2, _⟩ := k.ex
  exact ⟨(ne_of_none h1 h).symm, (ne_of_none h2 h).symm⟩
theorem Stk.tups {p g fl : Addr} {H H' : Hp} {L : List (Addr × List Int)} (k : Stk p g fl H) (kp : Kp p g H H') (t : Tups H L) : Tups H' L := fun q hq => k.tup kp (t q hq)
/-! ### _law_group, _law_wide -/
def spGroup : Sp := fun vs H Q _ => ∃ (p g fl : Addr), vs = [.ref p] ∧ Stk p g fl H ∧ ∀ H' r G, Stk p g fl H' → Kp p g H H' → Ints H' r G → Grp G → Q (.ref r) H'
theorem ok_wide (S : Stands K mg "_law_wide" sWide f fd) (DP : Keeps P w K mg base 2 "_law_pick" ["_law_stock_here", "_law_row"] spPick) : Keeps P w K mg base 3 "_law_wide" ["_law_stock_here"] spGroup := by
  refine S.keeps (S.fn.ok scWide (fun vs H Q E h => ?_) (fun cdv A outer s H vs Q E hr h => ?_)) fun _ _ _ _ _ _ us hl => match us, hl with | [_], _ => rfl
  · obtain ⟨p, g, fl, rfl, _⟩ := h
    rfl
  · obtain ⟨p, g, fl, rfl, hst, q⟩ := h
    refine ⟨_, pss_one (ps_ret (pe_callD DP hr (pa_cons (pv 0) (pa_cons 
        (pe_lst (pa_cons (pe_tup (pa_cons pe_int pa_nil)) (pa_cons (pe_tup (pa_cons pe_int pa_nil)) (pa_cons (pe_tup (pa_cons pe_int (pa_cons pe_int pa_nil))) (pa_cons (pe_tup (pa_cons pe_int (pa_cons pe_int pa_nil))) (pa_cons (pe_tup (pa_cons pe_int (pa_cons pe_int pa_nil))) (pa_cons (pe_tup (pa_cons pe_int (pa_cons pe_int (pa_cons pe_int pa_nil)))) (pa_cons (pe_tup (pa_cons pe_int (pa_cons pe_int (pa_cons pe_int pa_nil)))) (pa_cons (pe_tup (pa_cons pe_int (pa_cons pe_int (pa_cons pe_int pa_nil)))) (pa_cons (pe_tup (pa_cons pe_int pa_nil)) (pa_cons (pe_tup (pa_cons pe_int (pa_cons pe_int pa_nil))) pa_nil))))))))))) pa_nil)))), ?_⟩
    refine ⟨.ref p, rfl, rd_list (xss := gWides) (by unfold gWides; repeat (first | exact RdT.nil | refine RdT.cons (by decide) (by repeat (first | exact RdI.nil | refine RdI.cons ?_)) ?_)) (by decide) fun a H1 na s1 hl => ?_⟩
    obtain ⟨L, e, ha, t⟩ := hl
    have hne := hst.ne na
    have hlen : (refs L).length = 10 := by rw [refs_len, ← vals_len, e]; rfl
    refine ⟨p, g, fl, a, refs L, rfl, hst.same s1, ha, hne.1, hne.2, by omega, by omega, fun H2 v hv h2 k2 => ?_⟩
    obtain ⟨⟨r, G⟩, hm, rfl⟩ := List.mem_map.mp hv
    have hG : G ∈ gWides := by rw [← e]; exact List.mem_map.mpr ⟨_, hm, rfl⟩
    exact q H2 r G h2 ((Kp.same s1).trans k2) ((hst.same s1).tups k2 t _ hm) (gWides_ok G hG)
theorem ok_group (S : Stands K mg "_law_group" sGroup f fd) (DP : Keeps P w K mg base 2 "_law_pick" ["_law_stock_here", "_law_row"] spPick) : Keeps P w K mg base 3 "_law_group" ["_law_stock_here"] spGroup := by
  refine S.keeps (S.fn.ok scGroup (fun vs H Q E h => ?_) (fun cdv A outer s H vs Q E hr h => ?_)) fun _ _ _ _ _ _ us hl => match us, hl with | [_], _ => rfl
  · obtain ⟨p, g, fl, rfl, _⟩ := h
    rfl
  · obtain ⟨p, g, fl, rfl, hst, q⟩ := h
    refine ⟨_, pss_cons (ps_set (i := 1) scGroup.nd rfl (.inl rfl)
        (pe_lst (pa_cons (pe_tup (pa_cons pe_int pa_nil)) (pa_cons (pe_tup (pa_cons pe_int pa_nil)) (pa_cons (pe_tup (pa_cons pe_int pa_nil)) (pa_cons (pe_tup (pa_cons pe_int pa_nil)) (pa_cons (pe_tup (pa_cons pe_int pa_nil)) (pa_cons (pe_tup (pa_cons pe_int pa_nil)) (pa_cons (pe_tup (pa_cons pe_int pa_nil)) (pa_cons (pe_tup (pa_cons pe_int pa_nil)) (pa_cons (pe_tup (pa_cons pe_int pa_nil)) (pa_cons (pe_tup (pa_cons pe_int pa_nil)) (pa_cons (pe_tup (pa_cons pe_int pa_nil)) pa_nil)))))))))))))
      (pss_cons (ps_set (i := 2) scGroup.nd rfl (.inl rfl)
        (pe_lst (pa_cons (pe_tup (pa_cons pe_int (pa_cons pe_int pa_nil))) (pa_cons (pe_tup (pa_cons pe_int (pa_cons pe_int pa_nil))) (pa_cons (pe_tup (pa_cons pe_int (pa_cons pe_int pa_nil))) (pa_cons (pe_tup (pa_cons pe_int (pa_cons pe_int pa_nil))) (pa_cons (pe_tup (pa_cons pe_int (pa_cons pe_int pa_nil))) (pa_cons (pe_tup (pa_cons pe_int (pa_cons pe_int pa_nil))) (pa_cons (pe_tup (pa_cons pe_int (pa_cons pe_int pa_nil))) (pa_cons (pe_tup (pa_cons pe_int (pa_cons pe_int pa_nil))) (pa_cons (pe_tup (pa_cons pe_int (pa_cons pe_int pa_nil))) (pa_cons (pe_tup (pa_cons pe_int (pa_cons pe_int pa_nil))) (pa_cons (pe_tup (pa_cons pe_int (pa_cons pe_int pa_nil))) (pa_cons (pe_tup (pa_cons pe_int (pa_cons pe_int pa_nil))) pa_nil))))))))))))))
      (pss_cons (ps_set (i := 3) scGroup.nd rfl (.inl rfl)
        (pe_lst (pa_cons (pe_tup (pa_cons pe_int (pa_cons pe_int (pa_cons pe_int pa_nil)))) (pa_cons (pe_tup (pa_cons pe_int (pa_cons pe_int (pa_cons pe_int pa_nil)))) (pa_cons (pe_tup (pa_cons pe_int (pa_cons pe_int (pa_cons pe_int pa_nil)))) (pa_cons (pe_tup (pa_cons pe_int (pa_cons pe_int (pa_cons pe_int pa_nil)))) pa_nil))))))
      (pss_one (ps_ret (pe_callD DP hr (pa_cons (pv 0) (pa_cons (pe_callD DP hr (pa_cons (pv 0) (pa_cons (pe_lst (pa_cons (pv 1) (pa_cons (pv 2) (pa_cons (pv 3) pa_nil)))) pa_nil))) pa_nil))))))), ?_⟩
    refine rd_set (xss := gOnes) (by unfold gOnes; repeat (first | exact RdT.nil | refine RdT.cons (by decide) (by repeat (first | exact RdI.nil | refine RdI.cons ?_)) ?_)) (by decide) fun a1 H1 n1 s1 l1 => ?_
    refine rd_set (xss := gTwos) (by unfold gTwos; repeat (first | exact RdT.nil | refine RdT.cons (by decide) (by repeat (first | exact RdI.nil | refine RdI.cons ?_)) ?_)) (by decide) fun a2 H2 n2 s2 l2 => ?_
    refine rd_set (xss := gThrees) (by unfold gThrees; repeat (first | exact RdT.nil | refine RdT.cons (by decide) (by repeat (first | exact RdI.nil | refine RdI.cons ?_)) ?_)) (by decide) fun a3 H3 n3 s3 l3 => ?_
    have hst3 := hst.same ((s1.trans s2).trans s3)
    refine ⟨.ref p, rfl, .ref p, rfl, .ref a1, rfl, .ref a2, rfl, .ref a3, rfl, sz (by show 3 ≤ 100000; decide), fun am nm => ?_⟩
    have sm := same_upd (o := .lst [V.ref a1, V.ref a2, V.ref a3]) nm
    have sA := ((s1.trans s2).trans s3).trans sm
    have hst4 := hst3.same sm
    have hnm := hst3.ne nm
    refine ⟨p, g, fl, am, _, rfl, hst4, upd_same, hnm.1, hnm.2, by show 1 ≤ 3; decide, by show 3 ≤ 1000; decide, fun H5 v hv h5 k5 => ?_⟩
    -- which of the three
    have one : ∀ (a : Addr) (xss : List (List Int)), H a = none → LstOf (upd H3 am (.lst [V.ref a1, V.ref a2, V.ref a3])) a xss → 1 ≤ xss.length → xss.length ≤ 1000 → (∀ G ∈ xss, Grp G) → v = .ref a →
        spPick ([V.ref p, v] ++ []) H5 Q E0 := by
      rintro a xss na ⟨L, e, ha, t⟩ hl1 hl2 hG rfl
      have hne := hst.ne na
      have hlen : (refs L).length = xss.length := by rw [refs_len, ← vals_len, e]
      refine ⟨p, g, fl, a, refs L, rfl, h5, k5 a _ hne.1 hne.2 ha, hne.1, hne.2, by omega, by omega, fun H6 v2 hv2 h6 k6 => ?_⟩
      obtain ⟨⟨r, G⟩, hm, rfl⟩ := List.mem_map.mp hv2
      have hGm : G ∈ xss := by rw [← e]; exact List.mem_map.mpr ⟨_, hm, rfl⟩
      exact q H6 r G h6 (((Kp.same sA).trans k5).trans k6) (h5.tups k6 (hst4.tups k5 t) _ hm) (hG G hGm)
    rcases List.mem_cons.mp hv with e | hv
    · exact one a1 gOnes n1 (((l1.same s2).same s3).same sm) (by decide) (by decide) gOnes_ok e
    · rcases List.mem_cons.mp hv with e | hv
      · exact one a2 gTwos (s1.free n2) ((l2.same s3).same sm) (by decide) (by decide) gTwos_ok e
      · exact one a3 gThrees ((s1.trans s2).free n3) (l3.same sm) (by decide) (by decide) gThrees_ok (List.mem_singleton.mp hv)
end
end K25
set_option Elab.async false
set_option linter.all false
set_option maxRecDepth 100000
set_option maxHeartbeats 4000000
namespace K25
open PySem PySem.Spec PyProof.Rows L2
theorem isM_snoc : ∀ {G x : List Int} {m r : Int}, IsM G x → 0 ≤ r → r < m → IsM (G ++ [m]) (x ++ [r])
  | [], [], m, r, _, h0, h1 => ⟨⟨h0, h1⟩, trivial⟩
  | n :: G, a :: x, m, r, h, h0, h1 => ⟨h.1, isM_snoc h.2 h0 h1⟩
section
variable {P : Program} {w : World} {K : PySem.W.Frag} {mg : Str → Option Value} {base : Heap} {f : Addr} {fd : FuncData}
/-! ### _law_element -/
def spElem : Sp := fun vs H Q _ => ∃ (p g fl a : Addr) (G : List Int), vs = [.ref p, .ref a] ∧ Stk p g fl H ∧ Ints H a G ∧ Grp G ∧ ∀ H' r x, Stk p g fl H' → Kp p g H H' → Ints H' r x → IsM G x → Q (.ref r) H'
theorem ok_elem (S : Stands K mg "_law_element" sElem f fd) (DD : Keeps P w K mg base 1 "_law_draw" ["_law_stock_here", "_law_size"] spDraw) (mt : mg "tuple" = none) : Keeps P w K mg base 2 "_law_element" ["_law_stock_here", "_law_group_here"] spElem := by
  refine S.keeps (S.fn.ok scElem (fun vs H Q E h => ?_) (fun cdv A outer s H vs Q E hr h => ?_)) fun _ _ _ _ _ _ us hl => match us, hl with | [_, _], _ => rfl
  · obtain ⟨p, g, fl, a, G, rfl, _⟩ := h
    rfl
  · obtain ⟨p, g, fl, a, G, rfl, hst, ha, gg, q⟩ := h
    refine ⟨_, pss_one (ps_ret (pe_callTy call_tuple_of (by rfl) mt (by decide +kernel) (pa_cons
      (pe_lc (own := [("_law_modulus", 2)]) (g := gName 2) (by rfl) scElem.nd (pi_tup (pv 1))
        (blkOk_by (own := [("_law_modulus", 2)]) (N := ["_law_stock_here", "_law_group_here", "_law_modulus"]) (sc := defScope sElem) (by decide +kernel))
        (fun _ _ _ _ _ => pg_name (i := 2) scElem.nd rfl (.inl rfl)) (fun _ _ _ _ _ => pts_nil)
        (fun _ _ _ _ _ => pe_callD DD hr (pa_cons (pv 0) (pa_cons (pv 2) pa_nil)))) pa_nil))), ?_⟩
    refine ⟨.ref a, rfl, a, rfl, ⟨_, SqT.of ha⟩, fun D hD => ?_⟩
    have hne := hst.ne hD
    have kmut : ∀ {H2 : Hp} {o : HO}, Kp p g H H2 → Kp p g H (upd H2 D o) := fun k b u h1 h2 e => by
      rw [upd_ne (ne_of_none e hD)]
      exact k b u h1 h2 e
    have smut : ∀ {H2 : Hp} {xs ys : List V}, Stk p g fl H2 → H2 D = some (.lst xs) → D ≠ fl → Stk p g fl (upd H2 D (.lst ys)) := fun {H2 xs ys} k e hf => by
      obtain ⟨S0, c, gs, fs, h1, h2, h3, r⟩ := k.ex
      refine ⟨⟨S0, c, gs, fs, ?_, ?_, ?_, r⟩, k.gp, k.fp, k.fg⟩
      · rw [upd_ne (Ne.symm hne.1)]; exact h1
      · rw [upd_ne (Ne.symm hne.2)]; exact h2
      · rw [upd_ne (Ne.symm hf)]; exact h3
    have hDf : D ≠ fl := by
      obtain ⟨S0, c, gs, fs, h1, h2, h3, r⟩ := hst.ex
      exact (ne_of_none h3 hD).symm
    refine lc_tup (xs := G.map V.int) (fun i H1 => ∃ x, IsM (G.take i) x ∧ Stk p g fl H1 ∧ Kp p g H H1 ∧ H1 D = some (.lst (x.map V.int))) ⟨[], trivial, hst.same (same_upd hD), kmut (Kp.refl p g H), upd_same⟩ (fun i H1 _ h => ?_) (fun i v H1 hi h => ?_) fun H1 h => ?_
    · obtain ⟨x, _, _, k, _⟩ := h
      exact SqT.of (hst.tup k ha)
    · obtain ⟨x, hx, hs1, k, hD1⟩ := h
      obtain ⟨m, hm, rfl⟩ := ints_at hi
      have hmG := gg.pos m (List.mem_of_getElem? hm)
      refine ⟨rfl, .ref p, rfl, .int m, rfl, p, g, fl, m, rfl, hs1, by omega, by omega, fun H2 r hr0 hr1 hs2 k2 => ?_⟩
      have hD2 := k2 D _ hne.1 hne.2 hD1
      have hxl : x.length ≤ 3 := by
        have := isM_length hx
        have := List.length_take_le' i G
        have := gg.few
        omega
      refine ⟨x.map V.int, hD2, szl (by rw [List.length_map]; omega), x ++ [r], ?_, smut hs2 hD2 hDf, kmut (k.trans k2), ?_⟩
      · rw [take_succ_of hm]
        exact isM_snoc hx hr0 hr1
      · rw [upd_same, List.map_append]
        rfl
    · obtain ⟨x, hx, hs1, k, hD1⟩ := h
      rw [List.length_map, List.take_length] at hx
      refine ⟨D, _, rfl, .inl ⟨SqL.of hD1, fun l nl => ?_⟩⟩
      have sl := same_upd (o := .tup (x.map V.int)) nl
      exact q _ l x (hs1.same sl) (k.trans (Kp.same sl)) upd_same hx

/-! ### _law_kills -/
theorem ok_lkills (S : Stands K mg "_law_kills" sLKills f fd) (mi : mg "int" = none) (mz : mg "zip" = none) : Keeps P w K mg base 1 "_law_kills" ["_law_group_here", "_law_ask", "_law_element_here"] spKills := by
  refine S.keeps (S.fn.ok scLKills (fun vs H Q E h => ?_) (fun cdv A outer s H vs Q E hr h => ?_)) fun _ _ _ _ _ _ us hl => match us, hl with | [_, _, _], _ => rfl
  · obtain ⟨a, b, c, G, x, y, rfl, _⟩ := h
    rfl
  · obtain ⟨a, b, c, G, x, y, rfl, ha, hb, hc, g, hx, hy, q⟩ := h
    refine ⟨_, pss_cons (ps_asg (pe_tup (pa_cons pe_int (pa_cons pe_int pa_nil))) (pg_tup (by rfl) (pgs_cons (pg_name (i := 3) scLKills.nd rfl (.inl rfl)) (pgs_cons (pg_name (i := 4) scLKills.nd rfl (.inl rfl)) pgs_nil))))
      (pss_cons (ps_for PassesOwn.never rfl (pi_tup (pv 0)) (pg_name (i := 5) scLKills.nd rfl (.inl rfl))
        (pss_one (ps_set (i := 3) scLKills.nd rfl (.inl rfl) (pe_op op_mul (pv 3) (pv 5)))))
      (pss_cons (ps_for PassesOwn.never rfl (pi_zip3 (by rfl) mz (pa_cons (pv 1) (pa_cons (pv 2) (pa_cons (pv 0) pa_nil))))
        (pg_tup (by rfl) (pgs_cons (pg_name (i := 6) scLKills.nd rfl (.inl rfl)) (pgs_cons (pg_name (i := 7) scLKills.nd rfl (.inl rfl)) (pgs_cons (pg_name (i := 5) scLKills.nd rfl (.inl rfl)) pgs_nil))))
        (pss_one (ps_set (i := 4) scLKills.nd rfl (.inl rfl) (pe_op op_add (pv 4) (pe_op op_mul (pe_op op_mul (pv 6) (pv 7)) (pe_op op_fdiv (pv 3) (pv 5)))))))
      (pss_one (ps_ret (pe_cmpR op_eq (pe_op op_mod (pe_callTy call_int1 (by rfl) mi (by decide +kernel) (pa_cons (pv 4) pa_nil)) (pv 3)) pe_int (nomark _)))))), ?_⟩
    have lx := isM_length hx
    have ly := isM_length hy
    have h3 := g.few
    have ho := g.ord
    have hpp := prod_pos g.posG
    -- whole, found = 1, 0
    refine ⟨sz (by show 2 ≤ 100000; decide), fun t nt => ?_⟩
    have s1 := same_upd (o := .tup [V.int 1, V.int 0]) nt
    refine ⟨t, [V.int 1, V.int 0], rfl, SqT.of upd_same, rfl, _, _, rfl, _, _, rfl, rfl, ?_⟩
    -- whole = the product
    refine ⟨.ref a, rfl, a, rfl, ⟨_, SqT.of (s1 _ _ ha)⟩, for_tup (xs := G.map V.int) (fun i sg H' => ∃ y5, sg = [some (.ref a), some (.ref b), some (.ref c), some (.int (prod (G.take i))), some (.int 0), y5, none, none] ∧ Same H H')
      ⟨none, rfl, s1⟩ (fun i sg H' _ h => ?_) (fun i v sg H' hi h => ?_) (fun sg H' h => ?_)⟩
    · obtain ⟨_, _, s⟩ := h
      exact SqT.of (s _ _ ha)
    · obtain ⟨y5, rfl, s⟩ := h
      obtain ⟨m, hm, rfl⟩ := ints_at hi
      have hmG := g.pos m (List.mem_of_getElem? hm)
      have hl := prod_take g.posG i
      have h0 := prod_pos (g.posG.take i)
      refine ⟨.int (prod (G.take i)), rfl, .int m, rfl, prod (G.take i), m, rfl, rfl, .inl ⟨by omega, by omega⟩, some (.int m), ?_, s⟩
      rw [take_succ_of hm, prod_app]
      show _ = [_, _, _, some (V.int (prod (List.take i G) * (m * 1))), _, _, _, _]
      rw [Int.mul_one]
      rfl
    · obtain ⟨y5, rfl, s⟩ := h
      have eG : G.take (G.map V.int).length = G := List.take_of_length_le (by rw [List.length_map]; exact Nat.le_refl _)
      rw [eG]
      -- the sum
      have lp := parts_length (prod G) (G := G) lx ly
      refine ⟨.ref b, rfl, .ref c, rfl, .ref a, rfl, b, c, a, x.map V.int, y.map V.int, G.map V.int, rfl, SqT.of (s _ _ hb), SqT.of (s _ _ hc), SqT.of (s _ _ ha), ?_⟩
      refine for_it (walk_zip3 (xs := x.map V.int) (ys := y.map V.int) (zs := G.map V.int) (by rw [List.length_map, List.length_map]; omega) (by rw [List.length_map, List.length_map]; omega)) (fun i sg H1 => ∃ y5 y6 y7, sg = [some (.ref a), some (.ref b), some (.ref c), some (.int (prod G)), some (.int ((parts (prod G) G x y).take i).sum), y5, y6, y7] ∧ Same H H1)
        ⟨y5, none, none, rfl, s⟩ (fun i sg H1 _ h => ?_) (fun i v sg H1 H2 hi h hY => ?_) fun sg H1 h => ?_
      · obtain ⟨_, _, _, _, s⟩ := h
        exact ⟨SqT.of (s _ _ hb), SqT.of (s _ _ hc), SqT.of (s _ _ ha)⟩
      · obtain ⟨z5, z6, z7, rfl, s2⟩ := h
        obtain ⟨T, u1, u2, u3, rfl, nT, rfl, e1, e2, e3⟩ := hY
        obtain ⟨n1, f1, rfl⟩ := ints_at e1
        obtain ⟨n2, f2, rfl⟩ := ints_at e2
        obtain ⟨n3, f3, rfl⟩ := ints_at e3
        have hm := g.pos n3 (List.mem_of_getElem? f3)
        have b1' := isM_bound g hx f1
        have b2' := isM_bound g hy f2
        have hs := parts_at (prod G) f3 f1 f2
        have hmul := mul_small b1'.1 b1'.2 b2'.1 b2'.2
        have sT := same_upd (o := .tup [V.int n1, V.int n2, V.int n3]) nT
        refine ⟨T, [V.int n1, V.int n2, V.int n3], rfl, SqT.of upd_same, rfl, _, _, rfl, _, _, rfl, _, _, rfl, rfl, ?_⟩
        refine ⟨.int ((parts (prod G) G x y).take i).sum, rfl, .int n1, rfl, .int n2, rfl, n1, n2, rfl, rfl, .inl ⟨by omega, by omega⟩, .int (prod G), rfl, .int n3, rfl, prod G, n3, rfl, rfl, ⟨by omega, by omega⟩, n1 * n2, prod G / n3, rfl, rfl, .inl ⟨by omega, by omega⟩, _, _, rfl, rfl, some (.int n3), some (.int n1), some (.int n2), ?_, s2.trans sT⟩
        rw [sum_take hs]
        rfl
      · obtain ⟨z5, z6, z7, rfl, s2⟩ := h
        rw [List.length_map, List.take_of_length_le (by omega)]
        refine ⟨.int (parts (prod G) G x y).sum, rfl, .inl ⟨_, rfl, .int (prod G), rfl, (parts (prod G) G x y).sum, prod G, rfl, rfl, hpp, rfl, ?_⟩⟩
        rw [killB_mod g.posG (fun m hm => dvd_prod hm) (Int.dvd_refl _)]
        exact q _ s2
end
end K25
set_option Elab.async false
set_option linter.all false
set_option maxRecDepth 100000
set_option maxHeartbeats 4000000
namespace K25
open PySem PySem.Spec PyProof.Rows L2
/-! ### a call by two keywords alone -/
abbrev swp {α : Type} (sw : Bool) (u v : α) : List α := if sw = true then [v, u] else [u, v]
section
variable (P : Program) (w : World) (K : PySem.W.Frag) (mg : Str → Option Value) (base : Heap)
structure KeepsK (k : Nat) (x : Str) (ps ks : List Str) (sw : Bool) (sp : Sp) : Prop where
  ex : ∃ f fd, FnOk P w K mg base CX0 k f fd ps sp ∧ mg x = some (.ref f) ∧ PySem.W.keepIn K (.ref f) = true ∧ ∀ (s : Shared) (u v : Value), BindsTo s fd ⟨[], ks.zip [u, v]⟩ (ps.zip (swp sw u v))
end
section
variable {P : Program} {w : World} {K : PySem.W.Frag} {mg : Str → Option Value} {base : Heap}
theorem Stands.keepsK {x : Str} {ps ks : List Str} {sw : Bool} {st : Stmt} {f : Addr} {fd : FuncData} {k : Nat} {sp : Sp} (S : Stands K mg x st f fd) (ok : FnOk P w K mg base CX0 k f fd ps sp)
    (h : ∀ (kV doc pm : Value) (an : Option Addr) (cdv ct : Value) (u v : Value), bindArgs (PySem.W.fnOf x x (defArgs st) (defBody st) (defScope st) .none kV doc pm an cdv ct) ⟨[], ks.zip [u, v]⟩ = pure (ps.zip (swp sw u v))) : KeepsK P w K mg base k x ps ks sw sp := by
  refine ⟨f, fd, ok, S.gl, S.fn.kp, fun s u v => ?_⟩
  obtain ⟨c1, c2, kV, doc, pm, an, cdv, ct, c9, efd, _, _⟩ := S.fn.ex
  subst efd
  exact .of_eq (h kV doc pm an cdv ct u v)
end
section
variable {X : Cx} {k : Nat} {ps ks : List Str} {sw : Bool} {sp : Sp} {x : Str} {p pos : Pos} {kws : List Keyword} {tk : TA}
def tCall2 (sp : Sp) (sw : Bool) (tk : TA) : TE := fun sg H Q => tk sg H fun zs H1 => ∃ a b, zs = [a, b] ∧ sp (swp sw a b) H1 Q E0
theorem pe_call2 (D : KeepsK X.prog X.w X.K X.mg X.base k x ps ks sw sp) (hr : Room k X.A) (hkw : PK X kws tk) (hg : Gl X x := by rfl) (hall : (backToKw pos (keywordEach kws X.env)).all (·.1.isSome) = true := by rfl)
    (hks : (backToKw pos (keywordEach kws X.env)).filterMap (·.1) = ks := by rfl) (hdb : (x == ("__debug__" : Str)) = false := by decide)
    (hpl : ((backTo pos (starEach [] X.env)).any (·.1) || (backToKw pos (keywordEach kws X.env)).any (·.1.isNone)) = false := by rfl) : PE X (.Call (.Name x p) [] kws pos) (tCall2 sp sw tk) := by
  obtain ⟨f, fd, ok, gl, kp, bd⟩ := D.ex
  refine ⟨fun pins s sg H Q I h => wpAny_Call_Name_kw (ld_glob I hg gl ?_ hdb)⟩
  refine PySem.W.callWith_KW0 (h₀ := X.base) I.ok.mod.kin kp hall ?_ hpl
  refine thn (hkw.run pos pins s sg H _ I h) fun ws s2 ⟨zs, H2, I2, rz, q2⟩ => ⟨I2.kIn, ?_⟩
  obtain ⟨a, b, ez, q3⟩ := q2
  subst ez
  obtain ⟨u, v, ew, ru, rv⟩ := vals2 rz
  subst ew
  rw [hks, List.append_nil]
  have rel : Vals (swp sw a b) (swp sw u v) := by
    cases sw with
    | true => exact .cons rv (.cons ru .nil)
    | false => exact .cons ru (.cons rv .nil)
  refine wpAny_call (codeAny_mono (ok.run X.A X.stack s2 H2 ⟨[], ks.zip [u, v]⟩ (swp sw u v) (swp sw a b) Q E0 hr I2.env0 (bd s2 u v) rel q3) fun rr s' hq => ?_)
  match rr, hq with
  | .error _, hq => exact False.elim hq
  | .ok (.ret u), hq => exact I2.after hq
end

/-! ### lists of ones, lists that hold nothing -/
theorem dp_nil {K : PySem.W.Frag} {H : Hp} {a : Addr} (h : H a = some (.lst [])) : Dp K H (.ref a) (.list (datTs [])) := .lst (SqL.of h) .nil
theorem dp_nilI {K : PySem.W.Frag} {H : Hp} {a : Addr} (h : H a = some (.lst [])) : Dp K H (.ref a) (.list (([] : List Int).map PyData.int)) := .lst (SqL.of h) .nil

/-! ### the plain law of the look -/
section
variable {G : List Int} {sm : List (List Int)}
theorem spanL_isM {x : List Int} (h : x ∈ spanL G sm) : IsM G x := (mem_spanL'.mp h).1
theorem charsL_isM {x : List Int} (h : x ∈ charsL G sm) : IsM G x := (mem_charsL.mp h).1
theorem spanL_len (g : Grp G) : (spanL G sm).length ≤ 64 := Nat.le_trans (List.length_filter_le _ _) g.mems_len
theorem charsL_len (g : Grp G) : (charsL G sm).length ≤ 64 := Nat.le_trans (List.length_filter_le _ _) g.mems_len
/-- which characters do not kill x -/
abbrev notKill (G : List Int) (sm : List (List Int)) (x : List Int) : List (List Int) := (charsL G sm).filter fun c => !killB G c x
theorem notKill_nil {x : List Int} (hx : IsM G x) : notKill G sm x = [] ↔ x ∈ spanL G sm := by
  rw [List.filter_eq_nil_iff, mem_spanL']
  unfold killB
  simp only [Bool.not_eq_true, Bool.not_eq_false', decide_eq_true_eq]
  exact ⟨fun h => ⟨hx, h⟩, fun h => h.2⟩
theorem span_filter : (mems G).filter (fun x => decide (notKill G sm x = [])) = spanL G sm := by
  unfold spanL
  refine List.filter_congr fun x hx => ?_
  rw [Bool.eq_iff_iff, decide_eq_true_eq, List.filter_eq_nil_iff, List.all_eq_true]
  simp only [Bool.not_eq_true, Bool.not_eq_false']
/-- which of the span c does not kill -/
abbrev notKilled (G : List Int) (sm : List (List Int)) (c : List Int) : List (List Int) := (spanL G sm).filter fun x => !killB G c x
theorem notKilled_nil (hp : PosG G) (hs : ∀ o ∈ sm, IsM G o) {c : List Int} (hc : IsM G c) : notKilled G sm c = [] ↔ c ∈ charsL G sm := by
  rw [List.filter_eq_nil_iff, mem_charsL]
  unfold killB
  simp only [Bool.not_eq_true, Bool.not_eq_false', decide_eq_true_eq]
  constructor
  · intro h
    exact ⟨hc, fun o ho => h o ((mem_spanL hp hs).mpr (Spn.of_mem hs ho))⟩
  · intro h x hx
    exact (mem_spanL'.mp hx).2 c (mem_charsL.mpr h)
theorem chars_span (hp : PosG G) (hs : ∀ o ∈ sm, IsM G o) : charsL G (spanL G sm) = charsL G sm := by
  unfold charsL
  refine List.filter_congr fun c hc => ?_
  have hM := mem_mems.mp hc
  have h1 := mem_charsL (G := G) (sm := sm) (c := c)
  have h2 := notKilled_nil hp hs hM
  rw [List.filter_eq_nil_iff, h1] at h2
  rw [Bool.eq_iff_iff, List.all_eq_true, List.all_eq_true]
  unfold killB at h2 ⊢
  simp only [Bool.not_eq_true, Bool.not_eq_false', decide_eq_true_eq] at h2 ⊢
  exact ⟨fun h => (h2.mp h).2, fun h => h2.mpr ⟨hM, h⟩⟩
theorem span_span (hp : PosG G) (hs : ∀ o ∈ sm, IsM G o) : spanL G (spanL G sm) = spanL G sm := by
  show (mems G).filter _ = (mems G).filter _
  rw [chars_span hp hs]
theorem smal_of {l : List (List Int)} (g : Grp G) (h1 : l.length ≤ 64) (h2 : ∀ x ∈ l, IsM G x) : Smal l := by
  refine ⟨h1, fun x hx => ⟨?_, fun n hn => ?_⟩⟩
  · have := isM_length (h2 x hx)
    have := g.few
    omega
  · obtain ⟨i, hi⟩ := List.mem_iff_getElem?.mp hn
    exact isM_bound g (h2 x hx) hi
end
end K25
set_option Elab.async false
set_option linter.all false
set_option maxRecDepth 100000
set_option maxHeartbeats 8000000
namespace K25
open PySem PySem.Spec PyProof.Rows L2
theorem room65 {k : Nat} {A : Around} (r : Room k A) : A.units + 65 < cLine := by
  have := r.un
  omega
theorem TupOf.len {H : Hp} {a : Addr} {xss : List (List Int)} (h : TupOf H a xss) : ∃ vs : List V, H a = some (.tup vs) ∧ vs.length = xss.length := by
  obtain ⟨L, e, ha, _⟩ := h
  exact ⟨refs L, ha, by rw [refs_len, ← vals_len, e]⟩
theorem LstOf.len {H : Hp} {a : Addr} {xss : List (List Int)} (h : LstOf H a xss) : ∃ vs : List V, H a = some (.lst vs) ∧ vs.length = xss.length := by
  obtain ⟨L, e, ha, _⟩ := h
  exact ⟨refs L, ha, by rw [refs_len, ← vals_len, e]⟩
/-- what stands once every, spanned and asks are made -/
structure Look (p g fl r b e s k : Addr) (G : List Int) (sm : List (List Int)) (H : Hp) : Prop where
  stk : Stk p g fl H
  grp : Grp G
  all : ∀ o ∈ sm, IsM G o
  gr : Ints H r G
  smT : TupOf H b sm
  ev : LstOf H e (mems G)
  sp : TupOf H s (spanL G sm)
  ch : TupOf H k (charsL G sm)
theorem Look.same {p g fl r b e s k : Addr} {G : List Int} {sm : List (List Int)} {H H' : Hp} (l : Look p g fl r b e s k G sm H) (h : Same H H') : Look p g fl r b e s k G sm H' :=
  ⟨l.stk.same h, l.grp, l.all, h _ _ l.gr, l.smT.same h, l.ev.same h, l.sp.same h, l.ch.same h⟩
theorem Kp.mut {p g D : Addr} {H H2 : Hp} {o : HO} (hD : H D = none) (k : Kp p g H H2) : Kp p g H (upd H2 D o) := fun b u h1 h2 e => by
  rw [upd_ne (ne_of_none e hD)]
  exact k b u h1 h2 e
theorem Stk.mut {p g fl D : Addr} {H H2 : Hp} {o : HO} (hst : Stk p g fl H) (hD : H D = none) (k : Stk p g fl H2) : Stk p g fl (upd H2 D o) := by
  have hne := hst.ne hD
  have hf : D ≠ fl := by
    obtain ⟨S0, c, gs, fs, h1, h2, h3, r⟩ := hst.ex
    exact (ne_of_none h3 hD).symm
  obtain ⟨S0, c, gs, fs, h1, h2, h3, r⟩ := k.ex
  refine ⟨⟨S0, c, gs, fs, ?_, ?_, ?_, r⟩, k.gp, k.fp, k.fg⟩
  · rw [upd_ne (Ne.symm hne.1)]; exact h1
  · rw [upd_ne (Ne.symm hne.2)]; exact h2
  · rw [upd_ne (Ne.symm hf)]; exact h3
theorem neq_same (xss : List (List Int)) : V.bl (!PyData.eqv (.list (datTs xss)) (.list (datTs xss))) = V.bl false := by
  rw [eqv_L]
  simp
theorem ne_str (a : Str) : V.bl (!decide (V.str a = V.str a)) = V.bl false := by simp
theorem eq_str (a : Str) : V.bl (decide (V.str a = V.str a)) = V.bl true := by simp
theorem ne_bl {a b : Bool} (h : a = b) : V.bl (!decide (V.bl a = V.bl b)) = V.bl false := by
  subst h
  simp
section
variable {P : Program} {w : World} {K : PySem.W.Frag} {mg : Str → Option Value} {base : Heap} {f : Addr} {fd : FuncData}
/-! ### _law_are_even -/
def spEven : Sp := fun vs H Q _ => ∃ (p g fl : Addr), vs = [.ref p] ∧ Stk p g fl H ∧ ∀ H', Stk p g fl H' → Q (.bl true) H'
/-- what are_even calls -/
structure Calls0 (P : Program) (w : World) (K : PySem.W.Frag) (mg : Str → Option Value) (base : Heap) : Prop where
  draw : Keeps P w K mg base 1 "_law_draw" ["_law_stock_here", "_law_size"] spDraw
  wide : Keeps P w K mg base 3 "_law_wide" ["_law_stock_here"] spGroup
  group : Keeps P w K mg base 3 "_law_group" ["_law_stock_here"] spGroup
  elem : Keeps P w K mg base 2 "_law_element" ["_law_stock_here", "_law_group_here"] spElem
  lmem : Keeps P w K mg base 1 "_law_members" ["_law_sizes"] spLMem
  span : Keeps P w K mg base 2 "span" ["group", "some"] spSpan
  spanK : KeepsK P w K mg base 2 "span" ["group", "some"] ["some", "group"] true spSpan
  chars : Keeps P w K mg base 3 "characters" ["group", "some"] spChars
  charsK : KeepsK P w K mg base 3 "characters" ["group", "some"] ["group", "some"] false spChars
  mem : Keeps P w K mg base 2 "group_members" ["group"] spMem
  kills : Keeps P w K mg base 1 "kills" ["group", "character", "member"] spKills
  lkills : Keeps P w K mg base 1 "_law_kills" ["_law_group_here", "_law_ask", "_law_element_here"] spKills
  ml : mg "len" = none
  mt : mg "tuple" = none
  mr : mg "range" = none
  mp : mg "repr" = none
  mi : mg "isinstance" = none
abbrev nEven : List Str := ["_law_stock_here", "_law_group_here", "_law_some", "_law_every", "_law_spanned", "_law_asks", "_law_item", "_law_left", "_law_is_in", "_law_ask", "_law_told", "_law_due", "_law_turn"]
theorem ok_even (S : Stands K mg "_law_are_even" sEven f fd) (C : Calls0 P w K mg base) : FnG P w K mg base 4 f fd ["_law_stock_here"] spEven := by
  refine fnG_of S.fn scEven (fun vs H Q E h => ?_) (fun cdv A outer s0 H vs Q E hgd hr h => ?_)
  · obtain ⟨p, g, fl, rfl, _⟩ := h
    rfl
  · obtain ⟨p, g, fl, rfl, hst, q⟩ := h
    have h65 := room65 hr
    have h64 := hr.units
    have r1 : Room 1 (A.deeper (envOfC "_law_are_even" (defScope sEven) s0.heap.objs.size f cdv)) := hr.mono (by decide)
    have r2 : Room 2 (A.deeper (envOfC "_law_are_even" (defScope sEven) s0.heap.objs.size f cdv)) := hr.mono (by decide)
    refine ⟨_, Evl.pss_cut (ps_set (i := 1) scEven.nd rfl (.inr rfl) (pe_ifExp (pt_cmpR op_eq (pe_callD C.draw r1 (pa_cons (pv 0) (pa_cons pe_int pa_nil))) pe_int (nomark _)) (pe_callD C.wide hr (pa_cons (pv 0) pa_nil)) (pe_callD C.group hr (pa_cons (pv 0) pa_nil))))
      (Evl.pss_cut (ps_set (i := 2) scEven.nd rfl (.inl rfl) (pe_callTy call_tuple_of (by rfl) C.mt (by decide +kernel) (pa_cons
          (pe_lc (own := [("_law_turn", 12)]) (g := gName 12) (by rfl) scEven.nd (pi_range1 rfl C.mr (pa_cons (pe_callD C.draw r1 (pa_cons (pv 0) (pa_cons pe_int pa_nil))) pa_nil))
            (blkOk_by (own := [("_law_turn", 12)]) (N := nEven) (sc := defScope sEven) (by decide +kernel))
            (fun _ _ _ _ _ => pg_name (i := 12) scEven.nd rfl (.inl rfl)) (fun _ _ _ _ _ => pts_nil)
            (fun _ _ _ _ _ => pe_callD C.elem r2 (pa_cons (pv 0) (pa_cons (pv 1) pa_nil)))) pa_nil)))
      (Evl.pss_cut (ps_asg (pe_tup (pa_cons (pe_callD C.lmem r1 (pa_cons (pv 1) pa_nil)) (pa_cons (pe_callD C.span r2 (pa_cons (pv 1) (pa_cons (pv 2) pa_nil))) (pa_cons (pe_callD C.chars hr (pa_cons (pv 1) (pa_cons (pv 2) pa_nil))) pa_nil))))
          (pg_tup (by rfl) (pgs_cons (pg_name (i := 3) scEven.nd rfl (.inr rfl)) (pgs_cons (pg_name (i := 4) scEven.nd rfl (.inr rfl)) (pgs_cons (pg_name (i := 5) scEven.nd rfl (.inl rfl)) pgs_nil)))))
      (Evl.pss_cut (ps_if (PW.pt (pw_and (pt_cmpR op_gt (pe_callB call_len_seq (by rfl) C.ml PySem.boot_len (pa_cons (pv 3) pa_nil)) pe_int (nomark _)) (pw_and1 (pt_cmpR op_gt (pe_callB call_len_seq (by rfl) C.ml PySem.boot_len (pa_cons (pv 5) pa_nil)) pe_int (nomark _)))))
          (pss_one (ps_ret (pe_cmpR op_eq (pe_op op_mul (pe_callB call_len_seq (by rfl) C.ml PySem.boot_len (pa_cons (pv 5) pa_nil)) (pe_callB call_len_seq (by rfl) C.ml PySem.boot_len (pa_cons (pv 4) pa_nil))) (pe_callB call_len_seq (by rfl) C.ml PySem.boot_len (pa_cons (pv 3) pa_nil)) (nomark _)))) pss_nil)
      (pss_cons (ps_if (PW.pt (pw_or (pt_cmpR op_ne (pe_callB (cr_reprD hgd h64) (by rfl) C.mp (by decide +kernel) (pa_cons (pe_callD C.mem r2 (pa_cons (pv 1) pa_nil)) pa_nil)) (pe_callB (cr_reprD hgd h64) (by rfl) C.mp (by decide +kernel) (pa_cons (pe_callTy call_tuple_of (by rfl) C.mt (by decide +kernel) (pa_cons (pv 3) pa_nil)) pa_nil)) (nomark _))
            (pw_or1 (pt_not (pt_val (pe_callB RZ.call_isTy (by rfl) C.mi (by decide +kernel) (pa_cons (pv 4) (pa_cons (pe_bltn (v := .ty "tuple") (u := .type "tuple") (by rfl) C.mt (by decide +kernel) rfl) pa_nil)))))))) (pss_one (ps_ret pe_bl)) pss_nil)
      (pss_cons (ps_if (PW.pt (pw_or (pt_not (pt_val (pe_callB RZ.call_isTy (by rfl) C.mi (by decide +kernel) (pa_cons (pv 5) (pa_cons (pe_bltn (v := .ty "tuple") (u := .type "tuple") (by rfl) C.mt (by decide +kernel) rfl) pa_nil))))) (pw_or1 (pt_cmpR (op_neD h64) (pe_lc (own := [("_law_item", 6)]) (g := gName 6) (by rfl) scEven.nd (pi_tup (pe_op (r := rCatA K) op_catA (pv 4) (pv 5)))
            (blkOk_by (own := [("_law_item", 6)]) (N := nEven) (sc := defScope sEven) (by decide +kernel)) (fun _ _ _ _ _ => pg_name (i := 6) scEven.nd rfl (.inl rfl)) (fun _ _ _ _ _ => pts_one (pt_cmpR (r := rNotInD K) (op_notInD h65) (pv 6) (pv 3) (by rfl))) (fun _ _ _ _ _ => pe_int)) (pe_lst pa_nil) (by rfl)))))
            (pss_one (ps_ret pe_bl)) pss_nil)
      (pss_cons (ps_if (pt_cmpR (op_neD h64) (pe_lc (own := [("_law_item", 6)]) (g := gName 6) (by rfl) scEven.nd (pi_tup (pv 2))
            (blkOk_by (own := [("_law_item", 6)]) (N := nEven) (sc := defScope sEven) (by decide +kernel)) (fun _ _ _ _ _ => pg_name (i := 6) scEven.nd rfl (.inl rfl)) (fun _ _ _ _ _ => pts_one (pt_cmpR (r := rNotInTD K) (op_notInTD h65) (pv 6) (pv 4) (by rfl))) (fun _ _ _ _ _ => pe_int)) (pe_lst pa_nil) (by rfl)) (pss_one (ps_ret pe_bl)) pss_nil)
      (pss_cons (ps_set (i := 7) scEven.nd rfl (.inl rfl) (pe_lst pa_nil))
      (pss_cons (ps_for PassesOwn.never rfl (pi_list (pv 3)) (pg_name (i := 6) scEven.nd rfl (.inr rfl))
        (pss_cons (ps_set (i := 8) scEven.nd rfl (.inl rfl) (pe_cmpR (op_inTD h65) (pv 6) (pv 4) (by rfl)))
        (pss_cons (ps_setLc (i := 10) (own := [("_law_ask", 9)]) (g := gName 9) (by rfl) scEven.nd rfl rfl (sw_true rfl rfl rfl (by decide +kernel)) (pi_tup (pv 5))
            (blkOk_by (own := [("_law_ask", 9)]) (N := nEven) (sc := defScope sEven) (by decide +kernel)) (fun _ _ _ _ _ => pg_name (i := 9) scEven.nd rfl (.inl rfl)) (fun _ _ _ _ _ => pts_one (pt_cmpR op_notBl (pe_callD C.kills r1 (pa_cons (pv 1) (pa_cons (pv 9) (pa_cons (pv 6) pa_nil)))) pe_bl (by rfl))) (fun _ _ _ _ _ => pv 9))
        (pss_cons (ps_setLc (i := 11) (own := [("_law_ask", 9)]) (g := gName 9) (by rfl) scEven.nd rfl rfl (sw_true rfl rfl rfl (by decide +kernel)) (pi_tup (pv 5))
            (blkOk_by (own := [("_law_ask", 9)]) (N := nEven) (sc := defScope sEven) (by decide +kernel)) (fun _ _ _ _ _ => pg_name (i := 9) scEven.nd rfl (.inl rfl)) (fun _ _ _ _ _ => pts_one (pt_not (pt_val (pe_callD C.lkills r1 (pa_cons (pv 1) (pa_cons (pv 9) (pa_cons (pv 6) pa_nil))))))) (fun _ _ _ _ _ => pv 9))
        (pss_cons (ps_if (PW.pt (pw_or (pt_cmpR (op_neD h64) (pv 10) (pv 11) (by rfl)) (pw_or1 (pt_cmpR op_ne (pv 8) (pe_cmpR (op_eqD h64) (pv 11) (pe_lst pa_nil) (by rfl)) (by rfl))))) (pss_one (ps_ret pe_bl)) pss_nil)
        (pss_one (ps_if (pt_cmpR (op_eqD h64) (pv 11) (pe_lst pa_nil) (by rfl))
          (pss_one (ps_expr (pe_bm PySem.F.plainAttrs_list PySem.F.slot_list_append PySem.F.type_list_append mt_append (pv 7) (pa_cons (pv 6) pa_nil)))) pss_nil)))))))
      (pss_cons (ps_for PassesOwn.never rfl (pi_list (pv 3)) (pg_name (i := 9) scEven.nd rfl (.inr rfl))
        (pss_one (ps_if (pt_cmpR op_ne (pe_cmpR (op_inTD h65) (pv 9) (pv 5) (by rfl)) (pe_cmpR (op_eqD h64) (pe_lc (own := [("_law_item", 6)]) (g := gName 6) (by rfl) scEven.nd (pi_tup (pv 4))
            (blkOk_by (own := [("_law_item", 6)]) (N := nEven) (sc := defScope sEven) (by decide +kernel)) (fun _ _ _ _ _ => pg_name (i := 6) scEven.nd rfl (.inl rfl)) (fun _ _ _ _ _ => pts_one (pt_not (pt_val (pe_callD C.lkills r1 (pa_cons (pv 1) (pa_cons (pv 9) (pa_cons (pv 6) pa_nil))))))) (fun _ _ _ _ _ => pe_int)) (pe_lst pa_nil) (by rfl)) (by rfl)) (pss_one (ps_ret pe_bl)) pss_nil)))
      (pss_cons (ps_set (i := 10) scEven.nd rfl (.inl rfl) (pe_lst (pa_cons (pe_call2 C.charsK hr (pk_cons (pv 1) (pk_cons (pv 4) pk_nil)))
          (pa_cons (pe_callD C.span r2 (pa_cons (pv 1) (pa_cons (pe_callTy call_tuple_of (by rfl) C.mt (by decide +kernel) (pa_cons (pv 7) pa_nil)) pa_nil))) (pa_cons (pe_call2 C.spanK r2 (pk_cons (pv 4) (pk_cons (pv 1) pk_nil))) pa_nil)))))
      (pss_one (ps_ret (pe_cmpR op_eq (pe_callB (cr_reprD hgd h64) (by rfl) C.mp (by decide +kernel) (pa_cons (pv 10) pa_nil)) (pe_callB (cr_reprD hgd h64) (by rfl) C.mp (by decide +kernel) (pa_cons (pe_lst (pa_cons (pv 5) (pa_cons (pv 4) (pa_cons (pv 4) pa_nil)))) pa_nil)) (nomark _)))))))))))))), ?_⟩
    -- READ
    refine ⟨fun σ1 H1 => ∃ r G, σ1 = [some (.ref p), some (.ref r), none, none, none, none, none, none, none, none, none, none, none] ∧ Stk p g fl H1 ∧ Ints H1 r G ∧ Grp G, ?_, ?_⟩
    · refine ⟨.ref p, rfl, p, g, fl, 8, rfl, hst, by decide, by decide, fun H2 rr hr0 hr1 hs2 k2 => ⟨rfl, _, rfl, ite2 (fun _ => ?_) fun _ => ?_⟩⟩
      · exact ⟨.ref p, rfl, p, g, fl, rfl, hs2, fun H3 r G h3 k3 hG gg => ⟨r, G, rfl, h3, hG, gg⟩⟩
      · exact ⟨.ref p, rfl, p, g, fl, rfl, hs2, fun H3 r G h3 k3 hG gg => ⟨r, G, rfl, h3, hG, gg⟩⟩
    rintro σ1 H1 ⟨r, G, rfl, hs1, hG, gg⟩
    -- some
    refine ⟨fun σ2 H2 => ∃ b sm, σ2 = [some (.ref p), some (.ref r), some (.ref b), none, none, none, none, none, none, none, none, none, none] ∧ Stk p g fl H2 ∧ Ints H2 r G ∧ TupOf H2 b sm ∧ (∀ o ∈ sm, IsM G o) ∧ sm.length ≤ 64, ?_, ?_⟩
    · refine ⟨.ref p, rfl, p, g, fl, 4, rfl, hs1, by decide, by decide, fun H2 n hn0 hn1 hs2 k2 => ⟨n, rfl, by omega, by omega, fun D hD => ?_⟩⟩
      have hne := hs2.ne hD
      have hG2 := hs1.tup k2 hG
      refine lc_range (lo := 0) (n := n.toNat) (fun i H3 => ∃ L : List (Addr × List Int), H3 D = some (.lst (refs L)) ∧ Tups H3 L ∧ (∀ o ∈ vals L, IsM G o) ∧ L.length = i ∧ Stk p g fl H3 ∧ Kp p g H2 H3)
        ⟨[], upd_same, Tups.nil, fun o ho => absurd ho (by simp), rfl, hs2.same (same_upd hD), Kp.mut hD (Kp.refl p g H2)⟩ (fun i H3 hi h => ?_) fun H3 h => ?_
      · obtain ⟨L, hL, tL, mL, lL, hs3, k3⟩ := h
        refine ⟨rfl, .ref p, rfl, .ref r, rfl, p, g, fl, r, G, rfl, hs3, hs2.tup k3 hG2, gg, fun H4 e x hs4 k4 he hx => ?_⟩
        have hD4 := k4 D _ hne.1 hne.2 hL
        refine ⟨refs L, hD4, szl (by rw [refs_len]; omega), L ++ [(e, x)], ?_, ?_, fun o ho => ?_, ?_, Stk.mut hs2 hD hs4, Kp.mut hD (k3.trans k4)⟩
        · rw [upd_same, refs_app]
          rfl
        · exact Tups.updL ((hs3.tups k4 tL).app (Tups.cons he Tups.nil)) hD4
        · rw [vals_app] at ho
          rcases List.mem_append.mp ho with ho | ho
          · exact mL o ho
          · rw [List.mem_singleton.mp ho]
            exact hx
        · rw [List.length_append, lL]
          rfl
      · obtain ⟨L, hL, tL, mL, lL, hs3, k3⟩ := h
        refine ⟨D, refs L, rfl, .inl ⟨SqL.of hL, fun l nl => ?_⟩⟩
        have sl := same_upd (o := .tup (refs L)) nl
        refine ⟨l, vals L, rfl, hs3.same sl, sl _ _ (hs2.tup k3 hG2), ⟨L, rfl, upd_same, tL.same sl⟩, mL, ?_⟩
        rw [vals_len]
        omega
    rintro σ2 H2 ⟨b, sm, rfl, hs2, hG2, hsm, hM, hlen⟩
    -- every, spanned, asks
    refine ⟨fun σ3 H3 => ∃ e s k, σ3 = [some (.ref p), some (.ref r), some (.ref b), some (.ref e), some (.ref s), some (.ref k), none, none, none, none, none, none, none] ∧ Look p g fl r b e s k G sm H3, ?_, ?_⟩
    · refine ⟨.ref r, rfl, r, G, rfl, hG2, gg, fun H3 e s3 ne he => ⟨.ref r, rfl, .ref b, rfl, r, b, G, sm, rfl, s3 _ _ hG2, hsm.same s3, gg, hM, fun H4 s s4 hsp =>
        ⟨.ref r, rfl, .ref b, rfl, r, b, G, sm, rfl, s4 _ _ (s3 _ _ hG2), (hsm.same s3).same s4, gg, hM, hlen, fun H5 k s5 hk => ⟨sz (by show 3 ≤ 100000; decide), fun t nt => ?_⟩⟩⟩⟩
      have st := same_upd (o := .tup [V.ref e, V.ref s, V.ref k]) nt
      have sa := ((s3.trans s4).trans s5).trans st
      refine ⟨t, [V.ref e, V.ref s, V.ref k], rfl, SqT.of upd_same, rfl, _, _, rfl, _, _, rfl, _, _, rfl, rfl, e, s, k, rfl, ?_⟩
      exact ⟨hs2.same sa, gg, hM, sa _ _ hG2, hsm.same sa, ((he.same s4).same s5).same st, (hsp.same s5).same st, hk.same st⟩
    rintro σ3 H3 ⟨e, s, k, rfl, lk⟩
    have hp := gg.posG
    have hml := gg.mems_len
    have hsl := spanL_len (sm := sm) gg
    have hkl := charsL_len (sm := sm) gg
    -- the large ones
    refine ⟨fun σ4 H4 => σ4 = [some (.ref p), some (.ref r), some (.ref b), some (.ref e), some (.ref s), some (.ref k), none, none, none, none, none, none, none] ∧ Look p g fl r b e s k G sm H4, ?_, ?_⟩
    · obtain ⟨ve, hve, le⟩ := lk.ev.len
      obtain ⟨vs, hvs, ls⟩ := lk.sp.len
      obtain ⟨vk, hvk, lk2⟩ := lk.ch.len
      refine ⟨.ref e, rfl, e, ve, rfl, .inl (SqL.of hve), _, 12, rfl, rfl, _, rfl, ite2 (fun _ => ⟨.ref k, rfl, k, vk, rfl, .inr (SqT.of hvk), _, 6, rfl, rfl, _, rfl, ite2 (fun _ => ?_) fun _ => ⟨rfl, lk⟩⟩) fun _ => ⟨rfl, lk⟩⟩
      refine ⟨.ref k, rfl, k, vk, rfl, .inr (SqT.of hvk), .ref s, rfl, s, vs, rfl, .inr (SqT.of hvs), _, _, rfl, rfl, .inl ⟨by omega, by omega⟩, .ref e, rfl, e, ve, rfl, .inl (SqL.of hve), rfl, ?_⟩
      have e1 : ((vk.length : Int) * (vs.length : Int)) = (ve.length : Int) := by
        rw [lk2, ls, le, ← span_chars hp hM, Int.natCast_mul]
      show Q (V.bl (decide (V.int ((vk.length : Int) * (vs.length : Int)) = V.int (ve.length : Int)))) H3
      rw [e1, decide_eq_true rfl]
      exact q _ lk.stk
    rintro σ4 H4 ⟨rfl, lk⟩
    -- TAIL
    obtain ⟨Le, eLe, hve, tLe⟩ := lk.ev
    obtain ⟨Ls, eLs, hvs, tLs⟩ := lk.sp
    obtain ⟨Lk, eLk, hvk, tLk⟩ := lk.ch
    obtain ⟨Lb, eLb, hvb, tLb⟩ := lk.smT
    have lLe : Le.length = (mems G).length := by rw [← eLe, vals_len]
    have lLs : Ls.length = (spanL G sm).length := by rw [← eLs, vals_len]
    have lLk : Lk.length = (charsL G sm).length := by rw [← eLk, vals_len]
    have hge : 1 ≤ (mems G).length := List.length_pos_of_mem (mem_mems.mpr (isM_zero hp))
    have hsc := span_chars hp hM
    have hs1' : 1 ≤ (spanL G sm).length := Nat.pos_of_ne_zero fun z => by
      rw [z, Nat.mul_zero] at hsc
      omega
    have hk1' : 1 ≤ (charsL G sm).length := Nat.pos_of_ne_zero fun z => by
      rw [z, Nat.zero_mul] at hsc
      omega
    have hsmM := smal_of gg hml (fun x hx => mem_mems.mp hx)
    have hsmS := smal_of gg hsl (fun x hx => spanL_isM hx)
    have hsmK := smal_of gg hkl (fun x hx => charsL_isM hx)
    -- repr(group_members(..)) != repr(tuple(every)) or not isinstance(spanned, tuple)
    refine ⟨.ref r, rfl, r, G, rfl, lk.gr, gg, fun H5 m s5 hm => ⟨m, _, rfl, dp_U hm, (shown_U hsmM).2, noDict_U _, Nat.le_trans (depth_U _) (by decide), sz (Nat.le_trans (shown_U hsmM).1 (by decide)),
      .ref e, rfl, e, refs Le, rfl, .inl ⟨SqL.of (s5 _ _ hve), fun u nu => ?_⟩⟩⟩
    have s6 := s5.trans (same_upd (o := .tup (refs Le)) nu)
    refine ⟨u, _, rfl, dp_U (xss := mems G) ⟨Le, eLe, upd_same, tLe.same s6⟩, (shown_U hsmM).2, noDict_U _, Nat.le_trans (depth_U _) (by decide), sz (Nat.le_trans (shown_U hsmM).1 (by decide)), rfl, false, ne_str _,
      .ref s, rfl, .ref s, "tuple", rfl, .tup (s6 _ _ hvs), true, rfl, ?_⟩
    have lk6 := lk.same s6
    generalize upd H5 u (.tup (refs Le)) = H6 at s6 lk6
    clear hm s5 nu
    -- not isinstance(asks, tuple) or [.. spanned + asks ..] != []
    refine ⟨.ref k, rfl, .ref k, "tuple", rfl, .tup (s6 _ _ hvk), true, rfl, .ref s, rfl, .ref k, rfl, s, k, refs Ls, refs Lk, rfl, rfl, SqT.of (s6 _ _ hvs), SqT.of (s6 _ _ hvk), ?_, fun z => ?_, fun _ z => ?_, fun _ _ c nc => ?_⟩
    · rw [refs_len, refs_len]
      exact sz (by omega)
    · have := congrArg List.length z
      rw [refs_len] at this
      have : Ls.length = 0 := this
      omega
    · have := congrArg List.length z
      rw [refs_len] at this
      have : Lk.length = 0 := this
      omega
    have s7 := s6.trans (same_upd (o := .tup (refs Ls ++ refs Lk)) nc)
    have hc7 : upd H6 c (.tup (refs Ls ++ refs Lk)) c = some (.tup (refs (Ls ++ Lk))) := by rw [upd_same, refs_app]
    have tc7 : Tups (upd H6 c (.tup (refs Ls ++ refs Lk))) (Ls ++ Lk) := (tLs.same s7).app (tLk.same s7)
    refine ⟨c, rfl, ⟨_, SqT.of hc7⟩, fun D hD => lc_tup (xs := refs (Ls ++ Lk)) (fun _ H' => BldI (upd H6 c (.tup (refs Ls ++ refs Lk))) D [] H') (BldI.start hD) (fun i H' _ b => SqT.of (b.same _ _ hc7)) (fun i v H' hi b => ?_) fun H' b => ?_⟩
    · obtain ⟨⟨ra, x⟩, hx, rfl⟩ := refs_at hi
      have hmem := List.mem_of_getElem? hx
      have hxM : IsM G x := by
        rcases List.mem_append.mp hmem with h | h
        · exact spanL_isM (by rw [← eLs]; exact List.mem_map.mpr ⟨_, h, rfl⟩)
        · exact charsL_isM (by rw [← eLk]; exact List.mem_map.mpr ⟨_, h, rfl⟩)
      refine ⟨rfl, .ref ra, rfl, .ref e, rfl, datT x, datTs (mems G), dp_T (b.same _ _ (tc7 _ hmem)), dp_L ⟨Le, eLe, b.same _ _ (s7 _ _ hve), (tLe.same s7).same b.same⟩, shaped_T _, shaped_L _, _, rfl, ?_⟩
      rw [any_T, decide_eq_true (mem_mems.mpr hxM)]
      exact b
    refine ⟨Nat.zero_le _, fun z nz => ⟨.list (datTs []), .list (datTs []), dp_nil (same_upd nz _ _ b.is), dp_nil upd_same, shaped_L _, shaped_L _, false, neq_same [], ?_⟩⟩
    have s8 := (s7.trans b.same).trans (same_upd (o := .lst []) nz)
    have lk8 := lk.same s8
    generalize upd H' z (.lst []) = H8 at s8 lk8
    clear b nz hD tc7 hc7 s7 nc lk6 s6
    -- [.. some ..] != []
    refine ⟨.ref b, rfl, b, rfl, ⟨_, SqT.of (s8 _ _ hvb)⟩, fun D hD => lc_tup (xs := refs Lb) (fun _ H' => BldI H8 D [] H') (BldI.start hD) (fun i H' _ b => SqT.of (b.same _ _ (s8 _ _ hvb))) (fun i v H' hi b => ?_) fun H' b => ?_⟩
    · obtain ⟨⟨ra, x⟩, hx, rfl⟩ := refs_at hi
      have hmem := List.mem_of_getElem? hx
      have hxs : x ∈ sm := by
        rw [← eLb]
        exact List.mem_map.mpr ⟨_, hmem, rfl⟩
      refine ⟨rfl, .ref ra, rfl, .ref s, rfl, datT x, datTs (spanL G sm), dp_T (b.same _ _ (s8 _ _ (tLb _ hmem))), dp_U ⟨Ls, eLs, b.same _ _ (s8 _ _ hvs), (tLs.same s8).same b.same⟩, shaped_T _, shaped_U _, _, rfl, ?_⟩
      rw [any_T, decide_eq_true ((mem_spanL hp hM).mpr (Spn.of_mem hM hxs))]
      exact b
    refine ⟨Nat.zero_le _, fun z nz => ⟨.list (datTs []), .list (datTs []), dp_nil (same_upd nz _ _ b.is), dp_nil upd_same, shaped_L _, shaped_L _, false, neq_same [], ?_⟩⟩
    have s9 := (s8.trans b.same).trans (same_upd (o := .lst []) nz)
    have lk9 := lk.same s9
    generalize upd H' z (.lst []) = H9 at s9 lk9
    clear b nz hD s8 lk8
    -- left = []
    refine ⟨Nat.zero_le _, fun l nl => ?_⟩
    -- LOOPS
    have step : ∀ {i : Nat} {ra : Addr} {x : List Int}, Le[i]? = some (ra, x) → (mems G)[i]? = some x ∧ IsM G x := fun {i ra x} h => by
      have hx : (mems G)[i]? = some x := by
        rw [← eLe]
        exact vals_at h
      exact ⟨hx, mem_mems.mp (List.mem_of_getElem? hx)⟩
    have chk : ∀ {i : Nat} {ra : Addr} {x : List Int}, Lk[i]? = some (ra, x) → (charsL G sm)[i]? = some x ∧ IsM G x := fun {i ra x} h => by
      have hx : (charsL G sm)[i]? = some x := by
        rw [← eLk]
        exact vals_at h
      exact ⟨hx, charsL_isM (List.mem_of_getElem? hx)⟩
    have chs : ∀ {i : Nat} {ra : Addr} {x : List Int}, Ls[i]? = some (ra, x) → (spanL G sm)[i]? = some x ∧ IsM G x := fun {i ra x} h => by
      have hx : (spanL G sm)[i]? = some x := by
        rw [← eLs]
        exact vals_at h
      exact ⟨hx, spanL_isM (List.mem_of_getElem? hx)⟩
    -- for item in every
    refine ⟨.ref e, rfl, e, rfl, ⟨_, SqL.of (same_upd nl _ _ (s9 _ _ hve))⟩, for_list (xs := refs Le) (fun i σ' H' => ∃ y6 y8 y9 y10 y11 y12, σ' = [some (.ref p), some (.ref r), some (.ref b), some (.ref e), some (.ref s), some (.ref k), y6, some (.ref l), y8, y9, y10, y11, y12] ∧
        Bld H9 l (((mems G).take i).filter fun x => decide (notKill G sm x = [])) H') ⟨none, none, none, none, none, none, rfl, Bld.start nl⟩ (fun i σ' H' _ h => ?_) (fun i v σ' H' hi h => ?_) fun σ' H' h => ?_⟩
    · obtain ⟨_, _, _, _, _, _, _, bl⟩ := h
      exact SqL.of (bl.same _ _ (s9 _ _ hve))
    · obtain ⟨y6, y8, y9, y10, y11, y12, rfl, bl⟩ := h
      obtain ⟨⟨ra, x⟩, hx, rfl⟩ := refs_at hi
      obtain ⟨hxm, hxM⟩ := step hx
      have hmem := List.mem_of_getElem? hx
      have sX := s9.trans bl.same
      -- is_in
      refine ⟨.ref ra, rfl, .ref s, rfl, datT x, datTs (spanL G sm), dp_T (sX _ _ (tLe _ hmem)), dp_U ⟨Ls, eLs, sX _ _ hvs, tLs.same sX⟩, shaped_T _, shaped_U _, ?_⟩
      rw [any_T]
      -- told
      refine ⟨.ref k, rfl, k, rfl, ⟨_, SqT.of (sX _ _ hvk)⟩, fun D1 hD1 => lc_tup (xs := refs Lk) (fun j H2' => Bld H' D1 (((charsL G sm).take j).filter fun c => !killB G c x) H2') (Bld.start hD1) (fun j H2' _ b1 => SqT.of (b1.same _ _ (sX _ _ hvk))) (fun j v2 H2' hj b1 => ?_) fun H2' b1 => ?_⟩
      · obtain ⟨⟨rc, c⟩, hc, rfl⟩ := refs_at hj
        obtain ⟨hcm, hcM⟩ := chk hc
        have sY := sX.trans b1.same
        refine ⟨rfl, .ref r, rfl, .ref rc, rfl, .ref ra, rfl, r, rc, ra, G, c, x, rfl, sY _ _ lk.gr, sY _ _ (tLk _ (List.mem_of_getElem? hc)), sY _ _ (tLe _ hmem), gg, hcM, hxM, fun H3' s3' => ⟨_, true, rfl, rfl, _, rfl, ?_⟩⟩
        have b2 := b1.on s3'
        have hz : (((charsL G sm).take j).filter fun c => !killB G c x).length < 100000 := by
          have := filter_take_le (l := charsL G sm) j fun c => !killB G c x
          omega
        refine ite2 (fun h0 => ?_) fun h0 => ?_
        · obtain ⟨acc, k1, k2, b3⟩ := b2.step (p := rc) (y := c) (s3' _ _ (sY _ _ (tLk _ (List.mem_of_getElem? hc)))) hz
          refine ⟨.ref rc, rfl, acc, k1, k2, ?_⟩
          rw [filter_take _ hcm, if_pos (by simpa using h0)]
          exact b3
        · rw [filter_take _ hcm, if_neg (by simpa using h0), List.append_nil]
          exact b2
      rw [refs_len, List.take_of_length_le (by omega)] at b1
      have s1x := sX.trans b1.same
      -- due
      refine ⟨.ref k, rfl, k, rfl, ⟨_, SqT.of (s1x _ _ hvk)⟩, fun D2 hD2 => lc_tup (xs := refs Lk) (fun j H3' => Bld H2' D2 (((charsL G sm).take j).filter fun c => !killB G c x) H3') (Bld.start hD2) (fun j H3' _ b2 => SqT.of (b2.same _ _ (s1x _ _ hvk))) (fun j v2 H3' hj b2 => ?_) fun H3' b2 => ?_⟩
      · obtain ⟨⟨rc, c⟩, hc, rfl⟩ := refs_at hj
        obtain ⟨hcm, hcM⟩ := chk hc
        have sY := s1x.trans b2.same
        refine ⟨rfl, .ref r, rfl, .ref rc, rfl, .ref ra, rfl, r, rc, ra, G, c, x, rfl, sY _ _ lk.gr, sY _ _ (tLk _ (List.mem_of_getElem? hc)), sY _ _ (tLe _ hmem), gg, hcM, hxM, fun H4' s4' => ⟨_, rfl, ?_⟩⟩
        have b3 := b2.on s4'
        have hz : (((charsL G sm).take j).filter fun c => !killB G c x).length < 100000 := by
          have := filter_take_le (l := charsL G sm) j fun c => !killB G c x
          omega
        refine ite2 (fun h0 => ?_) fun h0 => ?_
        · obtain ⟨acc, k1, k2, b4⟩ := b3.step (p := rc) (y := c) (s4' _ _ (sY _ _ (tLk _ (List.mem_of_getElem? hc)))) hz
          refine ⟨.ref rc, rfl, acc, k1, k2, ?_⟩
          rw [filter_take _ hcm, if_pos h0]
          exact b4
        · rw [filter_take _ hcm, if_neg h0, List.append_nil]
          exact b3
      rw [refs_len, List.take_of_length_le (by omega)] at b2
      have n1 : LstOf H3' D1 (notKill G sm x) := b1.is.same b2.same
      have n2 : LstOf H3' D2 (notKill G sm x) := b2.is
      -- told != due or is_in != (due == [])
      refine ⟨.ref D1, rfl, .ref D2, rfl, .list (datTs (notKill G sm x)), .list (datTs (notKill G sm x)), dp_L n1, dp_L n2, shaped_L _, shaped_L _, false, neq_same _, .bl (decide (x ∈ spanL G sm)), rfl, .ref D2, rfl, Nat.zero_le _, fun z nz => ?_⟩
      have sz1 := same_upd (o := .lst []) nz
      refine ⟨.list (datTs (notKill G sm x)), .list (datTs []), dp_L (n2.same sz1), dp_nil upd_same, shaped_L _, shaped_L _, rfl, false, ne_bl ?_, ?_⟩
      · rw [eqv_L]
        exact decide_eq_decide.mpr (notKill_nil hxM).symm
      -- if due == []
      refine ⟨.ref D2, rfl, Nat.zero_le _, fun z2 nz2 => ?_⟩
      have sz2 := same_upd (o := .lst []) nz2
      refine ⟨.list (datTs (notKill G sm x)), .list (datTs []), dp_L ((n2.same sz1).same sz2), dp_nil upd_same, shaped_L _, shaped_L _, _, rfl, ?_⟩
      rw [eqv_L]
      have bl2 := bl.on (((b1.same.trans b2.same).trans sz1).trans sz2)
      refine ite2 (fun h0 => ?_) fun h0 => ?_
      · have hz : (((mems G).take i).filter fun x => decide (notKill G sm x = [])).length < 100000 := by
          have := filter_take_le (l := mems G) i fun x => decide (notKill G sm x = [])
          omega
        obtain ⟨acc, k1, k2, bl3⟩ := bl2.step (p := ra) (y := x) (((((sX.trans b1.same).trans b2.same).trans sz1).trans sz2) _ _ (tLe _ hmem)) hz
        refine ⟨.ref l, rfl, .inl ⟨rfl, _, SqL.of k1⟩, .ref ra, rfl, l, acc, .ref ra, rfl, rfl, k1, k2, _, _, _, _, _, _, rfl, ?_⟩
        rw [filter_take _ hxm, if_pos h0]
        exact bl3
      · refine ⟨_, _, _, _, _, _, rfl, ?_⟩
        rw [filter_take _ hxm, if_neg h0, List.append_nil]
        exact bl2
    obtain ⟨y6, y8, y9, y10, y11, y12, rfl, bl⟩ := h
    rw [refs_len, List.take_of_length_le (by omega), span_filter] at bl
    have sA := s9.trans bl.same
    -- ASKS
    obtain ⟨Ll, eLl, hl, tLl⟩ := bl.is
    refine ⟨.ref e, rfl, e, rfl, ⟨_, SqL.of (sA _ _ hve)⟩, for_list (xs := refs Le) (fun i σ2 H2' => ∃ y6 y8 y9 y10 y11 y12, σ2 = [some (.ref p), some (.ref r), some (.ref b), some (.ref e), some (.ref s), some (.ref k), y6, some (.ref l), y8, y9, y10, y11, y12] ∧ Same H' H2')
      ⟨_, _, _, _, _, _, rfl, Same.refl H'⟩ (fun i σ2 H2' _ h => ?_) (fun i v σ2 H2' hi h => ?_) fun σ2 H2' h => ?_⟩
    · obtain ⟨_, _, _, _, _, _, _, sB⟩ := h
      exact SqL.of (sB _ _ (sA _ _ hve))
    · obtain ⟨z6, z8, z9, z10, z11, z12, rfl, sB⟩ := h
      obtain ⟨⟨ra, c⟩, hc, rfl⟩ := refs_at hi
      obtain ⟨hcm, hcM⟩ := step hc
      have hmem := List.mem_of_getElem? hc
      have sX := sA.trans sB
      refine ⟨.ref ra, rfl, .ref k, rfl, datT c, datTs (charsL G sm), dp_T (sX _ _ (tLe _ hmem)), dp_U ⟨Lk, eLk, sX _ _ hvk, tLk.same sX⟩, shaped_T _, shaped_U _, ?_⟩
      rw [any_T]
      refine ⟨.ref s, rfl, s, rfl, ⟨_, SqT.of (sX _ _ hvs)⟩, fun D1 hD1 => lc_tup (xs := refs Ls) (fun j H3' => BldI H2' D1 ((((spanL G sm).take j).filter fun x => !killB G c x).map fun _ => 1) H3') (BldI.start hD1) (fun j H3' _ b1 => SqT.of (b1.same _ _ (sX _ _ hvs))) (fun j v2 H3' hj b1 => ?_) fun H3' b1 => ?_⟩
      · obtain ⟨⟨rx, x⟩, hx, rfl⟩ := refs_at hj
        obtain ⟨hxm, hxM⟩ := chs hx
        have sY := sX.trans b1.same
        refine ⟨rfl, .ref r, rfl, .ref ra, rfl, .ref rx, rfl, r, ra, rx, G, c, x, rfl, sY _ _ lk.gr, sY _ _ (tLe _ hmem), sY _ _ (tLs _ (List.mem_of_getElem? hx)), gg, hcM, hxM, fun H4' s4' => ⟨_, rfl, ?_⟩⟩
        have b2 := b1.on s4'
        have hz : ((((spanL G sm).take j).filter fun x => !killB G c x).map fun _ => (1 : Int)).length < 100000 := by
          rw [List.length_map]
          have := filter_take_le (l := spanL G sm) j fun x => !killB G c x
          omega
        refine ite2 (fun h0 => ?_) fun h0 => ?_
        · obtain ⟨acc, k1, k2, b3⟩ := b2.step (y := 1) hz
          refine ⟨acc, k1, k2, ?_⟩
          rw [filter_take _ hxm, if_pos h0, List.map_append]
          exact b3
        · rw [filter_take _ hxm, if_neg h0, List.append_nil]
          exact b2
      rw [refs_len, List.take_of_length_le (by omega)] at b1
      refine ⟨Nat.zero_le _, fun z nz => ?_⟩
      have sz1 := same_upd (o := .lst []) nz
      refine ⟨.list (((notKilled G sm c).map fun _ => (1 : Int)).map PyData.int), .list (([] : List Int).map PyData.int), dp_I (sz1 _ _ b1.is), dp_nilI upd_same, shaped_I _, shaped_I _, rfl, false, ne_bl ?_, z6, z8, _, z10, z11, z12, rfl, (sB.trans b1.same).trans sz1⟩
      rw [eqv_I]
      refine decide_eq_decide.mpr ?_
      rw [List.map_eq_nil_iff]
      exact (notKilled_nil hp hM hcM).symm
    obtain ⟨z6, z8, z9, z10, z11, z12, rfl, sB⟩ := h
    have sC := sA.trans sB
    have hspS : TupOf H2' s (spanL G sm) := ⟨Ls, eLs, sC _ _ hvs, tLs.same sC⟩
    -- told
    refine ⟨.ref r, rfl, .ref s, rfl, .ref r, .ref s, rfl, r, s, G, spanL G sm, rfl, sC _ _ lk.gr, hspS, gg, fun x => spanL_isM, hsl, fun H3' t1 s3 h1 => ⟨.ref r, rfl, .ref l, rfl, l, refs Ll, rfl, .inl ⟨SqL.of (s3 _ _ (sB _ _ hl)), fun tl ntl => ?_⟩⟩⟩
    have s4 := s3.trans (same_upd (o := .tup (refs Ll)) ntl)
    refine ⟨r, tl, G, spanL G sm, rfl, s4 _ _ (sC _ _ lk.gr), ⟨Ll, eLl, upd_same, (tLl.same sB).same s4⟩, gg, fun x => spanL_isM, fun H4' t2 s5 h2 => ?_⟩
    have s6 := s4.trans s5
    refine ⟨.ref s, rfl, .ref r, rfl, .ref s, .ref r, rfl, r, s, G, spanL G sm, rfl, s6 _ _ (sC _ _ lk.gr), hspS.same s6, gg, fun x => spanL_isM, fun H5' t3 s7 h3 => ⟨sz (by show 3 ≤ 100000; decide), fun T nT => ?_⟩⟩
    have s8 := same_upd (o := .lst [V.ref t1, V.ref t2, V.ref t3]) nT
    rw [chars_span hp hM] at h1
    rw [span_span hp hM] at h2 h3
    have h1' := (((h1.same (same_upd ntl)).same s5).same s7).same s8
    have h2' := (h2.same s7).same s8
    have h3' := h3.same s8
    have s9 := sC.trans ((s6.trans s7).trans s8)
    have ok3 := L3_ok hsmK hsmS hsmS
    refine ⟨.ref T, rfl, T, datL3 (charsL G sm) (spanL G sm) (spanL G sm), rfl, .lst (SqL.of upd_same) (.cons (dp_U h1') (.cons (dp_U h2') (.cons (dp_U h3') .nil))), ok3.1, ok3.2.1, ok3.2.2.1, ok3.2.2.2,
      .ref k, rfl, .ref s, rfl, .ref s, rfl, sz (by show 3 ≤ 100000; decide), fun T2 nT2 => ?_⟩
    have s10 := s9.trans (same_upd (o := .lst [V.ref k, V.ref s, V.ref s]) nT2)
    have hk10 : TupOf _ k (charsL G sm) := ⟨Lk, eLk, s10 _ _ hvk, tLk.same s10⟩
    have hs10 : TupOf _ s (spanL G sm) := ⟨Ls, eLs, s10 _ _ hvs, tLs.same s10⟩
    refine ⟨T2, datL3 (charsL G sm) (spanL G sm) (spanL G sm), rfl, .lst (SqL.of upd_same) (.cons (dp_U hk10) (.cons (dp_U hs10) (.cons (dp_U hs10) .nil))), ok3.1, ok3.2.1, ok3.2.2.1, ok3.2.2.2, rfl, ?_⟩
    show Q (V.bl (decide (V.str _ = V.str _))) _
    rw [eq_str]
    exact q _ (lk.stk.same s10)
end
end K25
set_option Elab.async false
set_option linter.all false
set_option maxRecDepth 100000
set_option maxHeartbeats 8000000
namespace K25
open PySem PySem.Spec PyProof.Rows L2
theorem rd_int {t : TA} {x : List Int} (h : RdI t x) (hx : x.length ≤ 1000) {sg : L2.St} {H : Hp} {Q : VK} (q : ∀ a H', Same H H' → Ints H' a x → Q (.ref a) H') : tTup t sg H Q := by
  refine h sg H _ ⟨sz (by rw [List.length_map]; omega), fun a na => ?_⟩
  exact q a _ (same_upd na) upd_same
theorem rd_tup {t : TA} {xss : List (List Int)} (h : RdT t xss) (hx : xss.length ≤ 1000) {sg : L2.St} {H : Hp} {Q : VK} (q : ∀ a H', Same H H' → TupOf H' a xss → Q (.ref a) H') : tTup t sg H Q := by
  refine h sg H _ fun L H1 e s t => ⟨sz (by rw [refs_len, ← vals_len, e]; omega), fun a na => ?_⟩
  have s1 := same_upd (o := .tup (refs L)) na
  exact q a _ (s.trans s1) ⟨L, e, upd_same, t.same s1⟩
theorem r_seq {te : TE} {u : TS} {i : Nat} {D : Ends} {sg : L2.St} {H : Hp} (h : te sg H fun x H1 => u D (sg.set i (some x)) H1) : tSeq (tAsg te (gName i)) u D sg H := h
theorem r_lst {ta : TA} {sg : L2.St} {H : Hp} {Q : VK} (h : ta sg H fun vs H1 => vs.length ≤ sizeLine ∧ ∀ p, H1 p = none → Q (.ref p) (upd H1 p (.lst vs))) : tLst ta sg H Q := h
theorem r_cons {te : TE} {ta : TA} {sg : L2.St} {H : Hp} {Q : List V → Hp → Prop} (h : te sg H fun x H1 => ta sg H1 fun vs H2 => Q (x :: vs) H2) : tCons te ta sg H Q := h
theorem r_nil {sg : L2.St} {H : Hp} {Q : List V → Hp → Prop} (h : Q [] H) : tNil sg H Q := h
theorem r_call {sp : Sp} {ta : TA} {sg : L2.St} {H : Hp} {Q : VK} (h : ta sg H fun vs H1 => sp (vs ++ []) H1 Q E0) : tCall sp [] E0 ta sg H Q := h
theorem val1 : spanL [12] [[8], [6]] = [[0], [2], [4], [6], [8], [10]] := by decide +kernel
theorem val2 : charsL [12] [[8], [6]] = [[0], [6]] := by decide +kernel
theorem val3 : charsL [2, 4] [[1, 1]] = [[0, 0], [1, 2]] := by decide +kernel
theorem im1 : ∀ x ∈ ([[8], [6]] : List (List Int)), IsM [12] x := fun x h => mem_mems.mp ((by decide +kernel : ∀ x ∈ ([[8], [6]] : List (List Int)), x ∈ mems [12]) x h)
theorem im2 : ∀ x ∈ ([[1, 1]] : List (List Int)), IsM [2, 4] x := fun x h => mem_mems.mp ((by decide +kernel : ∀ x ∈ ([[1, 1]] : List (List Int)), x ∈ mems [2, 4]) x h)
theorem smal1 : Smal [[0], [2], [4], [6], [8], [10]] := by unfold Smal; decide
theorem smal2 : Smal [[0], [6]] := by unfold Smal; decide
theorem smal3 : Smal [[0, 0], [1, 2]] := by unfold Smal; decide
theorem grp12 : Grp [12] := grp_of (by decide)
theorem grp24 : Grp [2, 4] := grp_of (by decide)
section
variable {P : Program} {w : World} {K : PySem.W.Frag} {mg : Str → Option Value} {base : Heap} {f : Addr} {fd : FuncData}
/-! ### law -/
def spLaw (K : PySem.W.Frag) : Sp := fun vs H Q _ => ∃ (a : Addr) (ns : List Int), vs = [.ref a] ∧ SqL K H a (ns.map V.int) ∧ ns.length ≤ 63 ∧ ∀ H', Q (.bl true) H'
/-- what law calls -/
structure Calls1 (P : Program) (w : World) (K : PySem.W.Frag) (mg : Str → Option Value) (base : Heap) : Prop where
  stock : Keeps P w K mg base 1 "_law_stock" ["_law_script"] (spStock K)
  even : ∃ f fd, FnG P w K mg base 4 f fd ["_law_stock_here"] spEven ∧ mg "_law_are_even" = some (.ref f) ∧ PySem.W.keepIn K (.ref f) = true ∧ Binds K fd ["_law_stock_here"] []
  span : Keeps P w K mg base 2 "span" ["group", "some"] spSpan
  chars : Keeps P w K mg base 3 "characters" ["group", "some"] spChars
  mr : mg "range" = none
  mp : mg "repr" = none
theorem ok_law (S : Stands K mg "law" sLaw f fd) (C : Calls1 P w K mg base) : FnG P w K mg base 5 f fd ["_law_script"] (spLaw K) := by
  refine fnG_of S.fn scLaw (fun vs H Q E h => ?_) (fun cdv A outer s0 H vs Q E hgd hr h => ?_)
  · obtain ⟨a, ns, rfl, _⟩ := h
    rfl
  · obtain ⟨a, ns, rfl, ha, hlen, q⟩ := h
    obtain ⟨fe, fde, even, ge, ke, be⟩ := C.even
    have h64 := hr.units
    have r1 : Room 1 (A.deeper (envOfC "law" (defScope sLaw) s0.heap.objs.size f cdv)) := hr.mono (by decide)
    have r2 : Room 2 (A.deeper (envOfC "law" (defScope sLaw) s0.heap.objs.size f cdv)) := hr.mono (by decide)
    have r3 : Room 3 (A.deeper (envOfC "law" (defScope sLaw) s0.heap.objs.size f cdv)) := hr.mono (by decide)
    refine ⟨_, pss_cons (ps_set (i := 1) scLaw.nd rfl (.inl rfl) (pe_callD C.stock r1 (pa_cons (pv 0) pa_nil)))
      (pss_cons (ps_for PassesOwn.never rfl (pi_range1 (by rfl) C.mr (pa_cons pe_int pa_nil)) (pg_name (i := 2) scLaw.nd rfl (.inl rfl))
        (pss_one (ps_if (pt_not (pt_val (pe_callG even hgd hr (by rfl) ge ke be (pa_cons (pv 1) pa_nil)))) (pss_one (ps_ret pe_bl)) pss_nil)))
      (pss_cons (ps_set (i := 3) scLaw.nd rfl (.inl rfl) (pe_lst
        (pa_cons (pe_callD C.span r2 (pa_cons (pe_tup (pa_cons pe_int pa_nil)) (pa_cons (pe_tup (pa_cons (pe_tup (pa_cons pe_int pa_nil)) (pa_cons (pe_tup (pa_cons pe_int pa_nil)) pa_nil))) pa_nil)))
        (pa_cons (pe_callD C.chars r3 (pa_cons (pe_tup (pa_cons pe_int pa_nil)) (pa_cons (pe_tup (pa_cons (pe_tup (pa_cons pe_int pa_nil)) (pa_cons (pe_tup (pa_cons pe_int pa_nil)) pa_nil))) pa_nil)))
        (pa_cons (pe_callD C.chars r3 (pa_cons (pe_tup (pa_cons pe_int (pa_cons pe_int pa_nil))) (pa_cons (pe_tup (pa_cons (pe_tup (pa_cons pe_int (pa_cons pe_int pa_nil))) pa_nil)) pa_nil))) pa_nil)))))
      (pss_cons (ps_set (i := 4) scLaw.nd rfl (.inl rfl) (pe_lst
        (pa_cons (pe_tup (pa_cons (pe_tup (pa_cons pe_int pa_nil)) (pa_cons (pe_tup (pa_cons pe_int pa_nil)) (pa_cons (pe_tup (pa_cons pe_int pa_nil)) (pa_cons (pe_tup (pa_cons pe_int pa_nil)) (pa_cons (pe_tup (pa_cons pe_int pa_nil)) (pa_cons (pe_tup (pa_cons pe_int pa_nil)) pa_nil)))))))
        (pa_cons (pe_tup (pa_cons (pe_tup (pa_cons pe_int pa_nil)) (pa_cons (pe_tup (pa_cons pe_int pa_nil)) pa_nil)))
        (pa_cons (pe_tup (pa_cons (pe_tup (pa_cons pe_int (pa_cons pe_int pa_nil))) (pa_cons (pe_tup (pa_cons pe_int (pa_cons pe_int pa_nil))) pa_nil))) pa_nil)))))
      (pss_one (ps_ret (pe_cmpR op_eq (pe_callB (cr_reprD hgd h64) (by rfl) C.mp (by decide +kernel) (pa_cons (pv 3) pa_nil)) (pe_callB (cr_reprD hgd h64) (by rfl) C.mp (by decide +kernel) (pa_cons (pv 4) pa_nil)) (nomark _))))))), ?_⟩
    refine ⟨.ref a, rfl, a, ns, rfl, ha, hlen, fun H1 p g fl s1 hst => ⟨4, rfl, by decide, by decide, for_range (lo := 0) (n := 4) (fun i σ H => ∃ y2, σ = [some (.ref a), some (.ref p), y2, none, none] ∧ Stk p g fl H) ⟨none, rfl, hst⟩ (fun i σ H hi h => ?_) fun σ H h => ?_⟩⟩
    · obtain ⟨y2, rfl, hs⟩ := h
      exact ⟨.ref p, rfl, p, g, fl, rfl, hs, fun H2 hs2 => ⟨true, rfl, _, rfl, hs2⟩⟩
    obtain ⟨y2, rfl, hs⟩ := h
    clear hs ha
    show tSeq _ _ _ _ _
    have i1 : RdI (tCons (tC (.int 12)) tNil) [12] := RdI.cons RdI.nil
    have i2 : RdT (tCons (tTup (tCons (tC (.int 8)) tNil)) (tCons (tTup (tCons (tC (.int 6)) tNil)) tNil)) [[8], [6]] := RdT.cons (by decide) (RdI.cons RdI.nil) (RdT.cons (by decide) (RdI.cons RdI.nil) RdT.nil)
    have i3 : RdI (tCons (tC (.int 2)) (tCons (tC (.int 4)) tNil)) [2, 4] := RdI.cons (RdI.cons RdI.nil)
    have i4 : RdT (tCons (tTup (tCons (tC (.int 1)) (tCons (tC (.int 1)) tNil))) tNil) [[1, 1]] := RdT.cons (by decide) (RdI.cons (RdI.cons RdI.nil)) RdT.nil
    refine r_seq (r_lst (r_cons (r_call (r_cons (rd_int i1 (by decide) fun a1 H1 s1 h1 => r_cons (rd_tup i2 (by decide) fun a2 H2 s2 h2 => r_nil ?_))))))
    refine ⟨a1, a2, [12], [[8], [6]], rfl, s2 _ _ h1, h2, grp12, im1, fun H3 t1 s3 g1 => r_cons (r_call (r_cons (rd_int i1 (by decide) fun a3 H4 s4 h3 => r_cons (rd_tup i2 (by decide) fun a4 H5 s5 h4 => r_nil ?_))))⟩
    refine ⟨a3, a4, [12], [[8], [6]], rfl, s5 _ _ h3, h4, grp12, im1, by decide, fun H6 t2 s6 g2 => r_cons (r_call (r_cons (rd_int i3 (by decide) fun a5 H7 s7 h5 => r_cons (rd_tup i4 (by decide) fun a6 H8 s8 h6 => r_nil ?_))))⟩
    refine ⟨a5, a6, [2, 4], [[1, 1]], rfl, s8 _ _ h5, h6, grp24, im2, by decide, fun H9 t3 s9 g3 => r_nil ⟨sz (by show 3 ≤ 100000; decide), fun T nT => ?_⟩⟩
    rw [val1] at g1
    rw [val2] at g2
    rw [val3] at g3
    have sT := same_upd (o := .lst [V.ref t1, V.ref t2, V.ref t3]) nT
    have g1' := ((g1.same ((s4.trans s5).trans s6)).same ((s7.trans s8).trans s9)).same sT
    have g2' := (g2.same ((s7.trans s8).trans s9)).same sT
    have g3' := g3.same sT
    -- due
    have j1 : RdT (tCons (tTup (tCons (tC (.int 0)) tNil)) (tCons (tTup (tCons (tC (.int 2)) tNil)) (tCons (tTup (tCons (tC (.int 4)) tNil)) (tCons (tTup (tCons (tC (.int 6)) tNil)) (tCons (tTup (tCons (tC (.int 8)) tNil)) (tCons (tTup (tCons (tC (.int 10)) tNil)) tNil)))))) [[0], [2], [4], [6], [8], [10]] :=
      RdT.cons (by decide) (RdI.cons RdI.nil) (RdT.cons (by decide) (RdI.cons RdI.nil) (RdT.cons (by decide) (RdI.cons RdI.nil) (RdT.cons (by decide) (RdI.cons RdI.nil) (RdT.cons (by decide) (RdI.cons RdI.nil) (RdT.cons (by decide) (RdI.cons RdI.nil) RdT.nil)))))
    have j2 : RdT (tCons (tTup (tCons (tC (.int 0)) tNil)) (tCons (tTup (tCons (tC (.int 6)) tNil)) tNil)) [[0], [6]] := RdT.cons (by decide) (RdI.cons RdI.nil) (RdT.cons (by decide) (RdI.cons RdI.nil) RdT.nil)
    have j3 : RdT (tCons (tTup (tCons (tC (.int 0)) (tCons (tC (.int 0)) tNil))) (tCons (tTup (tCons (tC (.int 1)) (tCons (tC (.int 2)) tNil))) tNil)) [[0, 0], [1, 2]] := RdT.cons (by decide) (RdI.cons (RdI.cons RdI.nil)) (RdT.cons (by decide) (RdI.cons (RdI.cons RdI.nil)) RdT.nil)
    refine r_seq (r_lst (r_cons (rd_tup j1 (by decide) fun d1 K1 u1 k1 => r_cons (rd_tup j2 (by decide) fun d2 K2 u2 k2 => r_cons (rd_tup j3 (by decide) fun d3 K3 u3 k3 => r_nil ⟨sz (by show 3 ≤ 100000; decide), fun T2 nT2 => ?_⟩)))))
    have sT2 := same_upd (o := .lst [V.ref d1, V.ref d2, V.ref d3]) nT2
    have hT : upd K3 T2 (.lst [V.ref d1, V.ref d2, V.ref d3]) T = some (.lst [V.ref t1, V.ref t2, V.ref t3]) := sT2 _ _ (((u1.trans u2).trans u3) _ _ upd_same)
    have sU := ((u1.trans u2).trans u3).trans sT2
    have ok3 := L3_ok smal1 smal2 smal3
    refine ⟨.ref T, rfl, T, datL3 [[0], [2], [4], [6], [8], [10]] [[0], [6]] [[0, 0], [1, 2]], rfl, .lst (SqL.of hT) (.cons (dp_U (g1'.same sU)) (.cons (dp_U (g2'.same sU)) (.cons (dp_U (g3'.same sU)) .nil))), ok3.1, ok3.2.1, ok3.2.2.1, ok3.2.2.2,
      .ref T2, rfl, T2, datL3 [[0], [2], [4], [6], [8], [10]] [[0], [6]] [[0, 0], [1, 2]], rfl, .lst (SqL.of upd_same) (.cons (dp_U ((k1.same (u2.trans u3)).same sT2)) (.cons (dp_U ((k2.same u3).same sT2)) (.cons (dp_U (k3.same sT2)) .nil))), ok3.1, ok3.2.1, ok3.2.2.1, ok3.2.2.2, rfl, ?_⟩
    show Q (V.bl (decide (V.str _ = V.str _))) _
    rw [eq_str]
    exact q _
end
end K25
set_option Elab.async false
set_option linter.all false
set_option maxRecDepth 100000
set_option maxHeartbeats 8000000
namespace K25
open PySem PySem.Spec PyProof.Rows L2
theorem stands_of {K : PySem.W.Frag} {mg : Str → Option Value} {x : Str} {st : Stmt} {f : Addr} {fd : FuncData} (F : Fun K x x st f fd) (g : mg x = some (.ref f)) : Stands K mg x st f fd := ⟨F, g⟩
theorem all_mk {l : PySem.W.OpenLaw} {w : World} {K : PySem.W.Frag} {h : Heap} {mg : Str → Option Value} {fa f1 f2 f3 f4 f5 f6 f7 f8 f9 f10 f11 f12 f13 f14 f15 f16 f17 : Addr} (X : K.In h) (G : h.Ns mainGlobals mg) (hfa : mg "law" = some (.ref fa))
    {od1 an1 od2 an2 od3 an3 od4 an4 od5 an5 od6 an6 od7 an7 od8 an8 od9 an9 od10 an10 od11 an11 od12 an12 od13 an13 od14 an14 od15 an15 od16 an16 od17 an17 : Option Addr} {sl1 sl2 sl3 sl4 sl5 sl6 sl7 sl8 sl9 sl10 sl11 sl12 sl13 sl14 sl15 sl16 sl17 : Array (Option Value)} {oc1 kV1 dc1 pm1 cd1 ct1 oc2 kV2 dc2 pm2 cd2 ct2 oc3 kV3 dc3 pm3 cd3 ct3 oc4 kV4 dc4 pm4 cd4 ct4 oc5 kV5 dc5 pm5 cd5 ct5 oc6 kV6 dc6 pm6 cd6 ct6 oc7 kV7 dc7 pm7 cd7 ct7 oc8 kV8 dc8 pm8 cd8 ct8 oc9 kV9 dc9 pm9 cd9 ct9 oc10 kV10 dc10 pm10 cd10 ct10 oc11 kV11 dc11 pm11 cd11 ct11 oc12 kV12 dc12 pm12 cd12 ct12 oc13 kV13 dc13 pm13 cd13 ct13 oc14 kV14 dc14 pm14 cd14 ct14 oc15 kV15 dc15 pm15 cd15 ct15 oc16 kV16 dc16 pm16 cd16 ct16 oc17 kV17 dc17 pm17 cd17 ct17 : Value}
    (a1 : PySem.W.nsIn K mainGlobals "zero_of" = some (some (.ref f1))) (l1 : K.lookup f1 = some ⟨oc1, od1, .func (PySem.W.fnOf "zero_of" "zero_of" (defArgs sZero) (defBody sZero) (defScope sZero) .none kV1 dc1 pm1 an1 cd1 ct1), sl1⟩) (c1 : PySem.W.codeIn K cd1 "zero_of" = true) (k1 : PySem.W.keepIn K (.ref f1) = true)
    (a2 : PySem.W.nsIn K mainGlobals "lengthened" = some (some (.ref f2))) (l2 : K.lookup f2 = some ⟨oc2, od2, .func (PySem.W.fnOf "lengthened" "lengthened" (defArgs sLen) (defBody sLen) (defScope sLen) .none kV2 dc2 pm2 an2 cd2 ct2), sl2⟩) (c2 : PySem.W.codeIn K cd2 "lengthened" = true) (k2 : PySem.W.keepIn K (.ref f2) = true)
    (a3 : PySem.W.nsIn K mainGlobals "group_members" = some (some (.ref f3))) (l3 : K.lookup f3 = some ⟨oc3, od3, .func (PySem.W.fnOf "group_members" "group_members" (defArgs sMem) (defBody sMem) (defScope sMem) .none kV3 dc3 pm3 an3 cd3 ct3), sl3⟩) (c3 : PySem.W.codeIn K cd3 "group_members" = true) (k3 : PySem.W.keepIn K (.ref f3) = true)
    (a4 : PySem.W.nsIn K mainGlobals "added" = some (some (.ref f4))) (l4 : K.lookup f4 = some ⟨oc4, od4, .func (PySem.W.fnOf "added" "added" (defArgs sAdd) (defBody sAdd) (defScope sAdd) .none kV4 dc4 pm4 an4 cd4 ct4), sl4⟩) (c4 : PySem.W.codeIn K cd4 "added" = true) (k4 : PySem.W.keepIn K (.ref f4) = true)
    (a5 : PySem.W.nsIn K mainGlobals "span" = some (some (.ref f5))) (l5 : K.lookup f5 = some ⟨oc5, od5, .func (PySem.W.fnOf "span" "span" (defArgs sSpan) (defBody sSpan) (defScope sSpan) .none kV5 dc5 pm5 an5 cd5 ct5), sl5⟩) (c5 : PySem.W.codeIn K cd5 "span" = true) (k5 : PySem.W.keepIn K (.ref f5) = true)
    (a6 : PySem.W.nsIn K mainGlobals "kills" = some (some (.ref f6))) (l6 : K.lookup f6 = some ⟨oc6, od6, .func (PySem.W.fnOf "kills" "kills" (defArgs sKills) (defBody sKills) (defScope sKills) .none kV6 dc6 pm6 an6 cd6 ct6), sl6⟩) (c6 : PySem.W.codeIn K cd6 "kills" = true) (k6 : PySem.W.keepIn K (.ref f6) = true)
    (a7 : PySem.W.nsIn K mainGlobals "characters" = some (some (.ref f7))) (l7 : K.lookup f7 = some ⟨oc7, od7, .func (PySem.W.fnOf "characters" "characters" (defArgs sChars) (defBody sChars) (defScope sChars) .none kV7 dc7 pm7 an7 cd7 ct7), sl7⟩) (c7 : PySem.W.codeIn K cd7 "characters" = true) (k7 : PySem.W.keepIn K (.ref f7) = true)
    (a8 : PySem.W.nsIn K mainGlobals "_law_stock" = some (some (.ref f8))) (l8 : K.lookup f8 = some ⟨oc8, od8, .func (PySem.W.fnOf "_law_stock" "_law_stock" (defArgs sStock) (defBody sStock) (defScope sStock) .none kV8 dc8 pm8 an8 cd8 ct8), sl8⟩) (c8 : PySem.W.codeIn K cd8 "_law_stock" = true) (k8 : PySem.W.keepIn K (.ref f8) = true)
    (a9 : PySem.W.nsIn K mainGlobals "_law_draw" = some (some (.ref f9))) (l9 : K.lookup f9 = some ⟨oc9, od9, .func (PySem.W.fnOf "_law_draw" "_law_draw" (defArgs sDraw) (defBody sDraw) (defScope sDraw) .none kV9 dc9 pm9 an9 cd9 ct9), sl9⟩) (c9 : PySem.W.codeIn K cd9 "_law_draw" = true) (k9 : PySem.W.keepIn K (.ref f9) = true)
    (a10 : PySem.W.nsIn K mainGlobals "_law_pick" = some (some (.ref f10))) (l10 : K.lookup f10 = some ⟨oc10, od10, .func (PySem.W.fnOf "_law_pick" "_law_pick" (defArgs sPick) (defBody sPick) (defScope sPick) .none kV10 dc10 pm10 an10 cd10 ct10), sl10⟩) (c10 : PySem.W.codeIn K cd10 "_law_pick" = true) (k10 : PySem.W.keepIn K (.ref f10) = true)
    (a11 : PySem.W.nsIn K mainGlobals "_law_members" = some (some (.ref f11))) (l11 : K.lookup f11 = some ⟨oc11, od11, .func (PySem.W.fnOf "_law_members" "_law_members" (defArgs sLMem) (defBody sLMem) (defScope sLMem) .none kV11 dc11 pm11 an11 cd11 ct11), sl11⟩) (c11 : PySem.W.codeIn K cd11 "_law_members" = true) (k11 : PySem.W.keepIn K (.ref f11) = true)
    (a12 : PySem.W.nsIn K mainGlobals "_law_group" = some (some (.ref f12))) (l12 : K.lookup f12 = some ⟨oc12, od12, .func (PySem.W.fnOf "_law_group" "_law_group" (defArgs sGroup) (defBody sGroup) (defScope sGroup) .none kV12 dc12 pm12 an12 cd12 ct12), sl12⟩) (c12 : PySem.W.codeIn K cd12 "_law_group" = true) (k12 : PySem.W.keepIn K (.ref f12) = true)
    (a13 : PySem.W.nsIn K mainGlobals "_law_element" = some (some (.ref f13))) (l13 : K.lookup f13 = some ⟨oc13, od13, .func (PySem.W.fnOf "_law_element" "_law_element" (defArgs sElem) (defBody sElem) (defScope sElem) .none kV13 dc13 pm13 an13 cd13 ct13), sl13⟩) (c13 : PySem.W.codeIn K cd13 "_law_element" = true) (k13 : PySem.W.keepIn K (.ref f13) = true)
    (a14 : PySem.W.nsIn K mainGlobals "_law_kills" = some (some (.ref f14))) (l14 : K.lookup f14 = some ⟨oc14, od14, .func (PySem.W.fnOf "_law_kills" "_law_kills" (defArgs sLKills) (defBody sLKills) (defScope sLKills) .none kV14 dc14 pm14 an14 cd14 ct14), sl14⟩) (c14 : PySem.W.codeIn K cd14 "_law_kills" = true) (k14 : PySem.W.keepIn K (.ref f14) = true)
    (a15 : PySem.W.nsIn K mainGlobals "_law_wide" = some (some (.ref f15))) (l15 : K.lookup f15 = some ⟨oc15, od15, .func (PySem.W.fnOf "_law_wide" "_law_wide" (defArgs sWide) (defBody sWide) (defScope sWide) .none kV15 dc15 pm15 an15 cd15 ct15), sl15⟩) (c15 : PySem.W.codeIn K cd15 "_law_wide" = true) (k15 : PySem.W.keepIn K (.ref f15) = true)
    (a16 : PySem.W.nsIn K mainGlobals "_law_are_even" = some (some (.ref f16))) (l16 : K.lookup f16 = some ⟨oc16, od16, .func (PySem.W.fnOf "_law_are_even" "_law_are_even" (defArgs sEven) (defBody sEven) (defScope sEven) .none kV16 dc16 pm16 an16 cd16 ct16), sl16⟩) (c16 : PySem.W.codeIn K cd16 "_law_are_even" = true) (k16 : PySem.W.keepIn K (.ref f16) = true)
    (a17 : PySem.W.nsIn K mainGlobals "law" = some (some (.ref f17))) (l17 : K.lookup f17 = some ⟨oc17, od17, .func (PySem.W.fnOf "law" "law" (defArgs sLaw) (defBody sLaw) (defScope sLaw) .none kV17 dc17 pm17 an17 cd17 ct17), sl17⟩) (c17 : PySem.W.codeIn K cd17 "law" = true) (k17 : PySem.W.keepIn K (.ref f17) = true)
    (z1 : PySem.W.nsIn K mainGlobals "len" = some none)
    (z2 : PySem.W.nsIn K mainGlobals "tuple" = some none)
    (z3 : PySem.W.nsIn K mainGlobals "range" = some none)
    (z4 : PySem.W.nsIn K mainGlobals "zip" = some none)
    (z5 : PySem.W.nsIn K mainGlobals "sum" = some none)
    (z6 : PySem.W.nsIn K mainGlobals "all" = some none)
    (z7 : PySem.W.nsIn K mainGlobals "sorted" = some none)
    (z8 : PySem.W.nsIn K mainGlobals "list" = some none)
    (z9 : PySem.W.nsIn K mainGlobals "int" = some none)
    (z10 : PySem.W.nsIn K mainGlobals "repr" = some none)
    (z11 : PySem.W.nsIn K mainGlobals "isinstance" = some none)
    (z0 : PySem.W.nsIn K mainGlobals "lcm" = some (some (.builtin "math.lcm"))) :
    ∃ (K : PySem.W.Frag) (fd : FuncData) (sp : Sp), K.In h ∧ (∀ (s : Shared) (u : Value), BindsTo s fd ⟨[u], []⟩ [("_law_script", u)]) ∧
      (∀ (H : Hp) (a : Addr) (ns : List Int), ns.length ≤ 63 → Only H → SqL K H a (ns.map V.int) → sp [.ref a] H (fun v _ => v = .bl true) E0) ∧
      ∀ base : Heap, K.In base → base.Ns mainGlobals mg → FnG l.prog w K mg base 5 fa fd ["_law_script"] sp := by
  have e := hfa.symm.trans (PySem.W.mg_of X G a17)
  cases e
  have S1 : Stands K mg "zero_of" sZero f1 _ := ⟨fun_mk (st := sZero) l1 c1 k1, PySem.W.mg_of X G a1⟩
  have S2 : Stands K mg "lengthened" sLen f2 _ := ⟨fun_mk (st := sLen) l2 c2 k2, PySem.W.mg_of X G a2⟩
  have S3 : Stands K mg "group_members" sMem f3 _ := ⟨fun_mk (st := sMem) l3 c3 k3, PySem.W.mg_of X G a3⟩
  have S4 : Stands K mg "added" sAdd f4 _ := ⟨fun_mk (st := sAdd) l4 c4 k4, PySem.W.mg_of X G a4⟩
  have S5 : Stands K mg "span" sSpan f5 _ := ⟨fun_mk (st := sSpan) l5 c5 k5, PySem.W.mg_of X G a5⟩
  have S6 : Stands K mg "kills" sKills f6 _ := ⟨fun_mk (st := sKills) l6 c6 k6, PySem.W.mg_of X G a6⟩
  have S7 : Stands K mg "characters" sChars f7 _ := ⟨fun_mk (st := sChars) l7 c7 k7, PySem.W.mg_of X G a7⟩
  have S8 : Stands K mg "_law_stock" sStock f8 _ := ⟨fun_mk (st := sStock) l8 c8 k8, PySem.W.mg_of X G a8⟩
  have S9 : Stands K mg "_law_draw" sDraw f9 _ := ⟨fun_mk (st := sDraw) l9 c9 k9, PySem.W.mg_of X G a9⟩
  have S10 : Stands K mg "_law_pick" sPick f10 _ := ⟨fun_mk (st := sPick) l10 c10 k10, PySem.W.mg_of X G a10⟩
  have S11 : Stands K mg "_law_members" sLMem f11 _ := ⟨fun_mk (st := sLMem) l11 c11 k11, PySem.W.mg_of X G a11⟩
  have S12 : Stands K mg "_law_group" sGroup f12 _ := ⟨fun_mk (st := sGroup) l12 c12 k12, PySem.W.mg_of X G a12⟩
  have S13 : Stands K mg "_law_element" sElem f13 _ := ⟨fun_mk (st := sElem) l13 c13 k13, PySem.W.mg_of X G a13⟩
  have S14 : Stands K mg "_law_kills" sLKills f14 _ := ⟨fun_mk (st := sLKills) l14 c14 k14, PySem.W.mg_of X G a14⟩
  have S15 : Stands K mg "_law_wide" sWide f15 _ := ⟨fun_mk (st := sWide) l15 c15 k15, PySem.W.mg_of X G a15⟩
  have S16 : Stands K mg "_law_are_even" sEven f16 _ := ⟨fun_mk (st := sEven) l16 c16 k16, PySem.W.mg_of X G a16⟩
  have S17 : Stands K mg "law" sLaw fa _ := ⟨fun_mk (st := sLaw) l17 c17 k17, PySem.W.mg_of X G a17⟩
  have m_len := PySem.W.mg_none_of X G z1
  have m_tuple := PySem.W.mg_none_of X G z2
  have m_range := PySem.W.mg_none_of X G z3
  have m_zip := PySem.W.mg_none_of X G z4
  have m_sum := PySem.W.mg_none_of X G z5
  have m_all := PySem.W.mg_none_of X G z6
  have m_sorted := PySem.W.mg_none_of X G z7
  have m_list := PySem.W.mg_none_of X G z8
  have m_int := PySem.W.mg_none_of X G z9
  have m_repr := PySem.W.mg_none_of X G z10
  have m_isinstance := PySem.W.mg_none_of X G z11
  have m_lcm := PySem.W.mg_of X G z0
  refine ⟨K, PySem.W.fnOf "law" "law" (defArgs sLaw) (defBody sLaw) (defScope sLaw) .none kV17 dc17 pm17 an17 cd17 ct17, spLaw K, X, fun s v => .of_eq rfl, fun H a ns hl _ hS => ⟨a, ns, rfl, hS, hl, fun _ => rfl⟩, fun base _ _ => ?_⟩
  have zero := ok_zero (P := l.prog) (w := w) (base := base) S1 m_len
  have len := ok_len (P := l.prog) (w := w) (base := base) S2 m_range
  have mem := ok_mem S3 len m_tuple
  have addd := ok_add (P := l.prog) (w := w) (base := base) S4 m_tuple m_zip
  have fspan := fn_span S5 zero addd m_tuple m_sorted m_list
  have span := ok_span S5 zero addd m_tuple m_sorted m_list
  have kill := ok_kills (P := l.prog) (w := w) (base := base) S6 m_lcm m_zip m_sum
  have fchars := fn_chars S7 mem kill m_tuple m_all
  have chars := ok_chars S7 mem kill m_tuple m_all
  have stock := ok_stock (P := l.prog) (w := w) (base := base) S8 m_len m_sum
  have draw := ok_draw (P := l.prog) (w := w) (base := base) S9 m_len m_int
  have pick := ok_pick S10 draw m_len
  have lmem := ok_lmem (P := l.prog) (w := w) (base := base) S11 m_range m_list
  have group := ok_group S12 pick
  have elem := ok_elem S13 draw m_tuple
  have lkill := ok_lkills (P := l.prog) (w := w) (base := base) S14 m_int m_zip
  have wide := ok_wide S15 pick
  have even := ok_even S16 ⟨draw, wide, group, elem, lmem, span, S5.keepsK fspan (fun _ _ _ _ _ _ _ _ => rfl), chars, S7.keepsK fchars (fun _ _ _ _ _ _ _ _ => rfl), mem, kill, lkill, m_len, m_tuple, m_range, m_repr, m_isinstance⟩
  exact ok_law S17 ⟨stock, ⟨_, _, even, S16.gl, S16.fn.kp, S16.fn.binds (fun _ _ _ _ _ _ us hl => match us, hl with | [_], _ => rfl)⟩, span, chars, m_range, m_repr⟩
end K25
open PySem PySem.W PyProof.Rows
set_option maxRecDepth 100000 in
set_option maxHeartbeats 0 in
theorem PySem.Challenge.cw_onlyhigher_k25_whole_spans_by_characters_holds : PySem.Challenge.rw_onlyhigher_k25_whole_spans_by_characters.Holds := by
  w_on; o_law; k_head; (case hw => w_witness2)
  k_fill
  refine K25.walk_G (l := PySem.Challenge.rw_onlyhigher_k25_whole_spans_by_characters) (n := 63) (k := 5) (x := "_law_script") rfl (by decide) rfl ⟨rfl, by decide, by decide⟩ ?F
  case F =>
    intro w mg fa h Y G hmg
    have KX := PySem.W.kIn_of Y
    refine' K25.all_mk (l := PySem.Challenge.rw_onlyhigher_k25_whole_spans_by_characters) (w := w) KX G hmg ?a1 ?l1 ?c1 ?k1 ?a2 ?l2 ?c2 ?k2 ?a3 ?l3 ?c3 ?k3 ?a4 ?l4 ?c4 ?k4 ?a5 ?l5 ?c5 ?k5 ?a6 ?l6 ?c6 ?k6 ?a7 ?l7 ?c7 ?k7 ?a8 ?l8 ?c8 ?k8 ?a9 ?l9 ?c9 ?k9 ?a10 ?l10 ?c10 ?k10 ?a11 ?l11 ?c11 ?k11 ?a12 ?l12 ?c12 ?k12 ?a13 ?l13 ?c13 ?k13 ?a14 ?l14 ?c14 ?k14 ?a15 ?l15 ?c15 ?k15 ?a16 ?l16 ?c16 ?k16 ?a17 ?l17 ?c17 ?k17 ?z1 ?z2 ?z3 ?z4 ?z5 ?z6 ?z7 ?z8 ?z9 ?z10 ?z11 ?z0
    (case a1 => k_is); (case l1 => k_is); (case c1 => k_is); (case k1 => k_is)
    (case a2 => k_is); (case l2 => k_is); (case c2 => k_is); (case k2 => k_is)
    (case a3 => k_is); (case l3 => k_is); (case c3 => k_is); (case k3 => k_is)
    (case a4 => k_is); (case l4 => k_is); (case c4 => k_is); (case k4 => k_is)
    (case a5 => k_is); (case l5 => k_is); (case c5 => k_is); (case k5 => k_is)
    (case a6 => k_is); (case l6 => k_is); (case c6 => k_is); (case k6 => k_is)
    (case a7 => k_is); (case l7 => k_is); (case c7 => k_is); (case k7 => k_is)
    (case a8 => k_is); (case l8 => k_is); (case c8 => k_is); (case k8 => k_is)
    (case a9 => k_is); (case l9 => k_is); (case c9 => k_is); (case k9 => k_is)
    (case a10 => k_is); (case l10 => k_is); (case c10 => k_is); (case k10 => k_is)
    (case a11 => k_is); (case l11 => k_is); (case c11 => k_is); (case k11 => k_is)
    (case a12 => k_is); (case l12 => k_is); (case c12 => k_is); (case k12 => k_is)
    (case a13 => k_is); (case l13 => k_is); (case c13 => k_is); (case k13 => k_is)
    (case a14 => k_is); (case l14 => k_is); (case c14 => k_is); (case k14 => k_is)
    (case a15 => k_is); (case l15 => k_is); (case c15 => k_is); (case k15 => k_is)
    (case a16 => k_is); (case l16 => k_is); (case c16 => k_is); (case k16 => k_is)
    (case a17 => k_is); (case l17 => k_is); (case c17 => k_is); (case k17 => k_is)
    (case z1 => k_is)
    (case z2 => k_is)
    (case z3 => k_is)
    (case z4 => k_is)
    (case z5 => k_is)
    (case z6 => k_is)
    (case z7 => k_is)
    (case z8 => k_is)
    (case z9 => k_is)
    (case z10 => k_is)
    (case z11 => k_is)
    (case z0 => k_is)
