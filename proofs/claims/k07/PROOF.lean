import PyProof.Rows.All
import Wide.All
import OpenK.AllK
import Wide.FinOn
import HandS.ForMost
import HandS.Walk
import HandS.SortRule
import HandS.SortInts
import HandS.IsInst
import HandS.Style
import HandS.Conv
import PySem.Challenge.RW_ebbkeep_k07_whole_first_fit_is_exact
set_option Elab.async false
set_option linter.all false
set_option maxRecDepth 100000
/-! Plain mathematics of first fit by falling sizes, sizes powers of two. No program in sight. -/
namespace K7
/-- the size of the piece with the index i -/
def szAt (sz : List Int) (i : Int) : Int := sz.getD i.toNat 0
/-- what a box holds -/
def used (sz : List Int) (b : List Int) : Int := (b.map (szAt sz)).sum
/-- first fit: one piece -/
def put (box : Int) (sz : List Int) (s i : Int) : List (List Int) → List (List Int)
  | [] => [[i]]
  | b :: bs => if used sz b + s ≤ box then (b ++ [i]) :: bs else b :: put box sz s i bs
/-- first fit over an order of pairs (minus the size, the index) -/
def ff (box : Int) (sz : List Int) (ord : List (Int × Int)) : List (List Int) := ord.foldl (fun bs p => put box sz (-p.1) p.2 bs) []

theorem used_nil (sz : List Int) : used sz [] = 0 := rfl
theorem used_snoc (sz b : List Int) (i : Int) : used sz (b ++ [i]) = used sz b + szAt sz i := by
  unfold used
  rw [List.map_append, List.sum_append]
  simp
theorem used_append (sz a b : List Int) : used sz (a ++ b) = used sz a + used sz b := by
  unfold used
  rw [List.map_append, List.sum_append]

/-! ### where first fit stops -/
/-- k is the first box that has room for s, or the number of boxes -/
structure Stop (box : Int) (sz : List Int) (s : Int) (bs : List (List Int)) (k : Nat) : Prop where
  le : k ≤ bs.length
  full : ∀ j b, j < k → bs[j]? = some b → box < used sz b + s
  fit : ∀ b, bs[k]? = some b → used sz b + s ≤ box
theorem put_new {box : Int} {sz : List Int} {s i : Int} : ∀ {bs : List (List Int)}, Stop box sz s bs bs.length → put box sz s i bs = bs ++ [[i]]
  | [], _ => rfl
  | b :: bs, h => by
    have h0 := h.full 0 b (by simp) rfl
    have h1 : Stop box sz s bs bs.length := ⟨Nat.le_refl _, fun j c hj e => h.full (j + 1) c (by simp; omega) (by simpa using e), fun c e => by simp at e⟩
    show (if used sz b + s ≤ box then (b ++ [i]) :: bs else b :: put box sz s i bs) = _
    rw [if_neg (by omega), put_new h1]
    rfl
theorem put_at {box : Int} {sz : List Int} {s i : Int} : ∀ {bs : List (List Int)} {k : Nat} {b : List Int}, Stop box sz s bs k → bs[k]? = some b → put box sz s i bs = bs.set k (b ++ [i])
  | [], _, _, _, e => by simp at e
  | c :: bs, 0, b, h, e => by
    have e1 : c = b := Option.some.inj e
    subst e1
    have h0 := h.fit c rfl
    show (if used sz c + s ≤ box then (c ++ [i]) :: bs else c :: put box sz s i bs) = _
    rw [if_pos h0]
    rfl
  | c :: bs, k + 1, b, h, e => by
    have h0 := h.full 0 c (by omega) rfl
    have h1 : Stop box sz s bs k := ⟨by have := h.le; simp at this; omega, fun j d hj e => h.full (j + 1) d (by omega) (by simpa using e), fun d e => h.fit d (by simpa using e)⟩
    show (if used sz c + s ≤ box then (c ++ [i]) :: bs else c :: put box sz s i bs) = _
    rw [if_neg (by omega), put_at h1 (by simpa using e)]
    rfl

/-! ### powers of two -/
def Pow2 (x : Int) : Prop := ∃ k : Nat, x = 2 ^ k
theorem Pow2.pos {x : Int} (h : Pow2 x) : 0 < x := by
  obtain ⟨k, rfl⟩ := h
  exact Int.pow_pos (by decide)
theorem Pow2.dvd {x y : Int} (hx : Pow2 x) (hy : Pow2 y) (h : x ≤ y) : x ∣ y := by
  obtain ⟨a, rfl⟩ := hx
  obtain ⟨b, rfl⟩ := hy
  by_cases hab : a ≤ b
  · exact ⟨2 ^ (b - a), by rw [← Int.pow_add, Nat.add_sub_cancel' hab]⟩
  · exfalso
    obtain ⟨c, rfl⟩ : ∃ c, a = b + (c + 1) := ⟨a - b - 1, by omega⟩
    rw [Int.pow_add] at h
    have h1 : (0 : Int) < 2 ^ b := Int.pow_pos (by decide)
    have h2 : (0 : Int) < 2 ^ c := Int.pow_pos (by decide)
    rw [Int.pow_succ] at h
    have h3 : (2 : Int) ^ b * (2 ^ c * 2) ≥ 2 ^ b * 2 := Int.mul_le_mul_of_nonneg_left (by omega) (by omega)
    omega
theorem Pow2.one : Pow2 1 := ⟨0, rfl⟩
theorem Pow2.double {x : Int} (h : Pow2 x) : Pow2 (x * 2) := by
  obtain ⟨k, rfl⟩ := h
  exact ⟨k + 1, by rw [Int.pow_succ]⟩
theorem Pow2.half {x : Int} (h : Pow2 x) (h1 : 1 < x) : Pow2 (x / 2) ∧ x / 2 ≤ x := by
  obtain ⟨k, rfl⟩ := h
  cases k with
  | zero => simp at h1
  | succ k =>
    have h2 : (0 : Int) < 2 ^ k := Int.pow_pos (by decide)
    rw [Int.pow_succ, Int.mul_ediv_cancel _ (by decide)]
    exact ⟨⟨k, rfl⟩, by omega⟩

/-! ### the invariant -/
/-- every box holds something, not more than its size, a multiple of d; all but the last are full -/
structure Good (box : Int) (sz : List Int) (d : Int) (bs : List (List Int)) : Prop where
  one : ∀ b ∈ bs, 0 < used sz b ∧ used sz b ≤ box ∧ d ∣ used sz b
  full : ∀ b ∈ bs.dropLast, used sz b = box
theorem put_ne (box : Int) (sz : List Int) (s i : Int) : ∀ bs : List (List Int), put box sz s i bs ≠ []
  | [] => by simp [put]
  | b :: bs => by
    unfold put
    split <;> simp
theorem put_good {box : Int} {sz : List Int} {s i : Int} (hs : 0 < s) (hd : s ∣ box) (hb : 0 < box) (hi : szAt sz i = s) : ∀ {bs : List (List Int)}, Good box sz s bs → Good box sz s (put box sz s i bs)
  | [], _ => by
    refine ⟨fun b h => ?_, fun b h => ?_⟩
    · have e : b = [i] := by simpa [put] using h
      subst e
      have e2 : used sz [i] = s := by rw [← hi]; simp [used]
      rw [e2]
      exact ⟨hs, Int.le_of_dvd hb hd, Int.dvd_refl s⟩
    · simp [put] at h
  | [b], h => by
    obtain ⟨h1, h2, h3⟩ := h.one b (by simp)
    show Good box sz s (if used sz b + s ≤ box then [b ++ [i]] else [b, [i]])
    by_cases hf : used sz b + s ≤ box
    · rw [if_pos hf]
      refine ⟨fun c hc => ?_, fun c hc => by simp at hc⟩
      have e : c = b ++ [i] := by simpa using hc
      subst e
      rw [used_snoc, hi]
      exact ⟨by omega, hf, Int.dvd_add h3 (Int.dvd_refl s)⟩
    · rw [if_neg hf]
      have e0 : used sz b = box := by
        have hd2 : s ∣ box - used sz b := Int.dvd_sub hd h3
        by_cases hz : 0 < box - used sz b
        · have := Int.le_of_dvd hz hd2
          omega
        · omega
      have e2 : used sz [i] = s := by rw [← hi]; simp [used]
      refine ⟨fun c hc => ?_, fun c hc => ?_⟩
      · rcases List.mem_cons.mp hc with e | hc
        · rw [e]; exact ⟨h1, h2, h3⟩
        · have e : c = [i] := by simpa using hc
          rw [e, e2]
          exact ⟨hs, Int.le_of_dvd hb hd, Int.dvd_refl s⟩
      · have e : c = b := by simpa using hc
        rw [e]; exact e0
  | b :: c :: bs, h => by
    have hbf : used sz b = box := h.full b (by simp)
    have h1 : Good box sz s (c :: bs) := ⟨fun x hx => h.one x (List.mem_cons_of_mem _ hx), fun x hx => h.full x (by
      rw [List.dropLast_cons_of_ne_nil (by simp)]
      exact List.mem_cons_of_mem _ hx)⟩
    have ih := put_good hs hd hb hi h1
    have e : put box sz s i (b :: c :: bs) = b :: put box sz s i (c :: bs) := by
      show (if used sz b + s ≤ box then (b ++ [i]) :: c :: bs else b :: put box sz s i (c :: bs)) = _
      rw [if_neg (by omega)]
    rw [e]
    refine ⟨fun x hx => ?_, fun x hx => ?_⟩
    · rcases List.mem_cons.mp hx with e | hx
      · rw [e]; exact h.one b (by simp)
      · exact ih.one x hx
    · rw [List.dropLast_cons_of_ne_nil (put_ne _ _ _ _ _)] at hx
      rcases List.mem_cons.mp hx with e | hx
      · rw [e]; exact hbf
      · exact ih.full x hx
theorem Good.down {box d s : Int} {sz : List Int} {bs : List (List Int)} (h : Good box sz d bs) (hs : s ∣ d) : Good box sz s bs :=
  ⟨fun b hb => ⟨(h.one b hb).1, (h.one b hb).2.1, Int.dvd_trans hs (h.one b hb).2.2⟩, h.full⟩
theorem fold_good {box : Int} {sz : List Int} (hb : Pow2 box) : ∀ (ord : List (Int × Int)) (bs : List (List Int)) (d : Int), Pow2 d → d ≤ box → Good box sz d bs → (∀ p ∈ ord, Pow2 (-p.1) ∧ -p.1 ≤ d ∧ szAt sz p.2 = -p.1) → ord.Pairwise (fun p q => p.1 ≤ q.1) →
    ∃ d', Good box sz d' (ord.foldl (fun bs p => put box sz (-p.1) p.2 bs) bs)
  | [], bs, d, _, _, g, _, _ => ⟨d, g⟩
  | p :: ord, bs, d, pd, hd, g, hp, hw => by
    obtain ⟨h1, h2, h3⟩ := hp p (by simp)
    obtain ⟨w1, w2⟩ := List.pairwise_cons.mp hw
    have g1 : Good box sz (-p.1) bs := g.down (h1.dvd pd h2)
    have g2 := put_good h1.pos (h1.dvd hb (by omega)) hb.pos h3 g1
    exact fold_good hb ord _ (-p.1) h1 (by omega) g2 (fun q hq => ⟨(hp q (by simp [hq])).1, by have := w1 q hq; omega, (hp q (by simp [hq])).2.2⟩) w2

/-! ### what is packed -/
theorem put_flat (box : Int) (sz : List Int) (s i : Int) : ∀ bs : List (List Int), (put box sz s i bs).flatten.Perm (i :: bs.flatten)
  | [] => List.Perm.refl _
  | b :: bs => by
    show (if used sz b + s ≤ box then (b ++ [i]) :: bs else b :: put box sz s i bs).flatten.Perm (i :: (b ++ bs.flatten))
    split
    · show (b ++ [i] ++ bs.flatten).Perm _
      rw [List.append_assoc]
      exact List.perm_middle
    · show (b ++ (put box sz s i bs).flatten).Perm _
      exact ((put_flat box sz s i bs).append_left b).trans List.perm_middle
theorem fold_flat (box : Int) (sz : List Int) : ∀ (ord : List (Int × Int)) (bs : List (List Int)), (ord.foldl (fun bs p => put box sz (-p.1) p.2 bs) bs).flatten.Perm (ord.map (·.2) ++ bs.flatten)
  | [], bs => List.Perm.refl _
  | p :: ord, bs => by
    refine (fold_flat box sz ord _).trans ?_
    refine ((put_flat box sz (-p.1) p.2 bs).append_left _).trans ?_
    exact List.perm_middle
theorem ff_flat (box : Int) (sz : List Int) (ord : List (Int × Int)) : (ff box sz ord).flatten.Perm (ord.map (·.2)) := by
  have h := fold_flat box sz ord []
  simpa [ff] using h

/-! ### the order -/
def pairs (sz : List Int) : List (Int × Int) := (List.range sz.length).map fun k => (-(sz.getD k 0), (k : Int))
def LexLe (p q : Int × Int) : Prop := p.1 < q.1 ∨ (p.1 = q.1 ∧ p.2 ≤ q.2)
structure IsOrd (sz : List Int) (ord : List (Int × Int)) : Prop where
  perm : ord.Perm (pairs sz)
  srt : ord.Pairwise LexLe
theorem LexLe.anti {p q : Int × Int} (h1 : LexLe p q) (h2 : LexLe q p) : p = q := by
  obtain ⟨a, b⟩ := p
  obtain ⟨c, d⟩ := q
  simp only [LexLe] at h1 h2
  have : a = c ∧ b = d := by omega
  rw [this.1, this.2]
theorem sorted_uniq : ∀ {l m : List (Int × Int)}, l.Pairwise LexLe → m.Pairwise LexLe → l.Perm m → l = m
  | [], m, _, _, p => (List.Perm.eq_nil p.symm).symm
  | x :: l, [], _, _, p => absurd p.length_eq (by simp)
  | x :: l, y :: m, hl, hm, p => by
    have e : x = y := by
      rcases List.mem_cons.mp (p.mem_iff.mp (List.mem_cons_self (a := x) (l := l))) with e | hx
      · exact e
      · rcases List.mem_cons.mp (p.mem_iff.mpr (List.mem_cons_self (a := y) (l := m))) with e | hy
        · exact e.symm
        · exact ((List.pairwise_cons.mp hl).1 y hy).anti ((List.pairwise_cons.mp hm).1 x hx)
    subst e
    rw [sorted_uniq (List.pairwise_cons.mp hl).2 (List.pairwise_cons.mp hm).2 p.cons_inv]
theorem IsOrd.uniq {sz : List Int} {a b : List (Int × Int)} (h : IsOrd sz a) (h' : IsOrd sz b) : a = b := sorted_uniq h.srt h'.srt (h.perm.trans h'.perm.symm)
theorem pairs_mem {sz : List Int} {p : Int × Int} (h : p ∈ pairs sz) : ∃ k : Nat, ∃ v, sz[k]? = some v ∧ p = (-v, (k : Int)) := by
  obtain ⟨k, hk, rfl⟩ := List.mem_map.mp h
  have hk := List.mem_range.mp hk
  exact ⟨k, sz[k], List.getElem?_eq_getElem hk, by rw [List.getD_eq_getElem?_getD, List.getElem?_eq_getElem hk]; rfl⟩
theorem szAt_nat {sz : List Int} {k : Nat} {v : Int} (h : sz[k]? = some v) : szAt sz (k : Int) = v := by
  unfold szAt
  rw [List.getD_eq_getElem?_getD, Int.toNat_natCast, h]
  rfl
theorem pairs_snd (sz : List Int) : (pairs sz).map (·.2) = (List.range sz.length).map Int.ofNat := by
  unfold pairs
  rw [List.map_map]
  rfl
theorem used_range (sz : List Int) : used sz ((List.range sz.length).map Int.ofNat) = sz.sum := by
  unfold used
  rw [List.map_map]
  congr 1
  apply List.ext_getElem
  · simp
  · intro i h1 h2
    simp [szAt, h2]

/-! ### what the law asks -/
def spare (box : Int) (sz : List Int) (bs : List (List Int)) : Int := (bs.map fun b => if used sz b < box then (1 : Int) else 0).sum
structure Pack (box : Int) (sz : List Int) (bs : List (List Int)) : Prop where
  one : ∀ b ∈ bs, b ≠ []
  perm : bs.flatten.Perm ((List.range sz.length).map Int.ofNat)
  le : ∀ b ∈ bs, used sz b ≤ box
  spare : spare box sz bs ≤ 1
  cnt : (bs.length : Int) = (sz.sum + box - 1) / box
theorem used_cons (sz b : List Int) (i : Int) : used sz (i :: b) = szAt sz i + used sz b := rfl
theorem used_perm {sz a b : List Int} (h : a.Perm b) : used sz a = used sz b := by
  induction h with
  | nil => rfl
  | cons x _ ih => rw [used_cons, used_cons, ih]
  | swap x y l => rw [used_cons, used_cons, used_cons, used_cons]; omega
  | trans _ _ h1 h2 => exact h1.trans h2
theorem used_flatten (sz : List Int) : ∀ bs : List (List Int), used sz bs.flatten = (bs.map (used sz)).sum
  | [] => rfl
  | b :: bs => by
    show used sz (b ++ bs.flatten) = used sz b + (bs.map (used sz)).sum
    rw [used_append, used_flatten]
theorem spare_cons (box : Int) (sz b : List Int) (bs : List (List Int)) : spare box sz (b :: bs) = (if used sz b < box then 1 else 0) + spare box sz bs := rfl
theorem good_spare {box d : Int} {sz : List Int} : ∀ {bs : List (List Int)}, Good box sz d bs → spare box sz bs ≤ 1
  | [], _ => by simp [spare]
  | [b], _ => by
    show (if used sz b < box then (1 : Int) else 0) + 0 ≤ 1
    split <;> omega
  | b :: c :: bs, h => by
    have hbf : used sz b = box := h.full b (by simp)
    have h1 : Good box sz d (c :: bs) := ⟨fun x hx => h.one x (List.mem_cons_of_mem _ hx), fun x hx => h.full x (by
      rw [List.dropLast_cons_of_ne_nil (by simp)]
      exact List.mem_cons_of_mem _ hx)⟩
    have ih := good_spare h1
    rw [spare_cons, if_neg (by omega)]
    omega
theorem good_sum {box d : Int} {sz : List Int} : ∀ {bs : List (List Int)}, Good box sz d bs → bs ≠ [] → ∃ u, 0 < u ∧ u ≤ box ∧ (bs.map (used sz)).sum = ((bs.length : Int) - 1) * box + u
  | [], _, h => absurd rfl h
  | [b], h, _ => by
    obtain ⟨h1, h2, _⟩ := h.one b (by simp)
    exact ⟨used sz b, h1, h2, by simp⟩
  | b :: c :: bs, h, _ => by
    have hbf : used sz b = box := h.full b (by simp)
    have h1 : Good box sz d (c :: bs) := ⟨fun x hx => h.one x (List.mem_cons_of_mem _ hx), fun x hx => h.full x (by
      rw [List.dropLast_cons_of_ne_nil (by simp)]
      exact List.mem_cons_of_mem _ hx)⟩
    obtain ⟨u, u1, u2, e⟩ := good_sum h1 (by simp)
    refine ⟨u, u1, u2, ?_⟩
    rw [List.map_cons, List.sum_cons, e, hbf, List.length_cons (a := b)]
    have e2 : ((((c :: bs).length + 1 : Nat) : Int) - 1) * box = (((c :: bs).length : Int) - 1) * box + box := by
      rw [show ((((c :: bs).length + 1 : Nat) : Int) - 1) = (((c :: bs).length : Int) - 1) + 1 by omega, Int.add_mul, Int.one_mul]
    omega
theorem good_cnt {box d : Int} {sz : List Int} {bs : List (List Int)} (hb : 0 < box) (h : Good box sz d bs) : (bs.length : Int) = ((bs.map (used sz)).sum + box - 1) / box := by
  by_cases h0 : bs = []
  · subst h0
    show (0 : Int) = (0 + box - 1) / box
    exact (Int.ediv_eq_zero_of_lt (by omega) (by omega)).symm
  · obtain ⟨u, u1, u2, e⟩ := good_sum h h0
    rw [e, show ((bs.length : Int) - 1) * box + u + box - 1 = (u - 1) + (bs.length : Int) * box by rw [Int.sub_mul, Int.one_mul]; omega, Int.add_mul_ediv_right _ _ (by omega), Int.ediv_eq_zero_of_lt (by omega) (by omega)]
    omega
theorem ff_pack {box : Int} {sz : List Int} {ord : List (Int × Int)} (hb : Pow2 box) (hs : ∀ s ∈ sz, Pow2 s ∧ s ≤ box) (h : IsOrd sz ord) : Pack box sz (ff box sz ord) := by
  obtain ⟨d, g⟩ := fold_good (sz := sz) hb ord [] box hb (Int.le_refl _) ⟨fun b hb => by simp at hb, fun b hb => by simp at hb⟩ (fun p hp => by
    obtain ⟨k, v, hv, rfl⟩ := pairs_mem (h.perm.mem_iff.mp hp)
    have := hs v (List.mem_of_getElem? hv)
    simp only [Int.neg_neg]
    exact ⟨this.1, this.2, szAt_nat hv⟩) (h.srt.imp fun {a b} q => by rcases q with q | q <;> omega)
  have g : Good box sz d (ff box sz ord) := g
  have hp : (ff box sz ord).flatten.Perm ((List.range sz.length).map Int.ofNat) := by
    refine (ff_flat box sz ord).trans ?_
    rw [← pairs_snd]
    exact h.perm.map _
  refine ⟨fun b hb e => ?_, hp, fun b hb => (g.one b hb).2.1, good_spare g, ?_⟩
  · have := (g.one b hb).1
    rw [e, used_nil] at this
    omega
  · rw [good_cnt hb.pos g, ← used_flatten, used_perm hp, used_range]
theorem Pack.len {box : Int} {sz : List Int} {bs : List (List Int)} (h : Pack box sz bs) : bs.flatten.length = sz.length := by
  rw [h.perm.length_eq]
  simp
theorem Pack.mem {box : Int} {sz : List Int} {bs : List (List Int)} (h : Pack box sz bs) {b : List Int} {i : Int} (hb : b ∈ bs) (hi : i ∈ b) : 0 ≤ i ∧ i < (sz.length : Int) := by
  have h1 : i ∈ bs.flatten := List.mem_flatten.mpr ⟨b, hb, hi⟩
  obtain ⟨k, hk, rfl⟩ := List.mem_map.mp (h.perm.mem_iff.mp h1)
  have hk := List.mem_range.mp hk
  show 0 ≤ (k : Int) ∧ (k : Int) < _
  omega
theorem Pack.nodup {box : Int} {sz : List Int} {bs : List (List Int)} (h : Pack box sz bs) : bs.flatten.Nodup := by
  rw [h.perm.nodup_iff]
  refine List.Pairwise.map _ (fun a b hab => ?_) List.nodup_range
  intro e
  exact hab (Int.ofNat.inj e)
/-! ### lists of ints in order -/
theorem ints_uniq : ∀ {l m : List Int}, l.Pairwise (· ≤ ·) → m.Pairwise (· ≤ ·) → l.Perm m → l = m
  | [], m, _, _, p => (List.Perm.eq_nil p.symm).symm
  | x :: l, [], _, _, p => absurd p.length_eq (by simp)
  | x :: l, y :: m, hl, hm, p => by
    have e : x = y := by
      rcases List.mem_cons.mp (p.mem_iff.mp (List.mem_cons_self (a := x) (l := l))) with e | hx
      · exact e
      · rcases List.mem_cons.mp (p.mem_iff.mpr (List.mem_cons_self (a := y) (l := m))) with e | hy
        · exact e.symm
        · exact Int.le_antisymm ((List.pairwise_cons.mp hl).1 y hy) ((List.pairwise_cons.mp hm).1 x hx)
    subst e
    rw [ints_uniq (List.pairwise_cons.mp hl).2 (List.pairwise_cons.mp hm).2 p.cons_inv]
def iota (n : Nat) : List Int := (List.range n).map Int.ofNat
theorem iota_srt (n : Nat) : (iota n).Pairwise (· ≤ ·) := by
  unfold iota
  refine List.Pairwise.map _ (fun a b h => ?_) (List.pairwise_lt_range (n := n))
  exact Int.ofNat_le.mpr (Nat.le_of_lt h)
/-! ### by the turn -/
theorem spare_take {box : Int} {sz : List Int} : ∀ {bs : List (List Int)} {i : Nat} {b : List Int}, bs[i]? = some b → spare box sz (bs.take (i + 1)) = spare box sz (bs.take i) + if used sz b < box then 1 else 0
  | [], _, _, h => by simp at h
  | c :: bs, 0, b, h => by
    have e : c = b := Option.some.inj h
    subst e
    show (if used sz c < box then (1 : Int) else 0) + 0 = 0 + _
    omega
  | c :: bs, i + 1, b, h => by
    have ih := spare_take (box := box) (sz := sz) (bs := bs) (i := i) (b := b) (by simpa using h)
    rw [List.take_succ_cons, List.take_succ_cons, spare_cons, spare_cons, ih]
    omega
theorem flat_take {bs : List (List Int)} {i : Nat} {b : List Int} (h : bs[i]? = some b) : (bs.take (i + 1)).flatten = (bs.take i).flatten ++ b := by
  rw [List.take_add_one, h, List.flatten_append]
  simp
theorem flat_len_le : ∀ {bs : List (List Int)} {i : Nat}, (bs.take i).flatten.length ≤ bs.flatten.length
  | [], _ => by simp
  | c :: bs, 0 => by simp
  | c :: bs, i + 1 => by
    have ih := flat_len_le (bs := bs) (i := i)
    simp only [List.take_succ_cons, List.flatten_cons, List.length_append]
    omega
/-- an item of a box is not among what stands ahead of it -/
theorem nodup_ahead {bs : List (List Int)} (hn : bs.flatten.Nodup) {i j : Nat} {b : List Int} {z : Int} (hb : bs[i]? = some b) (hz : b[j]? = some z) : z ∉ (bs.take i).flatten ++ b.take j := by
  have e : bs.flatten = (bs.take i).flatten ++ (b ++ (bs.drop (i + 1)).flatten) := by
    obtain ⟨h1, h2⟩ := List.getElem?_eq_some_iff.mp hb
    have e1 : bs = bs.take i ++ (b :: bs.drop (i + 1)) := by
      rw [← h2, ← List.drop_eq_getElem_cons h1, List.take_append_drop]
    have e2 := congrArg List.flatten e1
    rw [List.flatten_append, List.flatten_cons] at e2
    exact e2
  have e3 : b = b.take j ++ (z :: b.drop (j + 1)) := by
    obtain ⟨h1, h2⟩ := List.getElem?_eq_some_iff.mp hz
    rw [← h2, ← List.drop_eq_getElem_cons h1, List.take_append_drop]
  have e4 : bs.flatten = ((bs.take i).flatten ++ b.take j) ++ (z :: (b.drop (j + 1) ++ (bs.drop (i + 1)).flatten)) := by
    rw [e]
    conv => lhs; rw [e3]
    simp only [List.append_assoc, List.cons_append]
  rw [e4, List.nodup_append] at hn
  exact fun hm => hn.2.2 z hm z (by simp) rfl
theorem Pack.box {box : Int} {sz : List Int} {bs : List (List Int)} (h : Pack box sz bs) (hl : sz.length ≤ 1000) : bs.length ≤ 1000 ∧ ∀ b ∈ bs, b.length ≤ 1000 := by
  have h1 := h.len
  have h2 : ∀ l : List (List Int), (∀ b ∈ l, b ≠ []) → l.length ≤ l.flatten.length ∧ ∀ b ∈ l, b.length ≤ l.flatten.length := by
    intro l
    induction l with
    | nil => intro _; simp
    | cons c l ih =>
      intro hh
      obtain ⟨i1, i2⟩ := ih fun b hb => hh b (List.mem_cons_of_mem _ hb)
      have hc : 0 < c.length := List.length_pos_iff.mpr (hh c (by simp))
      refine ⟨by simp only [List.length_cons, List.flatten_cons, List.length_append]; omega, fun b hb => ?_⟩
      rcases List.mem_cons.mp hb with e | hb
      · rw [e]; simp only [List.flatten_cons, List.length_append]; omega
      · have := i2 b hb
        simp only [List.flatten_cons, List.length_append]; omega
  obtain ⟨a, b⟩ := h2 bs h.one
  exact ⟨by omega, fun c hc => by have := b c hc; omega⟩
/-! ### first fit by the turn -/
theorem ff_snoc (box : Int) (sz : List Int) (o : List (Int × Int)) (p : Int × Int) : ff box sz (o ++ [p]) = put box sz (-p.1) p.2 (ff box sz o) := by
  unfold ff
  rw [List.foldl_append]
  rfl
theorem ff_take {box : Int} {sz : List Int} {o : List (Int × Int)} {i : Nat} {p : Int × Int} (h : o[i]? = some p) : ff box sz (o.take (i + 1)) = put box sz (-p.1) p.2 (ff box sz (o.take i)) := by
  rw [List.take_add_one, h]
  exact ff_snoc _ _ _ _
theorem put_small {box : Int} {sz : List Int} {s i : Int} {n : Nat} : ∀ {bs : List (List Int)}, (∀ b ∈ bs, b.length ≤ n) → (put box sz s i bs).length ≤ bs.length + 1 ∧ ∀ b ∈ put box sz s i bs, b.length ≤ n + 1
  | [], _ => ⟨by simp [put], fun b hb => by
    have e : b = [i] := by simpa [put] using hb
    rw [e]; simp⟩
  | c :: bs, h => by
    unfold put
    split
    · refine ⟨by simp, fun b hb => ?_⟩
      rcases List.mem_cons.mp hb with e | hb
      · rw [e, List.length_append]
        have := h c (by simp)
        simp; omega
      · have := h b (List.mem_cons_of_mem _ hb)
        omega
    · obtain ⟨i1, i2⟩ := put_small (box := box) (sz := sz) (s := s) (i := i) (bs := bs) (n := n) fun b hb => h b (List.mem_cons_of_mem _ hb)
      refine ⟨by simp only [List.length_cons]; omega, fun b hb => ?_⟩
      rcases List.mem_cons.mp hb with e | hb
      · rw [e]
        have := h c (by simp)
        omega
      · exact i2 b hb
theorem ff_small (box : Int) (sz : List Int) (o : List (Int × Int)) : ∀ i : Nat, i ≤ o.length → (ff box sz (o.take i)).length ≤ i ∧ ∀ b ∈ ff box sz (o.take i), b.length ≤ i
  | 0, _ => ⟨by simp [ff], fun b hb => by simp [ff] at hb⟩
  | i + 1, h => by
    obtain ⟨i1, i2⟩ := ff_small box sz o i (by omega)
    rw [ff_take (List.getElem?_eq_getElem (show i < o.length by omega))]
    obtain ⟨j1, j2⟩ := put_small (box := box) (sz := sz) (s := -(o[i]).1) (i := (o[i]).2) i2
    exact ⟨by omega, j2⟩
end K7

/-! What the walks of the nine defs share: the text by places, heaps, boxes in the heap. -/
namespace K7
open PySem PySem.Spec PyProof.Rows L2
/-! ### the text by places -/
def topS (i : Nat) : Stmt := PySem.Challenge.pw_ebbkeep_k07_whole_first_fit_is_exact.main.body.getD i (.Pass ⟨0, 0, 0, 0⟩)
abbrev sFF : Stmt := topS 1
abbrev sAP : Stmt := topS 2
abbrev sCell : Stmt := topS 4
abbrev sDraw : Stmt := topS 5
abbrev sSizes : Stmt := topS 6
abbrev sLFF : Stmt := topS 7
abbrev sIsP : Stmt := topS 8
abbrev sSame : Stmt := topS 9
abbrev sLaw : Stmt := topS 10
abbrev nFF : List Str := ["box", "sizes", "boxes", "rooms", "index", "size", "at"]
abbrev nAP : List Str := ["box", "sizes", "boxes", "indexes", "spare", "pieces", "room", "index"]
abbrev nCell : List Str := ["_law_script", "_law_k"]
abbrev nDraw : List Str := ["_law_cell_here", "_law_k", "_law_many", "_law_rest", "_law_j"]
abbrev nSizes : List Str := ["_law_cells", "_law_box", "_law_sizes_here", "_law_cell_here", "_law_size", "_law_k"]
abbrev nLFF : List Str := ["_law_box", "_law_sizes_here", "_law_boxes", "_law_order", "_law_size", "_law_index", "_law_at", "_law_k"]
abbrev nIsP : List Str := ["_law_box", "_law_sizes_here", "_law_boxes", "_law_seen", "_law_spare", "_law_pieces", "_law_index", "_law_room"]
abbrev nSame : List Str := ["_law_actual", "_law_due", "_law_k"]
abbrev nLaw : List Str := ["_law_script", "_law_box", "_law_k", "_law_sizes_here", "_law_given", "_law_boxes", "_law_cell_here"]
theorem scFF : FnScope nFF ["box", "sizes"] (defScope sFF) := ⟨rfl, rfl, rfl, by decide +kernel, rfl, by decide +kernel, by decide +kernel⟩
theorem scAP : FnScope nAP ["box", "sizes", "boxes"] (defScope sAP) := ⟨rfl, rfl, rfl, by decide +kernel, rfl, by decide +kernel, by decide +kernel⟩
theorem scCell : FnScope nCell ["_law_script", "_law_k"] (defScope sCell) := ⟨rfl, rfl, rfl, by decide +kernel, rfl, by decide +kernel, by decide +kernel⟩
theorem scDraw : FnScope nDraw ["_law_cell_here", "_law_k", "_law_many"] (defScope sDraw) := ⟨rfl, rfl, rfl, by decide +kernel, rfl, by decide +kernel, by decide +kernel⟩
theorem scSizes : FnScope nSizes ["_law_cells", "_law_box"] (defScope sSizes) := ⟨rfl, rfl, rfl, by decide +kernel, rfl, by decide +kernel, by decide +kernel⟩
theorem scLFF : FnScope nLFF ["_law_box", "_law_sizes_here"] (defScope sLFF) := ⟨rfl, rfl, rfl, by decide +kernel, rfl, by decide +kernel, by decide +kernel⟩
theorem scIsP : FnScope nIsP ["_law_box", "_law_sizes_here", "_law_boxes"] (defScope sIsP) := ⟨rfl, rfl, rfl, by decide +kernel, rfl, by decide +kernel, by decide +kernel⟩
theorem scSame : FnScope nSame ["_law_actual", "_law_due"] (defScope sSame) := ⟨rfl, rfl, rfl, by decide +kernel, rfl, by decide +kernel, by decide +kernel⟩
theorem scLaw : FnScope nLaw ["_law_script"] (defScope sLaw) := ⟨rfl, rfl, rfl, by decide +kernel, rfl, by decide +kernel, by decide +kernel⟩

/-! ### heaps -/
theorem same_upd {H : Hp} {p : Addr} {o : HO} (h : H p = none) : Same H (upd H p o) := fun b x e => by
  rw [upd_ne (ne_of_none e h)]
  exact e
theorem same_put {H H' : Hp} {p : Addr} {o : HO} (s : Same H H') (h : H p = none) : Same H (upd H' p o) := fun b x e => by
  rw [upd_ne (ne_of_none e h)]
  exact s b x e
/-- all that was tracked stands as it was, but what stands at B and R -/
def SameX (B R : Addr) (H H' : Hp) : Prop := ∀ b o, H b = some o → b ≠ B → b ≠ R → H' b = some o
theorem SameX.refl {B R : Addr} (H : Hp) : SameX B R H H := fun _ _ e _ _ => e
theorem SameX.put {B R : Addr} {H H' : Hp} {p : Addr} {o : HO} (s : SameX B R H H') (h : p = B ∨ p = R ∨ H p = none) : SameX B R H (upd H' p o) := fun b x e h1 h2 => by
  have hb : b ≠ p := by
    rcases h with h | h | h
    · rw [h]; exact h1
    · rw [h]; exact h2
    · exact ne_of_none e h
  rw [upd_ne hb]
  exact s b x e h1 h2
theorem SameX.to {B R : Addr} {H0 H H' : Hp} (s : Same H0 H) (x : SameX B R H H') (hB : H0 B = none) (hR : H0 R = none) : Same H0 H' := fun b o e =>
  x b o (s b o e) (ne_of_none e hB) (ne_of_none e hR)
theorem SameX.then {B R : Addr} {H H1 H2 : Hp} (x : SameX B R H H1) (s : Same H1 H2) : SameX B R H H2 := fun b o e h1 h2 => s b o (x b o e h1 h2)
theorem SameX.free {B R : Addr} {H H' : Hp} (x : SameX B R H H') {p : Addr} (h : H' p = none) (hB : p ≠ B) (hR : p ≠ R) : H p = none := by
  cases q : H p with
  | none => rfl
  | some o =>
    rw [x p o q hB hR] at h
    cases h
/-! ### a list of ints, its items -/
theorem ints_at {ns : List Int} {i : Nat} {y : V} (h : (ns.map V.int)[i]? = some y) : ∃ z, ns[i]? = some z ∧ y = .int z := by
  rw [List.getElem?_map] at h
  cases e : ns[i]? with
  | none => rw [e] at h; cases h
  | some z => rw [e] at h; exact ⟨z, rfl, (Option.some.inj h).symm⟩
theorem at_int {ns : List Int} {i : Nat} {z : Int} (h : ns[i]? = some z) : (ns.map V.int)[i]? = some (.int z) := by
  rw [List.getElem?_map, h]
  rfl
theorem refs_at {ps : List Addr} {i : Nat} {y : V} (h : (ps.map V.ref)[i]? = some y) : ∃ a, ps[i]? = some a ∧ y = .ref a := by
  rw [List.getElem?_map] at h
  cases e : ps[i]? with
  | none => rw [e] at h; cases h
  | some z => rw [e] at h; exact ⟨z, rfl, (Option.some.inj h).symm⟩
theorem at_ref {ps : List Addr} {i : Nat} {a : Addr} (h : ps[i]? = some a) : (ps.map V.ref)[i]? = some (.ref a) := by
  rw [List.getElem?_map, h]
  rfl
/-! ### boxes in the heap -/
/-- at B a list of lists of ints is to be read -/
def Bx (H : Hp) (B : Addr) (bs : List (List Int)) : Prop :=
  ∃ ps : List Addr, H B = some (.lst (ps.map V.ref)) ∧ ps.length = bs.length ∧ ∀ (j : Nat) (a : Addr), ps[j]? = some a → ∃ b, bs[j]? = some b ∧ H a = some (.lst (b.map V.int))
theorem Bx.same {H H' : Hp} {B : Addr} {bs : List (List Int)} (h : Bx H B bs) (s : Same H H') : Bx H' B bs := by
  obtain ⟨ps, h1, h2, h3⟩ := h
  exact ⟨ps, s _ _ h1, h2, fun j a e => let ⟨b, e1, e2⟩ := h3 j a e; ⟨b, e1, s _ _ e2⟩⟩
/-- .. made by the code since H0: the lists stand apart, none of them stood at H0 -/
structure BxN (H0 H : Hp) (B : Addr) (ps : List Addr) (bs : List (List Int)) : Prop where
  hB : H B = some (.lst (ps.map V.ref))
  len : ps.length = bs.length
  nd : ps.Nodup
  np : ∀ a ∈ ps, a ≠ B
  new : ∀ a ∈ ps, H0 a = none
  at_ : ∀ (j : Nat) (a : Addr), ps[j]? = some a → ∃ b, bs[j]? = some b ∧ H a = some (.lst (b.map V.int))
theorem BxN.bx {H0 H : Hp} {B : Addr} {ps : List Addr} {bs : List (List Int)} (h : BxN H0 H B ps bs) : Bx H B bs := ⟨ps, h.hB, h.len, h.at_⟩
theorem BxN.keep {H0 H H' : Hp} {B : Addr} {ps : List Addr} {bs : List (List Int)} (h : BxN H0 H B ps bs) (k : ∀ a o, (a = B ∨ a ∈ ps) → H a = some o → H' a = some o) : BxN H0 H' B ps bs :=
  ⟨k B _ (.inl rfl) h.hB, h.len, h.nd, h.np, h.new, fun j a e => let ⟨b, e1, e2⟩ := h.at_ j a e; ⟨b, e1, k a _ (.inr (List.mem_of_getElem? e)) e2⟩⟩
theorem BxN.grow {H0 H : Hp} {B p : Addr} {ps : List Addr} {bs : List (List Int)} (h : BxN H0 H B ps bs) (hp : H p = none) (h0 : H0 p = none) : BxN H0 (upd (upd H p (.lst [])) B (.lst (ps.map V.ref ++ [.ref p]))) B (ps ++ [p]) (bs ++ [[]]) := by
  have hpB : B ≠ p := ne_of_none h.hB hp
  have hm : p ∉ ps := fun hm => by
    obtain ⟨j, hj⟩ := List.getElem?_of_mem hm
    obtain ⟨b, _, e⟩ := h.at_ j p hj
    rw [hp] at e
    cases e
  refine ⟨by rw [upd_same, List.map_append]; rfl, by simp [h.len], ?_, fun a ha => ?_, fun a ha => ?_, fun j a e => ?_⟩
  · rw [List.nodup_append]
    refine ⟨h.nd, by simp, fun a ha b hb => ?_⟩
    have e : b = p := by simpa using hb
    rw [e]
    intro e2
    exact hm (e2 ▸ ha)
  · rcases List.mem_append.mp ha with ha | ha
    · exact h.np a ha
    · have e : a = p := by simpa using ha
      rw [e]
      exact hpB.symm
  · rcases List.mem_append.mp ha with ha | ha
    · exact h.new a ha
    · have e : a = p := by simpa using ha
      rw [e]
      exact h0
  · by_cases hj : j < ps.length
    · rw [List.getElem?_append_left hj] at e
      obtain ⟨b, e1, e2⟩ := h.at_ j a e
      refine ⟨b, by rw [List.getElem?_append_left (by have := h.len; omega)]; exact e1, ?_⟩
      rw [upd_ne (h.np a (List.mem_of_getElem? e)), upd_ne (ne_of_none e2 hp)]
      exact e2
    · have hl : j < (ps ++ [p]).length := (List.getElem?_eq_some_iff.mp e).1
      have hj2 : j = ps.length := by simp at hl; omega
      subst hj2
      have e3 : p = a := by simpa using e
      subst e3
      refine ⟨[], by rw [h.len]; simp, ?_⟩
      rw [upd_ne hpB.symm, upd_same]
      rfl
theorem BxN.push {H0 H : Hp} {B a : Addr} {ps : List Addr} {bs : List (List Int)} {k : Nat} {b : List Int} {i : Int} (h : BxN H0 H B ps bs) (ha : ps[k]? = some a) (hb : bs[k]? = some b) : BxN H0 (upd H a (.lst (b.map V.int ++ [.int i]))) B ps (bs.set k (b ++ [i])) := by
  have haB := h.np a (List.mem_of_getElem? ha)
  refine ⟨by rw [upd_ne haB.symm]; exact h.hB, by rw [List.length_set]; exact h.len, h.nd, h.np, h.new, fun j c e => ?_⟩
  by_cases hj : j = k
  · subst hj
    have e1 : c = a := Option.some.inj (e.symm.trans ha)
    subst e1
    refine ⟨b ++ [i], List.getElem?_set_self (List.getElem?_eq_some_iff.mp hb).1, ?_⟩
    rw [upd_same, List.map_append]
    rfl
  · obtain ⟨d, e1, e2⟩ := h.at_ j c e
    have hca : c ≠ a := fun q => hj (nd_ix h.nd e (by rw [q]; exact ha))
    exact ⟨d, by rw [List.getElem?_set_ne (fun q => hj q.symm)]; exact e1, by rw [upd_ne hca]; exact e2⟩
theorem BxN.get {H0 H : Hp} {B : Addr} {ps : List Addr} {bs : List (List Int)} (h : BxN H0 H B ps bs) {k : Nat} {b : List Int} (hb : bs[k]? = some b) : ∃ a, ps[k]? = some a ∧ H a = some (.lst (b.map V.int)) := by
  have hk : k < bs.length := (List.getElem?_eq_some_iff.mp hb).1
  have hk2 : k < ps.length := by rw [h.len]; exact hk
  obtain ⟨b', e1, e2⟩ := h.at_ k ps[k] (List.getElem?_eq_getElem hk2)
  have e : b' = b := Option.some.inj (e1.symm.trans hb)
  subst e
  exact ⟨_, List.getElem?_eq_getElem hk2, e2⟩
/-! ### data -/
def dInts (ns : List Int) : PyData := .list (ns.map PyData.int)
theorem lay_ints : ∀ ns : List Int, PyData.canLayAll0 (ns.map PyData.int) = true
  | [] => rfl
  | n :: ns => by
    show (PyData.canLay0 (.int n) && PyData.canLayAll0 (ns.map PyData.int)) = true
    rw [lay_ints ns]
    rfl
theorem depth_ints : ∀ ns : List Int, PyData.depthAll (ns.map PyData.int) ≤ 1
  | [] => by decide
  | n :: ns => by
    have := depth_ints ns
    show max (PyData.depth (.int n)) (PyData.depthAll (ns.map PyData.int)) ≤ 1
    have h2 : PyData.depth (.int n) ≤ 1 := by simp [PyData.depth]
    omega
theorem canLay_ints (ns : List Int) : PyData.canLay0 (dInts ns) = true := lay_ints ns
theorem shaped_ints (ns : List Int) : SeqAt.shaped (dInts ns) = true := by
  have h := depth_ints ns
  have h2 : PyData.depth (dInts ns) ≤ 64 := by
    simp only [dInts, PyData.depth]
    omega
  unfold SeqAt.shaped
  rw [canLay_ints, decide_eq_true h2]
  rfl
theorem eqv_ints (ns : List Int) : PyData.eqv (dInts ns) (dInts ns) = true := SeqAt.eqv_refl _ (canLay_ints ns)
theorem dpAll_ints {K : PySem.W.Frag} {H : Hp} : ∀ ns : List Int, DpAll K H (ns.map V.int) (ns.map PyData.int)
  | [] => .nil
  | n :: ns => .cons (.int n) (dpAll_ints ns)
theorem dp_ints {K : PySem.W.Frag} {H : Hp} {a : Addr} {ns : List Int} (h : SqL K H a (ns.map V.int)) : Dp K H (.ref a) (dInts ns) := .lst h (dpAll_ints ns)
theorem small {n : Nat} (h : n ≤ 1000000) : n < sizeLine := by rw [sizeLine_eq]; omega
theorem ixN_nat {n k : Nat} (h : k < n) : ixN n (k : Int) = some k := by
  unfold ixN
  rw [if_pos (by omega), if_pos (by omega)]
  simp
/-! ### xs[i] op= e of a list: the read -/
theorem get_list {X : Cx} : PGet X (rIxL X.K) := by
  intro pins s σ H o i ov iv Q I ro ri h
  obtain ⟨p, xs, k, z, rfl, rfl, hq, he, q⟩ := h
  cases ro
  obtain ⟨t, rfl⟩ := ri
  obtain ⟨its, r, pl, hz⟩ := I.list hq
  obtain ⟨j, h1, h2, h3, h4, h5⟩ := atI_get he
  obtain ⟨w, ew, rw'⟩ := r.get h2
  have hl := r.length
  have hn := line63
  have fin : EP X pins σ Q w s := ⟨z, H, I, rw', q⟩
  by_cases h0 : 0 ≤ k
  · have hj : k.toNat = j := by
      rw [seqIndex_of h0 h5] at h1
      exact Option.some.inj h1
    exact wpAny_getItem_list pl.isList h0 (by omega) (by rw [hj]; simpa using ew) fin
  · have hj : (k + (its.toArray.size : Int)).toNat = j := by
      rw [seqIndex_neg (by omega) h4] at h1
      rw [List.size_toArray, ← hl]
      exact Option.some.inj h1
    exact wpAny_getItem_list_neg pl.isList (by omega) (by rw [List.size_toArray]; omega) (by omega) (by rw [hj]; simpa using ew) fin
/-! ### the promises -/
def spCell (K : PySem.W.Frag) : Sp := fun vs H Q _ => ∃ (a : Addr) (ns : List Int), vs = [.ref a, .int 0] ∧ SqL K H a (ns.map V.int) ∧ ∀ z : Int, Q (.int z) H
def spDraw : Sp := fun vs H Q _ => ∃ (c k many : Int), vs = [.int c, .int k, .int many] ∧ 0 ≤ k ∧ k ≤ 100 ∧ 0 < many ∧ ∀ r : Int, 0 ≤ r → r < many → Q (.int r) H
def spSizes (K : PySem.W.Frag) : Sp := fun vs H Q _ => ∃ (a : Addr) (cs : List Int) (box : Int), vs = [.ref a, .int box] ∧ SqL K H a (cs.map V.int) ∧ cs.length ≤ 1000 ∧ Pow2 box ∧
  ∀ (H' : Hp) (p : Addr) (sz : List Int), Same H H' → H p = none → H' p = some (.lst (sz.map V.int)) → sz.length = cs.length → (∀ s ∈ sz, Pow2 s ∧ s ≤ box) → Q (.ref p) H'
def spFF (K : PySem.W.Frag) : Sp := fun vs H Q _ => ∃ (a : Addr) (sz : List Int) (box : Int), vs = [.int box, .ref a] ∧ SqL K H a (sz.map V.int) ∧ sz.length ≤ 1000 ∧
  ∀ (H' : Hp) (B : Addr) (ord : List (Int × Int)), Same H H' → H B = none → IsOrd sz ord → Bx H' B (ff box sz ord) → Q (.ref B) H'
def spSame : Sp := fun vs H Q _ => ∃ (A B : Addr) (bs : List (List Int)), vs = [.ref A, .ref B] ∧ Bx H A bs ∧ Bx H B bs ∧ bs.length ≤ 1000 ∧ Q (.bl true) H
def spPack (K : PySem.W.Frag) : Sp := fun vs H Q _ => ∃ (a B : Addr) (sz : List Int) (box : Int) (bs : List (List Int)), vs = [.int box, .ref a, .ref B] ∧ SqL K H a (sz.map V.int) ∧ sz.length ≤ 1000 ∧ Bx H B bs ∧ Pack box sz bs ∧
  ∀ H' : Hp, Same H H' → Q (.bl true) H'
def spLaw (K : PySem.W.Frag) : Sp := fun vs H Q _ => ∃ (a : Addr) (ns : List Int), vs = [.ref a] ∧ SqL K H a (ns.map V.int) ∧ ns.length ≤ 63 ∧ ∀ H' : Hp, Q (.bl true) H'
end K7

namespace K7
open PySem PySem.Spec PyProof.Rows L2
section
variable {P : Program} {w : World} {K : PySem.W.Frag} {mg : Str → Option Value} {base : Heap}
theorem boot_int' : bootBuiltins "int" = some (.type "int") := by decide +kernel
/-! ### _law_cell -/
theorem ok_cell {f : Addr} {fd : FuncData} (F : Fun K "_law_cell" "_law_cell" sCell f fd) (mL : mg "len" = none) (mI : mg "int" = none) : FnOk P w K mg base CX0 1 f fd ["_law_script", "_law_k"] (spCell K) := by
  refine F.ok scCell (fun vs H Q E h => ?_) (fun cdv A outer s H vs Q E hr h => ?_)
  · obtain ⟨a, ns, rfl, _⟩ := h
    rfl
  · obtain ⟨a, ns, rfl, hS, k⟩ := h
    refine ⟨_, pss_cons (ps_if (pt_cmpR op_lt (pv 1) (pe_callB call_len_seq (by rfl) mL PySem.boot_len (pa_cons (pv 0) pa_nil)) (nomark _))
        (pss_one (ps_ret (pe_callTy call_int1 (by rfl) mI boot_int' (pa_cons (pe_ix ix_list (pv 0) (pv 1) (fun _ _ => rfl)) pa_nil)))) pss_nil)
      (pss_one (ps_ret pe_int)), ?_⟩
    refine ⟨_, rfl, _, rfl, a, _, rfl, .inl hS, _, _, rfl, rfl, _, rfl, ite2 (fun e => ?_) (fun e => ?_)⟩
    · have e1 := of_decide_eq_true e
      cases ns with
      | nil => simp at e1
      | cons x r => exact ⟨_, rfl, _, rfl, a, _, _, _, rfl, rfl, hS, atI_nat (j := 0) rfl, .inl ⟨x, rfl, k x⟩⟩
    · exact k 0
/-! ### _law_draw -/
theorem ok_draw {f : Addr} {fd : FuncData} (F : Fun K "_law_draw" "_law_draw" sDraw f fd) (mA : mg "abs" = none) (mI : mg "int" = none) (mR : mg "range" = none) : FnOk P w K mg base CX0 1 f fd ["_law_cell_here", "_law_k", "_law_many"] spDraw := by
  refine F.ok scDraw (fun vs H Q E h => ?_) (fun cdv A outer s H vs Q E hr h => ?_)
  · obtain ⟨c, k, many, rfl, _⟩ := h
    rfl
  · obtain ⟨c, k, many, rfl, hk0, hk1, hm, q⟩ := h
    refine ⟨_, pss_cons (ps_set (i := 3) scDraw.nd rfl (.inl rfl) (pe_callB call_abs (by rfl) mA (by decide +kernel) (pa_cons (pe_callTy call_int1 (by rfl) mI boot_int' (pa_cons (pv 0) pa_nil)) pa_nil)))
      (pss_cons (ps_if (pt_cmpR op_lt (pv 3) pe_int (nomark _))
        (pss_cons (ps_set (i := 3) scDraw.nd rfl (.inl rfl) (pe_op op_mod (pe_callTy call_int1 (by rfl) mI boot_int' (pa_cons (pe_op op_add (pe_op op_add (pe_op op_mul (pv 3) pe_int) (pe_op op_mul (pv 1) pe_int)) pe_int) pa_nil)) pe_int))
        (pss_cons (ps_set (i := 3) scDraw.nd rfl (.inl rfl) (pe_op op_mod (pe_callTy call_int1 (by rfl) mI boot_int' (pa_cons (pe_op op_add (pe_op op_add (pe_op op_mul (pv 3) pe_int) (pe_op op_mul (pv 1) pe_int)) pe_int) pa_nil)) pe_int))
        (pss_one (ps_ret (pe_op op_mod (pe_callTy call_int1 (by rfl) mI boot_int' (pa_cons (pv 3) pa_nil)) (pv 2)))))) pss_nil)
      (pss_cons (ps_for PassesOwn.never rfl (pi_range1 (by rfl) mR (pa_cons (pv 1) pa_nil)) (pg_name (i := 4) scDraw.nd rfl (.inl rfl))
        (pss_one (ps_set (i := 3) scDraw.nd rfl (.inl rfl) (pe_op op_fdiv (pv 3) pe_int))))
      (pss_one (ps_ret (pe_op op_mod (pe_op op_mod (pe_callTy call_int1 (by rfl) mI boot_int' (pa_cons (pv 3) pa_nil)) pe_int) (pv 2)))))), ?_⟩
    -- _law_rest = abs(int(_law_cell_here))
    refine ⟨_, rfl, .inl ⟨_, rfl, _, rfl, ?_⟩⟩
    have h0 : 0 ≤ (if c < 0 then -c else c) := by split <;> omega
    generalize (if c < 0 then -c else c) = r0 at h0
    refine ⟨_, rfl, _, _, rfl, rfl, _, rfl, ite2 (fun e => ?_) (fun e => ?_)⟩
    · have e1 : r0 < 1000000000000000000 := of_decide_eq_true e
      refine ⟨_, rfl, _, _, rfl, rfl, .inl ⟨by omega, by omega⟩, _, rfl, _, _, rfl, rfl, .inl ⟨by omega, by omega⟩, _, _, rfl, rfl, _, _, rfl, rfl, .inl ⟨_, rfl, _, _, rfl, rfl, (by show (0 : Int) < 2147483647; decide), ?_⟩⟩
      have h1 := Int.emod_nonneg (r0 * 48271 + k * 69621 + 11) (show (2147483647 : Int) ≠ 0 by decide)
      have h2 := Int.emod_lt_of_pos (r0 * 48271 + k * 69621 + 11) (show (0 : Int) < 2147483647 by decide)
      generalize (r0 * 48271 + k * 69621 + 11) % 2147483647 = r1 at h1 h2
      refine ⟨_, rfl, _, _, rfl, rfl, .inl ⟨by omega, by omega⟩, _, rfl, _, _, rfl, rfl, .inl ⟨by omega, by omega⟩, _, _, rfl, rfl, _, _, rfl, rfl, .inl ⟨_, rfl, _, _, rfl, rfl, (by show (0 : Int) < 2147483629; decide), ?_⟩⟩
      refine ⟨_, rfl, .inl ⟨_, rfl, _, rfl, _, _, rfl, rfl, hm, ?_⟩⟩
      exact q _ (Int.emod_nonneg _ (by omega)) (Int.emod_lt_of_pos _ hm)
    · refine ⟨_, rfl, _, rfl, by omega, by omega, for_range (lo := 0) (n := k.toNat) (fun i σ H' => H' = H ∧ ∃ (r : Int) (v : Option V), σ = [some (.int c), some (.int k), some (.int many), some (.int r), v]) ⟨rfl, r0, none, rfl⟩ ?_ ?_⟩
      · rintro i σ H' hi ⟨rfl, r, v, rfl⟩
        refine ⟨_, rfl, _, _, rfl, rfl, ⟨by decide, by decide⟩, rfl, _, _, rfl⟩
      · rintro σ H' ⟨rfl, r, v, rfl⟩
        refine ⟨_, rfl, .inl ⟨_, rfl, _, _, rfl, rfl, (by show (0 : Int) < 1000; decide), _, rfl, _, _, rfl, rfl, hm, ?_⟩⟩
        exact q _ (Int.emod_nonneg _ (by omega)) (Int.emod_lt_of_pos _ hm)
/-! ### _law_sizes -/
theorem ok_sizes {f fD : Addr} {fd fdD : FuncData} (F : Fun K "_law_sizes" "_law_sizes" sSizes f fd) (FD : Fun K "_law_draw" "_law_draw" sDraw fD fdD) (bD : Binds K fdD ["_law_cell_here", "_law_k", "_law_many"] []) (gD : mg "_law_draw" = some (.ref fD))
    (mA : mg "abs" = none) (mI : mg "int" = none) (mR : mg "range" = none) : FnOk P w K mg base CX0 2 f fd ["_law_cells", "_law_box"] (spSizes K) := by
  have GD : FnOk P w K mg base CX0 1 fD fdD ["_law_cell_here", "_law_k", "_law_many"] spDraw := ok_draw FD mA mI mR
  refine F.ok scSizes (fun vs H Q E h => ?_) (fun cdv A outer s H vs Q E hr h => ?_)
  · obtain ⟨a, cs, box, rfl, _⟩ := h
    rfl
  · obtain ⟨a, cs, box, rfl, hS, hlen, hb, q⟩ := h
    refine ⟨_, pss_cons (ps_set (i := 2) scSizes.nd rfl (.inl rfl) (pe_lst pa_nil))
      (pss_cons (ps_for PassesOwn.never rfl (pi_list (pv 0)) (pg_name (i := 3) scSizes.nd rfl (.inl rfl))
        (pss_cons (ps_set (i := 4) scSizes.nd rfl (.inl rfl) (pv 1))
        (pss_cons (ps_for PassesOwn.never rfl (pi_range1 (by rfl) mR (pa_cons (pe_call GD hr (by rfl) gD FD.kp bD .nil pass0 (pa_cons (pv 3) (pa_cons pe_int (pa_cons pe_int pa_nil)))) pa_nil)) (pg_name (i := 5) scSizes.nd rfl (.inl rfl))
          (pss_one (ps_if (pt_cmpR op_gt (pv 4) pe_int (nomark _)) (pss_one (ps_set (i := 4) scSizes.nd rfl (.inl rfl) (pe_op op_fdiv (pv 4) pe_int))) pss_nil)))
        (pss_one (ps_expr (pe_bm PySem.F.plainAttrs_list PySem.F.slot_list_append PySem.F.type_list_append mt_append (pv 2) (pa_cons (pv 4) pa_nil)))))))
      (pss_one (ps_ret (pv 2)))), ?_⟩
    refine ⟨Nat.zero_le _, fun o no => ?_⟩
    refine ⟨_, rfl, a, rfl, ⟨_, (same_upd no).seq hS⟩, for_list (K := K) (a := a) (xs := cs.map V.int)
      (fun i σ H2 => ∃ (sz : List Int) (v3 v4 v5 : Option V), σ = [some (.ref a), some (.int box), some (.ref o), v3, v4, v5] ∧ Same H H2 ∧ H2 o = some (.lst (sz.map V.int)) ∧ sz.length = i ∧ i ≤ cs.length ∧ ∀ s ∈ sz, Pow2 s ∧ s ≤ box)
      ⟨[], none, none, none, rfl, same_upd no, upd_same, rfl, Nat.zero_le _, fun s hs => by simp at hs⟩ (fun i σ H2 _ ⟨_, _, _, _, _, s2, _⟩ => s2.seq hS) ?_ ?_⟩
    · rintro i y σ H2 hi ⟨sz, v3, v4, v5, rfl, s2, ho, hl, hi2, hp⟩
      obtain ⟨z, hz, rfl⟩ := ints_at hi
      have hi3 : i < cs.length := (List.getElem?_eq_some_iff.mp hz).1
      refine ⟨_, rfl, _, rfl, z, 0, 7, rfl, by decide, by decide, by decide, fun r r0 r7 => ?_⟩
      refine ⟨r, rfl, by omega, by omega, for_range (lo := 0) (n := r.toNat) (fun j σ' H3 => H3 = H2 ∧ ∃ (s : Int) (v : Option V), σ' = [some (.ref a), some (.int box), some (.ref o), some (.int z), some (.int s), v] ∧ Pow2 s ∧ s ≤ box)
        ⟨rfl, box, v5, rfl, hb, Int.le_refl _⟩ ?_ ?_⟩
      · rintro j σ' H3 hj ⟨rfl, s, v, rfl, p2, le⟩
        refine ⟨_, rfl, _, _, rfl, rfl, _, rfl, ite2 (fun e => ?_) (fun e => ?_)⟩
        · have e1 : (1 : Int) < s := of_decide_eq_true e
          have hh := p2.half e1
          refine ⟨_, rfl, _, _, rfl, rfl, ⟨by decide, by decide⟩, rfl, _, _, rfl, hh.1, by have := hh.2; omega⟩
        · exact ⟨rfl, _, _, rfl, p2, le⟩
      · rintro σ' H3 ⟨rfl, s, v, rfl, p2, le⟩
        refine ⟨_, rfl, .inl ⟨rfl, _, SqL.of ho⟩, _, rfl, o, _, _, rfl, rfl, ho, small (by rw [List.length_map]; omega), ?_⟩
        refine ⟨sz ++ [s], _, _, _, rfl, same_put s2 no, ?_, by simp [hl], hi3, fun t ht => ?_⟩
        · rw [upd_same, List.map_append]
          rfl
        · rcases List.mem_append.mp ht with ht | ht
          · exact hp t ht
          · have e : t = s := by simpa using ht
            rw [e]
            exact ⟨p2, le⟩
    · rintro σ H2 ⟨sz, v3, v4, v5, rfl, s2, ho, hl, _, hp⟩
      rw [List.length_map] at hl
      exact ⟨_, rfl, q H2 o sz s2 no ho hl hp⟩
end
end K7

namespace K7
open PySem PySem.Spec PyProof.Rows L2
theorem iteE {b : Bool} {A B : Prop} (e : b = false) (h : B) : if b = true then A else B := by
  rw [e]
  exact iteF h
theorem iteY {b : Bool} {A B : Prop} (e : b = true) (h : A) : if b = true then A else B := by
  rw [e]
  exact iteT h
theorem boot_sum' : bootBuiltins "sum" = some (.builtin "sum") := by decide +kernel
theorem boot_sorted' : bootBuiltins "sorted" = some (.builtin "sorted") := by decide +kernel
theorem boot_isi' : bootBuiltins "isinstance" = some (.builtin "isinstance") := by decide +kernel
theorem boot_list' : bootBuiltins "list" = some (.type "list") := by decide +kernel
theorem boot_intP : bootBuiltins "int" = some (.type "int") := by decide +kernel
theorem inV_no {z : Int} {l : List Int} (h : z ∉ l) : inV (.int z) (l.map V.int) = false := by
  unfold inV
  rw [List.any_eq_false]
  intro y hy
  obtain ⟨a, ha, rfl⟩ := List.mem_map.mp hy
  show ¬ ((a == z) = true)
  intro e
  exact h (by rw [← eq_of_beq e]; exact ha)
theorem flat_intsV (l : List Int) : (l.map V.int).all flatV = true := by
  rw [List.all_eq_true]
  intro y hy
  obtain ⟨a, _, rfl⟩ := List.mem_map.mp hy
  rfl
/-- [sizes[i] for i in pieces], its reading: a new list of the sizes -/
theorem read_sizes {K : PySem.W.Frag} {σ : L2.St} {H : Hp} {Qd : Hp → Prop} {s x : Nat} {a b D : Addr} {sz ps : List Int} (hs : σ[s]? = some (some (.ref a))) (hsx : s ≠ x) (hx : x < σ.length) (hD : H D = none) (ha : SqL K H a (sz.map V.int)) (hb : SqL K H b (ps.map V.int))
    (hin : ∀ i ∈ ps, 0 ≤ i ∧ i < (sz.length : Int)) (hl : ps.length ≤ 1000) (k : Qd (upd H D (.lst ((ps.map (szAt sz)).map V.int)))) :
    ∃ W : Nat → Nat → Hp → Prop, (∃ m, W 0 m (upd H D (.lst []))) ∧ ∀ i m H, W i m H →
      ((Itl K b).stop i H ∧ Qd H) ∨ ((Itl K b).go i H ∧ ∃ Nx : Hp → Prop, (∀ H', Nx H' → ∃ m', m' < m ∧ W (i + 1) m' H') ∧ ∀ y H', (Itl K b).yld i H y H' → gName x y (wipe σ [x]) H' fun σ2 H2 => wipe σ2 [x] = wipe σ [x] ∧ tYes σ2 H2 fun c H3 =>
        if c = true then tOp (rIxL K) (tVar s) (tVar x) σ2 H3 fun y H4 => ∃ acc, H4 D = some (.lst acc) ∧ acc.length < sizeLine ∧ Nx (upd H4 D (.lst (acc ++ [y]))) else Nx H3) := by
  have sm : ∀ o : HO, Same H (upd H D o) := fun o => same_upd hD
  refine lc_list (K := K) (a := b) (xs := ps.map V.int) (fun i H' => H' = upd H D (.lst (((ps.take i).map (szAt sz)).map V.int))) rfl (fun i H' _ e => by rw [e]; exact (sm _).seq hb) ?_ ?_
  · rintro i y H' hi rfl
    obtain ⟨z, hz, rfl⟩ := ints_at hi
    obtain ⟨z0, z1⟩ := hin z (List.mem_of_getElem? hz)
    obtain ⟨n, rfl⟩ : ∃ n : Nat, z = (n : Int) := ⟨z.toNat, by omega⟩
    have hn : n < sz.length := by omega
    have hi2 : i < ps.length := (List.getElem?_eq_some_iff.mp hz).1
    refine ⟨by simp [wipe], ?_⟩
    refine ⟨.ref a, by simp [wipe, List.getElem?_set_ne (Ne.symm hsx), hs], .int n, by simp [wipe, hx], a, _, _, _, rfl, rfl, (sm _).seq ha, at_of (j := n) rfl (at_int (List.getElem?_eq_getElem hn)), _, upd_same, small (by simp; omega), ?_⟩
    rw [upd_upd, List.take_add_one, hz, List.map_append, List.map_append]
    have e : szAt sz (n : Int) = sz[n] := szAt_nat (List.getElem?_eq_getElem hn)
    show upd H D (.lst (_ ++ [V.int sz[n]])) = upd H D (.lst (_ ++ [V.int (szAt sz (n : Int))]))
    rw [e]
  · rintro H' rfl
    rw [List.length_map, List.take_length]
    exact k
section
variable {P : Program} {w : World} {K : PySem.W.Frag} {mg : Str → Option Value} {base : Heap}
/-! ### _law_same_boxes -/
theorem ok_same {f : Addr} {fd : FuncData} (F : Fun K "_law_same_boxes" "_law_same_boxes" sSame f fd) (mL : mg "len" = none) (mI : mg "isinstance" = none) (mT : mg "list" = none) (mR : mg "range" = none) : FnOk P w K mg base CX0 1 f fd ["_law_actual", "_law_due"] spSame := by
  refine F.ok scSame (fun vs H Q E h => ?_) (fun cdv A outer s H vs Q E hr h => ?_)
  · obtain ⟨A, B, bs, rfl, _⟩ := h
    rfl
  · obtain ⟨A0, B, bs, rfl, hA, hB, hlen, q⟩ := h
    obtain ⟨ps, hA1, hA2, hA3⟩ := id hA
    obtain ⟨qs, hB1, hB2, hB3⟩ := id hB
    refine ⟨_, pss_cons (ps_if (PW.pt (pw_or (pt_not (pt_val (pe_callB call_isi (by rfl) mI boot_isi' (pa_cons (pv 0) (pa_cons (pe_bltn (v := .ty "list") (by rfl) mT boot_list' rfl) pa_nil)))))
          (pw_or1 (pt_cmpR op_ne (pe_callB call_len_seq (by rfl) mL PySem.boot_len (pa_cons (pv 0) pa_nil)) (pe_callB call_len_seq (by rfl) mL PySem.boot_len (pa_cons (pv 1) pa_nil)) (nomark _))))) (pss_one (ps_ret pe_bl)) pss_nil)
      (pss_cons (ps_for PassesOwn.never rfl (pi_range1 (by rfl) mR (pa_cons (pe_callB call_len_seq (by rfl) mL PySem.boot_len (pa_cons (pv 1) pa_nil)) pa_nil)) (pg_name (i := 2) scSame.nd rfl (.inl rfl))
        (pss_one (ps_if (PW.pt (pw_or (pt_not (pt_val (pe_callB call_isi (by rfl) mI boot_isi' (pa_cons (pe_ix ix_list (pv 0) (pv 2) (fun _ _ => rfl)) (pa_cons (pe_bltn (v := .ty "list") (by rfl) mT boot_list' rfl) pa_nil)))))
          (pw_or1 (pt_cmpR (op_neD hr.units) (pe_ix ix_list (pv 0) (pv 2) (fun _ _ => rfl)) (pe_ix ix_list (pv 1) (pv 2) (fun _ _ => rfl)) (nomark _))))) (pss_one (ps_ret pe_bl)) pss_nil)))
      (pss_one (ps_ret pe_bl))), ?_⟩
    refine ⟨_, rfl, .ref A0, .ty "list", .type "list", .type "list", true, rfl, .ty _, .base (.lst hA1), kit_ty (by decide +kernel), _, rfl, iteE rfl ?_⟩
    refine ⟨_, rfl, A0, _, rfl, .inl (SqL.of hA1), _, rfl, B, _, rfl, .inl (SqL.of hB1), rfl, _, rfl, iteE (by simp [hA2, hB2]) ?_⟩
    refine ⟨_, rfl, B, _, rfl, .inl (SqL.of hB1), _, rfl, by omega, ?_, for_range (lo := 0) (fun i σ H' => H' = H ∧ ∃ v : Option V, σ = [some (.ref A0), some (.ref B), v]) ⟨rfl, none, rfl⟩ ?_ ?_⟩
    · rw [List.length_map]
      omega
    · rintro i σ H' hi ⟨rfl, v, rfl⟩
      rw [List.length_map] at hi
      have hi1 : i < ps.length := by omega
      have hi2 : i < qs.length := by omega
      have ea := List.getElem?_eq_getElem hi1
      have eb := List.getElem?_eq_getElem hi2
      obtain ⟨b, b1, b2⟩ := hA3 i _ ea
      obtain ⟨b', b1', b2'⟩ := hB3 i _ eb
      have e : b' = b := Option.some.inj (b1'.symm.trans b1)
      subst e
      have gA : atI (ps.map V.ref) (0 + (i : Int)) = some (.ref ps[i]) := at_of (j := i) (by omega) (at_ref ea)
      have gB : atI (qs.map V.ref) (0 + (i : Int)) = some (.ref qs[i]) := at_of (j := i) (by omega) (at_ref eb)
      refine ⟨_, rfl, _, rfl, A0, _, _, _, rfl, rfl, SqL.of hA1, gA, .ref ps[i], .ty "list", .type "list", .type "list", true, rfl, .ty _, .base (.lst b2), kit_ty (by decide +kernel), _, rfl, iteE rfl ?_⟩
      refine ⟨_, rfl, _, rfl, A0, _, _, _, rfl, rfl, SqL.of hA1, gA, _, rfl, _, rfl, B, _, _, _, rfl, rfl, SqL.of hB1, gB, dInts b', dInts b', dp_ints (SqL.of b2), dp_ints (SqL.of b2'), shaped_ints _, shaped_ints _, _, rfl, iteE (by rw [eqv_ints]; rfl) ?_⟩
      exact ⟨rfl, _, rfl⟩
    · rintro σ H' ⟨rfl, v, rfl⟩
      exact q
/-! ### _law_is_packing -/
theorem ok_isp {f : Addr} {fd : FuncData} (F : Fun K "_law_is_packing" "_law_is_packing" sIsP f fd) (mL : mg "len" = none) (mI : mg "int" = none) (mS : mg "sum" = none) : FnOk P w K mg base CX0 1 f fd ["_law_box", "_law_sizes_here", "_law_boxes"] (spPack K) := by
  refine F.ok scIsP (fun vs H Q E h => ?_) (fun cdv A outer s H vs Q E hr h => ?_)
  · obtain ⟨a, B, sz, box, bs, rfl, _⟩ := h
    rfl
  · obtain ⟨a, B, sz, box, bs, rfl, hS, hlen, hB, hp, q⟩ := h
    obtain ⟨ps, hB1, hB2, hB3⟩ := id hB
    obtain ⟨hbl, hbb⟩ := hp.box hlen
    refine ⟨_, pss_cons (ps_set (i := 3) scIsP.nd rfl (.inl rfl) (pe_lst pa_nil))
      (pss_cons (ps_set (i := 4) scIsP.nd rfl (.inl rfl) pe_int)
      (pss_cons (ps_for PassesOwn.never rfl (pi_list (pv 2)) (pg_name (i := 5) scIsP.nd rfl (.inl rfl))
        (pss_cons (ps_if (pt_cmpR op_eq (pe_callB call_len_seq (by rfl) mL PySem.boot_len (pa_cons (pv 5) pa_nil)) pe_int (nomark _)) (pss_one (ps_ret pe_bl)) pss_nil)
        (pss_cons (ps_for PassesOwn.never rfl (pi_list (pv 5)) (pg_name (i := 6) scIsP.nd rfl (.inl rfl))
          (pss_cons (ps_if (PW.pt (pw_or (pt_cmpR op_in_seq (pv 6) (pv 3) (by rfl)) (pw_or1 (pt_not (pt_chain op_le op_lt pe_int (pv 6) (pe_callB call_len_seq (by rfl) mL PySem.boot_len (pa_cons (pv 1) pa_nil))))))) (pss_one (ps_ret pe_bl)) pss_nil)
          (pss_one (ps_expr (pe_bm PySem.F.plainAttrs_list PySem.F.slot_list_append PySem.F.type_list_append mt_append (pv 3) (pa_cons (pv 6) pa_nil))))))
        (pss_cons (ps_set (i := 7) scIsP.nd rfl (.inl rfl) (pe_op op_sub (pv 0) (pe_callB (cr_sum rfl) (by rfl) mS boot_sum' (pa_cons
          (pe_lc (own := [("_law_index", 6)]) (g := gName 6) (tt := tYes) (te := tOp (rIxL K) (tVar 1) (tVar 6)) (by rfl) scIsP.nd (pi_list (pv 5)) (blkOk_by (own := [("_law_index", 6)]) (N := nIsP) (sc := defScope sIsP) (by decide +kernel))
            (fun _ _ _ _ _ => pg_name (i := 6) scIsP.nd rfl (Or.inl rfl)) (fun _ _ _ _ _ => pts_nil) (fun _ _ _ _ _ => pe_ix ix_list (pv 1) (pv 6) (fun _ _ => rfl))) pa_nil))))
        (pss_cons (ps_if (pt_cmpR op_lt (pv 7) pe_int (nomark _)) (pss_one (ps_ret pe_bl)) pss_nil)
        (pss_one (ps_set (i := 4) scIsP.nd rfl (.inl rfl) (pe_op op_add (pv 4) (pe_callTy call_int1 (by rfl) mI boot_intP (pa_cons (pe_cmpR op_gt (pv 7) pe_int (nomark _)) pa_nil)))))))))
      )
      (pss_one (ps_ret (pe_and (pe_cmpR op_eq (pe_callB call_len_seq (by rfl) mL PySem.boot_len (pa_cons (pv 3) pa_nil)) (pe_callB call_len_seq (by rfl) mL PySem.boot_len (pa_cons (pv 1) pa_nil)) (nomark _)) (pe_one (pe_cmpR op_le (pv 4) pe_int (nomark _)))))))), ?_⟩
    refine ⟨Nat.zero_le _, fun S nS => ?_⟩
    refine ⟨_, rfl, B, rfl, ⟨_, SqL.of (same_upd nS _ _ hB1)⟩, for_list (K := K) (a := B) (xs := ps.map V.ref)
      (fun i σ H2 => ∃ v5 v6 v7 : Option V, σ = [some (.int box), some (.ref a), some (.ref B), some (.ref S), some (.int (spare box sz (bs.take i))), v5, v6, v7] ∧ Same H H2 ∧ H2 S = some (.lst (((bs.take i).flatten).map V.int)))
      ⟨none, none, none, rfl, same_upd nS, upd_same⟩ (fun i σ H2 _ ⟨_, _, _, _, s2, _⟩ => SqL.of (s2 _ _ hB1)) ?_ ?_⟩
    · rintro i y σ H2 hi ⟨v5, v6, v7, rfl, s2, hS2⟩
      obtain ⟨p, hp1, rfl⟩ := refs_at hi
      obtain ⟨b, hb, hpb⟩ := hB3 i p hp1
      have hbm : b ∈ bs := List.mem_of_getElem? hb
      have hpb2 := s2 _ _ hpb
      have hne := hp.one b hbm
      -- len(pieces) == 0
      refine ⟨_, rfl, p, _, rfl, .inl (SqL.of hpb2), rfl, _, rfl, ite2 (fun e => ?_) (fun _ => ?_)⟩
      · exfalso
        have e1 := V.int.inj (of_decide_eq_true e)
        rw [List.length_map] at e1
        exact hne (List.eq_nil_of_length_eq_zero (by omega))
      -- the pieces, one by one
      refine ⟨_, rfl, p, rfl, ⟨_, SqL.of hpb2⟩, for_list (K := K) (a := p) (xs := b.map V.int)
        (fun j σ' H3 => ∃ v6 : Option V, σ' = [some (.int box), some (.ref a), some (.ref B), some (.ref S), some (.int (spare box sz (bs.take i))), some (.ref p), v6, v7] ∧ Same H H3 ∧ H3 S = some (.lst (((bs.take i).flatten ++ b.take j).map V.int)))
        ⟨v6, rfl, s2, by rw [List.take_zero, List.append_nil]; exact hS2⟩ (fun j σ' H3 _ ⟨_, _, s3, _⟩ => SqL.of (s3 _ _ hpb)) ?_ ?_⟩
      · rintro j y σ' H3 hj ⟨v6, rfl, s3, hS3⟩
        obtain ⟨z, hz, rfl⟩ := ints_at hj
        obtain ⟨z0, z1⟩ := hp.mem hbm (List.mem_of_getElem? hz)
        have hno := nodup_ahead hp.nodup hb hz
        refine ⟨_, rfl, _, rfl, S, _, rfl, .inl (SqL.of hS3), rfl, flat_intsV _, _, rfl, iteE (show inV _ _ = false from inV_no hno) ?_⟩
        refine ⟨_, rfl, _, _, rfl, rfl, _, rfl, iteY (decide_eq_true z0) ?_⟩
        refine ⟨_, rfl, a, _, rfl, .inl (s3.seq hS), _, _, rfl, rfl, _, rfl, iteE (by rw [List.length_map, decide_eq_true z1]; rfl) ?_⟩
        have hl1 : ((bs.take i).flatten ++ b.take j).length ≤ 2000 := by
          have h1 := flat_len_le (bs := bs) (i := i)
          have h2 := hp.len
          have h3 := hbb b hbm
          rw [List.length_append, List.length_take]
          omega
        refine ⟨_, rfl, .inl ⟨rfl, _, SqL.of hS3⟩, _, rfl, S, _, _, rfl, rfl, hS3, small (by rw [List.length_map]; omega), ?_⟩
        refine ⟨_, rfl, same_put s3 nS, ?_⟩
        rw [upd_same, List.take_add_one, hz, ← List.append_assoc, List.map_append (l₁ := (bs.take i).flatten ++ b.take j)]
        rfl
      · rintro σ' H3 ⟨v6, rfl, s3, hS3⟩
        have hpb3 := s3 _ _ hpb
        -- room = box - sum([..])
        refine ⟨_, rfl, _, rfl, p, rfl, ⟨_, SqL.of hpb3⟩, fun D hD => read_sizes (a := a) (b := p) (sz := sz) (ps := b) rfl (by decide) (by simp) hD (s3.seq hS) (SqL.of hpb3) (fun z hz => hp.mem hbm hz) (hbb b hbm) ?_⟩
        refine ⟨D, b.map (szAt sz), rfl, SqL.of upd_same, _, _, rfl, rfl, ?_⟩
        have hle := hp.le b hbm
        have eu : (b.map (szAt sz)).sum = used sz b := rfl
        rw [eu]
        refine ⟨_, rfl, _, _, rfl, rfl, _, rfl, iteE (decide_eq_false (by omega)) ?_⟩
        refine ⟨_, rfl, _, rfl, _, _, rfl, rfl, .inr ⟨_, rfl, _, _, rfl, rfl, ?_⟩⟩
        have es : spare box sz (bs.take i) + (if decide (0 < box - used sz b) = true then (1 : Int) else 0) = spare box sz (bs.take (i + 1)) := by
          rw [spare_take hb]
          by_cases hu : used sz b < box
          · rw [if_pos hu, if_pos (decide_eq_true (by omega))]
          · rw [if_neg hu, if_neg (by rw [decide_eq_false (by omega)]; decide)]
        refine ⟨some (.ref p), v6, some (.int (box - used sz b)), ?_, ?_, ?_⟩
        · rw [← es]
          rfl
        · exact same_put s3 (s3.free hD)
        · rw [upd_ne (ne_of_none hS3 hD), hS3, List.length_map, List.take_length, flat_take hb]
    · rintro σ H2 ⟨v5, v6, v7, rfl, s2, hS2⟩
      have et : bs.take (ps.map V.ref).length = bs := List.take_of_length_le (by rw [List.length_map]; omega)
      rw [et] at hS2 ⊢
      refine ⟨_, rfl, S, _, rfl, .inl (SqL.of hS2), _, rfl, a, _, rfl, .inl (s2.seq hS), rfl, _, rfl, iteY (decide_eq_true (by rw [List.length_map, List.length_map, hp.len])) ?_⟩
      refine ⟨_, rfl, _, _, rfl, rfl, ?_⟩
      show Q (V.bl (decide (spare box sz bs ≤ 1))) H2
      rw [decide_eq_true hp.spare]
      exact q H2 s2
/-! ### accepts_packing -/
theorem ok_ap {f : Addr} {fd : FuncData} (F : Fun K "accepts_packing" "accepts_packing" sAP f fd) (mL : mg "len" = none) (mO : mg "sorted" = none) (mT : mg "list" = none) (mR : mg "range" = none) (mS : mg "sum" = none) : FnOk P w K mg base CX0 1 f fd ["box", "sizes", "boxes"] (spPack K) := by
  refine F.ok scAP (fun vs H Q E h => ?_) (fun cdv A outer s H vs Q E hr h => ?_)
  · obtain ⟨a, B, sz, box, bs, rfl, _⟩ := h
    rfl
  · obtain ⟨a, B, sz, box, bs, rfl, hS, hlen, hB, hp, q⟩ := h
    obtain ⟨ps, hB1, hB2, hB3⟩ := id hB
    obtain ⟨hbl, hbb⟩ := hp.box hlen
    refine ⟨_, pss_cons (ps_set (i := 3) scAP.nd rfl (.inl rfl) (pe_lst pa_nil))
      (pss_cons (ps_set (i := 4) scAP.nd rfl (.inl rfl) pe_int)
      (pss_cons (ps_for PassesOwn.never rfl (pi_list (pv 2)) (pg_name (i := 5) scAP.nd rfl (.inl rfl))
        (pss_cons (ps_if (pt_cmpR op_eq (pe_callB call_len_seq (by rfl) mL PySem.boot_len (pa_cons (pv 5) pa_nil)) pe_int (nomark _)) (pss_one (ps_ret pe_bl)) pss_nil)
        (pss_one (ps_expr (pe_bm PySem.F.plainAttrs_list PySem.F.slot_list_extend PySem.F.type_list_extend mt_extend (pv 3) (pa_cons (pv 5) pa_nil))))))
      (pss_cons (ps_if (pt_cmpR (op_neD hr.units) (pe_callB cr_sortedI (by rfl) mO boot_sorted' (pa_cons (pv 3) pa_nil)) (pe_listRg rfl (by rfl) mT (prg_1 (by rfl) mR (pe_callB call_len_seq (by rfl) mL PySem.boot_len (pa_cons (pv 1) pa_nil)))) (nomark _)) (pss_one (ps_ret pe_bl)) pss_nil)
      (pss_cons (ps_for PassesOwn.never rfl (pi_list (pv 2)) (pg_name (i := 5) scAP.nd rfl (.inl rfl))
        (pss_cons (ps_set (i := 6) scAP.nd rfl (.inl rfl) (pe_op op_sub (pv 0) (pe_callB (cr_sum rfl) (by rfl) mS boot_sum' (pa_cons
          (pe_lc (own := [("index", 7)]) (g := gName 7) (tt := tYes) (te := tOp (rIxL K) (tVar 1) (tVar 7)) (by rfl) scAP.nd (pi_list (pv 5)) (blkOk_by (own := [("index", 7)]) (N := nAP) (sc := defScope sAP) (by decide +kernel))
            (fun _ _ _ _ _ => pg_name (i := 7) scAP.nd rfl (Or.inl rfl)) (fun _ _ _ _ _ => pts_nil) (fun _ _ _ _ _ => pe_ix ix_list (pv 1) (pv 7) (fun _ _ => rfl))) pa_nil))))
        (pss_cons (ps_if (pt_cmpR op_lt (pv 6) pe_int (nomark _)) (pss_one (ps_ret pe_bl)) pss_nil)
        (pss_one (ps_if (pt_cmpR op_gt (pv 6) pe_int (nomark _)) (pss_one (ps_aug (i := 4) scAP.nd rfl (.inl rfl) pe_int ip_add)) pss_nil)))))
      (pss_one (ps_ret (pe_cmpR op_le (pv 4) pe_int (nomark _)))))))), ?_⟩
    refine ⟨Nat.zero_le _, fun S nS => ?_⟩
    refine ⟨_, rfl, B, rfl, ⟨_, SqL.of (same_upd nS _ _ hB1)⟩, for_list (K := K) (a := B) (xs := ps.map V.ref)
      (fun i σ H2 => ∃ v5 : Option V, σ = [some (.int box), some (.ref a), some (.ref B), some (.ref S), some (.int 0), v5, none, none] ∧ Same H H2 ∧ H2 S = some (.lst (((bs.take i).flatten).map V.int)))
      ⟨none, rfl, same_upd nS, upd_same⟩ (fun i σ H2 _ ⟨_, _, s2, _⟩ => SqL.of (s2 _ _ hB1)) ?_ ?_⟩
    · rintro i y σ H2 hi ⟨v5, rfl, s2, hS2⟩
      obtain ⟨p, hp1, rfl⟩ := refs_at hi
      obtain ⟨b, hb, hpb⟩ := hB3 i p hp1
      have hbm : b ∈ bs := List.mem_of_getElem? hb
      have hpb2 := s2 _ _ hpb
      have hne := hp.one b hbm
      refine ⟨_, rfl, p, _, rfl, .inl (SqL.of hpb2), rfl, _, rfl, ite2 (fun e => ?_) (fun _ => ?_)⟩
      · exfalso
        have e1 := V.int.inj (of_decide_eq_true e)
        rw [List.length_map] at e1
        exact hne (List.eq_nil_of_length_eq_zero (by omega))
      have hl1 : (bs.take i).flatten.length + b.length ≤ 2000 := by
        have h1 := flat_len_le (bs := bs) (i := i)
        have h2 := hp.len
        have h3 := hbb b hbm
        omega
      refine ⟨_, rfl, .inl ⟨rfl, _, SqL.of hS2⟩, _, rfl, S, p, _, _, rfl, rfl, hS2, hpb2, Nat.le_of_lt (small (by rw [List.length_map, List.length_map]; omega)), ?_⟩
      refine ⟨_, rfl, same_put s2 nS, ?_⟩
      rw [upd_same, flat_take hb, List.map_append]
    · rintro σ H2 ⟨v5, rfl, s2, hS2⟩
      have et : bs.take (ps.map V.ref).length = bs := List.take_of_length_le (by rw [List.length_map]; omega)
      rw [et] at hS2
      -- sorted(indexes) != list(range(len(sizes)))
      refine ⟨_, rfl, S, bs.flatten, rfl, SqL.of hS2, fun ns T pm sr nT => ?_⟩
      have s3 : Same H (upd H2 T (.lst (ns.map V.int))) := same_put s2 (s2.free nT)
      refine ⟨_, rfl, a, _, rfl, .inl (s3.seq hS), _, rfl, .of_le (by decide) (by rw [List.length_map]; omega) (by decide) (by omega), fun R nR => ?_⟩
      have en : ns = iota sz.length := ints_uniq sr (iota_srt _) (pm.trans hp.perm)
      have nRT : T ≠ R := fun e => by
        rw [← e, upd_same] at nR
        cases nR
      have eR : rgV 0 ((sz.map V.int).length : Int) = (iota sz.length).map V.int := by
        unfold rgV iota
        rw [List.map_map, List.length_map]
        have e0 : ((sz.length : Int) - 0).toNat = sz.length := by omega
        rw [e0]
        refine List.map_congr_left fun j _ => ?_
        show V.int (0 + (j : Int)) = V.int (Int.ofNat j)
        rw [Int.zero_add]
        rfl
      rw [eR]
      refine ⟨dInts ns, dInts (iota sz.length), dp_ints (SqL.of (by rw [upd_ne nRT, upd_same])), dp_ints (SqL.of upd_same), shaped_ints _, shaped_ints _, _, rfl, iteE (by rw [en, eqv_ints]; rfl) ?_⟩
      have s4 : Same H (upd (upd H2 T (.lst (ns.map V.int))) R (.lst ((iota sz.length).map V.int))) := same_put s3 (s3.free nR)
      generalize upd (upd H2 T (.lst (ns.map V.int))) R (.lst ((iota sz.length).map V.int)) = H4 at s4
      -- the second loop
      refine ⟨_, rfl, B, rfl, ⟨_, SqL.of (s4 _ _ hB1)⟩, for_list (K := K) (a := B) (xs := ps.map V.ref)
        (fun i σ H5 => ∃ v5 v6 : Option V, σ = [some (.int box), some (.ref a), some (.ref B), some (.ref S), some (.int (spare box sz (bs.take i))), v5, v6, none] ∧ Same H H5)
        ⟨v5, none, rfl, s4⟩ (fun i σ H5 _ ⟨_, _, _, s5⟩ => SqL.of (s5 _ _ hB1)) ?_ ?_⟩
      · rintro i y σ H5 hi ⟨v5, v6, rfl, s5⟩
        obtain ⟨p, hp1, rfl⟩ := refs_at hi
        obtain ⟨b, hb, hpb⟩ := hB3 i p hp1
        have hbm : b ∈ bs := List.mem_of_getElem? hb
        have hpb5 := s5 _ _ hpb
        refine ⟨_, rfl, _, rfl, p, rfl, ⟨_, SqL.of hpb5⟩, fun D hD => read_sizes (a := a) (b := p) (sz := sz) (ps := b) rfl (by decide) (by simp) hD (s5.seq hS) (SqL.of hpb5) (fun z hz => hp.mem hbm hz) (hbb b hbm) ?_⟩
        refine ⟨D, b.map (szAt sz), rfl, SqL.of upd_same, _, _, rfl, rfl, ?_⟩
        have hle := hp.le b hbm
        have eu : (b.map (szAt sz)).sum = used sz b := rfl
        rw [eu]
        have s6 : Same H (upd H5 D (.lst ((b.map (szAt sz)).map V.int))) := same_put s5 (s5.free hD)
        refine ⟨_, rfl, _, _, rfl, rfl, _, rfl, iteE (decide_eq_false (by omega)) ?_⟩
        refine ⟨_, rfl, _, _, rfl, rfl, _, rfl, ite2 (fun e => ?_) (fun e => ?_)⟩
        · have e1 : (0 : Int) < box - used sz b := of_decide_eq_true e
          refine ⟨_, rfl, _, _, rfl, rfl, some (.ref p), some (.int (box - used sz b)), ?_, s6⟩
          rw [spare_take hb, if_pos (show used sz b < box by omega)]
          rfl
        · have e1 : ¬ (0 : Int) < box - used sz b := fun z => e (decide_eq_true z)
          refine ⟨some (.ref p), some (.int (box - used sz b)), ?_, s6⟩
          rw [spare_take hb, if_neg (show ¬ used sz b < box by omega), Int.add_zero]
          rfl
      · rintro σ H5 ⟨v5, v6, rfl, s5⟩
        rw [et]
        refine ⟨_, rfl, _, _, rfl, rfl, ?_⟩
        show Q (V.bl (decide (spare box sz bs ≤ 1))) H5
        rw [decide_eq_true hp.spare]
        exact q H5 s5
end
end K7

namespace K7
open PySem PySem.Spec PyProof.Rows L2
/-! ### a while that looks for a place; an if whose ways meet -/
theorem while_scan {c : TT} {tb : TS} {D : Ends} {σ0 : L2.St} {H0 : Hp} (st : Nat → L2.St) (L : Nat) (full : Nat → Prop) (Ok : Hp → Prop) (h0 : σ0 = st 0) (hOk : Ok H0)
    (hgo : ∀ n H, n ≤ L → Ok H → ∀ Q : Bool → Hp → Prop, (n < L → full n → ∀ H', Ok H' → Q true H') → (n = L → ∀ H', Ok H' → Q false H') → (n < L → ¬ full n → ∀ H', Ok H' → Q false H') → c (st n) H Q)
    (hb : ∀ n H (D' : Ends), Ok H → D'.nx (st (n + 1)) H → tb D' (st n) H)
    (hd : ∀ n H, n ≤ L → Ok H → (∀ j, j < n → full j) → (n < L → ¬ full n) → D.nx (st n) H) : tWhile c tb D σ0 H0 := by
  refine ⟨fun m σ H => ∃ n, σ = st n ∧ n + m = L ∧ Ok H ∧ ∀ j, j < n → full j, ⟨L, 0, h0, by omega, hOk, fun j hj => absurd hj (Nat.not_lt_zero j)⟩, ?_⟩
  rintro m σ H ⟨n, rfl, hm, ok, hf⟩
  refine hgo n H (by omega) ok _ (fun hl f H' ok' => ?_) (fun e H' ok' => ?_) (fun hl f H' ok' => ?_)
  · refine iteT ⟨fun σ' H'' => ∃ m', m' < m ∧ ∃ n', σ' = st n' ∧ n' + m' = L ∧ Ok H'' ∧ ∀ j, j < n' → full j, fun _ _ h => h, hb n H' _ ok' ?_⟩
    refine ⟨m - 1, by omega, n + 1, rfl, by omega, ok', fun j hj => ?_⟩
    by_cases e : j = n
    · rw [e]; exact f
    · exact hf j (by omega)
  · exact iteF (hd n H' (by omega) ok' hf fun hl => by omega)
  · exact iteF (hd n H' (by omega) ok' hf fun _ => f)
theorem if_join {c : TT} {t u r : TS} {D : Ends} {σ : L2.St} {H : Hp} {p : Prop} (E : Hp → Prop) (hc : ∀ Q : Bool → Hp → Prop, (p → Q true H) → (¬ p → Q false H) → c σ H Q)
    (ht : p → ∀ D' : Ends, (∀ H', E H' → D'.nx σ H') → t D' σ H) (hu : ¬ p → ∀ D' : Ends, (∀ H', E H' → D'.nx σ H') → u D' σ H) (hd : ∀ H', E H' → r D σ H') : tSeq (tIfS c t u) r D σ H :=
  hc _ (fun h => iteT (ht h { D with nx := r D } hd)) fun h => iteF (hu h { D with nx := r D } hd)
/-! ### the order that sorted gives -/
/-- the two ints of the tuple at x -/
def pairOf (H : Hp) (x : V) : Int × Int := match x with
  | .ref t => match H t with
    | some (.tup [.int i, .int j]) => (i, j)
    | _ => (0, 0)
  | _ => (0, 0)
theorem pairOf_at {H : Hp} {t : Addr} {i j : Int} (h : H t = some (.tup [.int i, .int j])) : pairOf H (.ref t) = (i, j) := by
  unfold pairOf
  simp only [h]
/-- ts: tuples (minus the size, the index), one for each size -/
def Tups (sz : List Int) (H : Hp) (ts : List Addr) : Prop := ∀ (j : Nat) (t : Addr), ts[j]? = some t → ∃ v, sz[j]? = some v ∧ H t = some (.tup [.int (-v), .int (j : Int)])
theorem tups_pair {sz : List Int} {H : Hp} {ts : List Addr} (h : Tups sz H ts) : ∀ x ∈ ts.map V.ref, ∃ t, x = V.ref t ∧ H t = some (.tup [.int (pairOf H x).1, .int (pairOf H x).2]) := by
  intro x hx
  obtain ⟨t, ht, rfl⟩ := List.mem_map.mp hx
  obtain ⟨j, hj⟩ := List.getElem?_of_mem ht
  obtain ⟨v, _, e⟩ := h j t hj
  refine ⟨t, rfl, ?_⟩
  rw [pairOf_at e]
  exact e
theorem tups_map {sz : List Int} {H : Hp} {ts : List Addr} (h : Tups sz H ts) (hl : ts.length = sz.length) : (ts.map V.ref).map (pairOf H) = pairs sz := by
  apply List.ext_getElem
  · simp [pairs, hl]
  · intro j h1 h2
    have h3 : j < ts.length := by simpa using h1
    obtain ⟨v, e1, e2⟩ := h j _ (List.getElem?_eq_getElem h3)
    rw [List.getElem_map, List.getElem_map, pairOf_at e2]
    have e3 : (pairs sz)[j] = (-(sz.getD j 0), (j : Int)) := by simp [pairs]
    rw [e3, List.getD_eq_getElem?_getD, e1]
    rfl
theorem tups_ord {sz : List Int} {H : Hp} {ts : List Addr} {ys : List V} (h : Tups sz H ts) (hl : ts.length = sz.length) (hs : SrtO.Srtd (ltP (pairOf H)) ys) (hb : SrtO.Stb (ltP (pairOf H)) ys (ts.map V.ref)) : IsOrd sz (ys.map (pairOf H)) := by
  refine ⟨?_, ?_⟩
  · rw [← tups_map h hl]
    exact hb.perm.map _
  · refine List.pairwise_map.mpr (hs.imp fun {x y} q => ?_)
    have q2 := SrtO.lexB_no.mp q
    unfold LexLe
    omega
/-- [(-size, index) ..] has its tuples at ts: what sorted makes of it is an order; its items -/
theorem tups_item {sz : List Int} {H : Hp} {ts : List Addr} {ys : List V} (h : Tups sz H ts) (hb : SrtO.Stb (ltP (pairOf H)) ys (ts.map V.ref)) {i : Nat} {y : V} (hi : ys[i]? = some y) :
    ∃ (t : Addr) (p : Int × Int), y = .ref t ∧ (ys.map (pairOf H))[i]? = some p ∧ H t = some (.tup [.int p.1, .int p.2]) := by
  obtain ⟨t, e1, e2⟩ := tups_pair h y (hb.perm.mem_iff.mp (List.mem_of_getElem? hi))
  exact ⟨t, pairOf H y, e1, by rw [List.getElem?_map, hi]; rfl, e2⟩
theorem ord_at {sz : List Int} {ord : List (Int × Int)} (h : IsOrd sz ord) {i : Nat} {p : Int × Int} (hi : ord[i]? = some p) : szAt sz p.2 = -p.1 ∧ 0 ≤ p.2 ∧ p.2 < (sz.length : Int) := by
  obtain ⟨k, v, hv, rfl⟩ := pairs_mem (h.perm.mem_iff.mp (List.mem_of_getElem? hi))
  have := (List.getElem?_eq_some_iff.mp hv).1
  refine ⟨?_, by show (0 : Int) ≤ (k : Int); omega, by show (k : Int) < _; omega⟩
  show szAt sz (k : Int) = - -v
  rw [szAt_nat hv, Int.neg_neg]
theorem ord_len {sz : List Int} {ord : List (Int × Int)} (h : IsOrd sz ord) : ord.length = sz.length := by
  rw [h.perm.length_eq]
  simp [pairs]
section
variable {P : Program} {w : World} {K : PySem.W.Frag} {mg : Str → Option Value} {base : Heap}
/-! ### first_fit -/
theorem ok_ff {f : Addr} {fd : FuncData} (F : Fun K "first_fit" "first_fit" sFF f fd) (mL : mg "len" = none) (mO : mg "sorted" = none) (mE : mg "enumerate" = none) : FnOk P w K mg base CX0 1 f fd ["box", "sizes"] (spFF K) := by
  refine F.ok scFF (fun vs H Q E h => ?_) (fun cdv A outer s H vs Q E hr h => ?_)
  · obtain ⟨a, sz, box, rfl, _⟩ := h
    rfl
  · obtain ⟨a, sz, box, rfl, hS, hlen, q⟩ := h
    refine ⟨_, pss_cons (ps_set (i := 2) scFF.nd rfl (.inl rfl) (pe_lst pa_nil))
      (pss_cons (ps_set (i := 3) scFF.nd rfl (.inl rfl) (pe_lst pa_nil))
      (pss_cons (ps_for PassesOwn.never rfl
        (pi_list (pe_callB cr_sortedPO (by rfl) mO boot_sorted' (pa_cons
          (pe_lc (own := [("index", 4), ("size", 5)]) (g := gTup K 2 (gCons (gName 4) (gCons (gName 5) gNil))) (tt := tYes) (te := tTup (tCons (tUn (rU fun i => .int (-i)) (tVar 5)) (tCons (tVar 4) tNil)))
            (by rfl) scFF.nd (pi_enum (by rfl) mE (pa_cons (pv 1) pa_nil)) (blkOk_by (own := [("index", 4), ("size", 5)]) (N := nFF) (sc := defScope sFF) (by decide +kernel))
            (fun _ _ _ _ _ => pg_tup rfl (pgs_cons (pg_name (i := 4) scFF.nd rfl (Or.inl rfl)) (pgs_cons (pg_name (i := 5) scFF.nd rfl (Or.inl rfl)) pgs_nil)))
            (fun _ _ _ _ _ => pts_nil)
            (fun _ _ _ _ _ => pe_tup (pa_cons (pe_un un_neg (pv 5)) (pa_cons (pv 4) pa_nil)))) pa_nil)))
        (pg_tup rfl (pgs_cons (pg_name (i := 5) scFF.nd rfl (Or.inl rfl)) (pgs_cons (pg_name (i := 4) scFF.nd rfl (Or.inl rfl)) pgs_nil)))
        (pss_cons (ps_set (i := 6) scFF.nd rfl (.inl rfl) pe_int)
        (pss_cons (ps_while PassesOwn.never (PW.pt (pw_and (pt_cmpR op_lt (pv 6) (pe_callB call_len_seq (by rfl) mL PySem.boot_len (pa_cons (pv 2) pa_nil)) (nomark _))
            (pw_and1 (pt_cmpR op_lt (pe_ix ix_list (pv 3) (pv 6) (fun _ _ => rfl)) (pe_un un_neg (pv 5)) (nomark _)))))
          (pss_one (ps_aug (i := 6) scFF.nd rfl (.inl rfl) pe_int ip_add)))
        (pss_cons (ps_if (pt_cmpR op_eq (pv 6) (pe_callB call_len_seq (by rfl) mL PySem.boot_len (pa_cons (pv 2) pa_nil)) (nomark _))
          (pss_cons (ps_expr (pe_bm PySem.F.plainAttrs_list PySem.F.slot_list_append PySem.F.type_list_append mt_append (pv 2) (pa_cons (pe_lst pa_nil) pa_nil)))
          (pss_one (ps_expr (pe_bm PySem.F.plainAttrs_list PySem.F.slot_list_append PySem.F.type_list_append mt_append (pv 3) (pa_cons (pv 0) pa_nil))))) pss_nil)
        (pss_cons (ps_expr (pe_bm PySem.F.plainAttrs_list PySem.F.slot_list_append PySem.F.type_list_append mt_append (pe_ix ix_list (pv 2) (pv 6) (fun _ _ => rfl)) (pa_cons (pv 4) pa_nil)))
        (pss_one (ps_augS (pv 3) (pv 6) get_list (pv 5) ip_add set_list)))))))
      (pss_one (ps_ret (pv 2))))), ?_⟩
    refine ⟨Nat.zero_le _, fun B nB => ?_⟩
    refine ⟨Nat.zero_le _, fun R nR => ?_⟩
    have nRB : R ≠ B := fun e => by
      rw [e, upd_same] at nR
      cases nR
    have nR0 : H R = none := by
      rw [upd_ne nRB] at nR
      exact nR
    have s2 : Same H (upd (upd H B (.lst [])) R (.lst [])) := same_put (same_upd nB) nR0
    have hB2 : (upd (upd H B (.lst [])) R (.lst [])) B = some (.lst []) := by rw [upd_ne nRB.symm, upd_same]
    have hR2 : (upd (upd H B (.lst [])) R (.lst [])) R = some (.lst []) := upd_same
    generalize (upd (upd H B (.lst [])) R (.lst [])) = H2 at s2 hB2 hR2
    -- sorted([(-size, index) for index, size in enumerate(sizes)])
    refine ⟨_, rfl, a, _, rfl, s2.seq hS, fun D nD => lc_it (walk_enum (K := K) (a := a) (xs := sz.map V.int))
      (fun i H3 => Same H2 H3 ∧ i ≤ sz.length ∧ ∃ ts : List Addr, H3 D = some (.lst (ts.map V.ref)) ∧ ts.length = i ∧ Tups sz H3 ts)
      ⟨same_upd nD, Nat.zero_le _, [], upd_same, rfl, fun j t e => by simp at e⟩ (fun i H3 _ ⟨s3, _⟩ => s3.seq (s2.seq hS)) ?_ ?_⟩
    · rintro i x H3 H4 hi ⟨s3, hi0, ts, hD3, hl, ht⟩ ⟨T, x1, y1, rfl, nT, rfl, e1, e2⟩
      rw [List.length_map] at hi
      obtain ⟨v, hv, rfl⟩ := ints_at e2
      have e1' : V.int (i : Nat) = x1 := Option.some.inj e1
      subst e1'
      refine ⟨T, _, rfl, SqT.of upd_same, rfl, _, _, rfl, _, _, rfl, rfl, rfl, ?_⟩
      refine ⟨.int v, rfl, v, rfl, .int (i : Nat), rfl, by show 2 ≤ sizeLine; decide, fun p np => ?_⟩
      have nTD : D ≠ T := ne_of_none hD3 nT
      have npT : p ≠ T := fun e => by
        rw [e, upd_same] at np
        cases np
      have np3 : H3 p = none := by
        rw [upd_ne npT] at np
        exact np
      have npD : D ≠ p := ne_of_none hD3 np3
      refine ⟨ts.map V.ref, by rw [upd_ne npD, upd_ne nTD]; exact hD3, small (by rw [List.length_map]; omega), ?_, by omega, ts ++ [p], ?_, by simp [hl], ?_⟩
      · exact same_put (same_put (same_put s3 (s3.free nT)) (s3.free np3)) nD
      · rw [upd_same, List.map_append]
        rfl
      · intro j t e
        by_cases hj : j < ts.length
        · rw [List.getElem?_append_left hj] at e
          obtain ⟨v', w1, w2⟩ := ht j t e
          refine ⟨v', w1, ?_⟩
          rw [upd_ne (ne_of w2 hD3 (by intro z; cases z)), upd_ne (ne_of_none w2 np3), upd_ne (ne_of_none w2 nT)]
          exact w2
        · have hl2 : j < (ts ++ [p]).length := (List.getElem?_eq_some_iff.mp e).1
          have hj2 : j = ts.length := by simp at hl2; omega
          subst hj2
          have e3 : p = t := by simpa using e
          subst e3
          refine ⟨v, by rw [hl]; exact hv, ?_⟩
          rw [upd_ne npD.symm, upd_same, hl]
    · rintro H3 ⟨s3, _, ts, hD3, hl, ht⟩
      rw [List.length_map] at hl
      refine ⟨D, ts.map V.ref, pairOf H3, rfl, SqL.of hD3, tups_pair ht, fun ys T hs hb nT => ?_⟩
      have io : IsOrd sz (ys.map (pairOf H3)) := tups_ord ht hl hs hb
      have hit := fun {i y} => tups_item (i := i) (y := y) ht hb
      have hB3 := s3 _ _ hB2
      have hR3 := s3 _ _ hR2
      have s4 : Same H3 (upd H3 T (.lst ys)) := same_upd nT
      have sH : Same H (upd H3 T (.lst ys)) := (s2.trans s3).trans s4
      have hB4 := s4 _ _ hB3
      have hR4 := s4 _ _ hR3
      have hT4 : (upd H3 T (.lst ys)) T = some (.lst ys) := upd_same
      have nTB : T ≠ B := (ne_of_none hB3 nT).symm
      have nTR : T ≠ R := (ne_of_none hR3 nT).symm
      have hit4 : ∀ {i : Nat} {y : V}, ys[i]? = some y → ∃ (t : Addr) (p : Int × Int), y = .ref t ∧ (ys.map (pairOf H3))[i]? = some p ∧ (upd H3 T (.lst ys)) t = some (.tup [.int p.1, .int p.2]) := fun {i y} e => by
        obtain ⟨t, p, a1, a2, a3⟩ := hit e
        exact ⟨t, p, a1, a2, s4 _ _ a3⟩
      have hyl : ys.length = sz.length := by
        have := ord_len io
        rw [List.length_map] at this
        exact this
      generalize (ys.map (pairOf H3)) = ord at io hit4
      generalize (upd H3 T (.lst ys)) = H4 at s4 sH hB4 hR4 hT4 hit4
      have hol := ord_len io
      -- the pieces in their order
      refine ⟨T, rfl, ⟨_, SqL.of hT4⟩, for_list (K := K) (a := T) (xs := ys)
        (fun i σ H5 => ∃ (ps : List Addr) (v4 v5 v6 : Option V), σ = [some (.int box), some (.ref a), some (.ref B), some (.ref R), v4, v5, v6] ∧ SameX B R H4 H5 ∧ BxN H4 H5 B ps (ff box sz (ord.take i)) ∧
          H5 R = some (.lst ((ff box sz (ord.take i)).map fun b => V.int (box - used sz b))))
        ⟨[], none, none, none, rfl, .refl _, ⟨hB4, rfl, by simp, by simp, by simp, by simp⟩, hR4⟩ (fun i σ H5 _ ⟨_, _, _, _, _, sx, _⟩ => SqL.of (sx _ _ hT4 nTB nTR)) ?_ ?_⟩
      · rintro i y σ H5 hi ⟨ps, v4, v5, v6, rfl, sx, bx, hR5⟩
        obtain ⟨t, p, rfl, hp, ht4⟩ := hit4 hi
        obtain ⟨hz, hz0, hz1⟩ := ord_at io hp
        have hi2 : i < ord.length := (List.getElem?_eq_some_iff.mp hp).1
        have ntB : t ≠ B := ne_of ht4 hB4 (by intro z; cases z)
        have ntR : t ≠ R := ne_of ht4 hR4 (by intro z; cases z)
        obtain ⟨sm1, sm2⟩ := ff_small box sz ord i (by omega)
        have en := ff_take (box := box) (sz := sz) hp
        rw [en]
        generalize (ff box sz (ord.take i)) = bs at bx hR5 sm1 sm2
        -- size, index = the pair; at = 0
        refine ⟨t, _, rfl, SqT.of (sx _ _ ht4 ntB ntR), rfl, _, _, rfl, _, _, rfl, rfl, ?_⟩
        refine while_scan (fun n => [some (.int box), some (.ref a), some (.ref B), some (.ref R), some (.int p.2), some (.int p.1), some (.int (n : Nat))]) bs.length (fun n => ∃ b, bs[n]? = some b ∧ box < used sz b + -p.1) (fun H' => H' = H5) rfl rfl ?_ ?_ ?_
        · rintro n H' hn rfl Q' q1 q2 q3
          refine ⟨_, rfl, _, rfl, B, _, rfl, .inl (SqL.of bx.hB), _, _, rfl, rfl, _, rfl, ite2 (fun e => ?_) (fun e => ?_)⟩
          · have e1 : (n : Int) < ((ps.map V.ref).length : Int) := of_decide_eq_true e
            rw [List.length_map, bx.len] at e1
            have hn2 : n < bs.length := by omega
            have gb := List.getElem?_eq_getElem hn2
            refine ⟨_, rfl, _, rfl, R, _, _, .int (box - used sz bs[n]), rfl, rfl, SqL.of hR5, at_of (j := n) rfl (by rw [List.getElem?_map, gb]; rfl), _, rfl, _, rfl, _, _, rfl, rfl, _, rfl, ?_⟩
            by_cases hf : box - used sz bs[n] < -p.1
            · rw [decide_eq_true hf]
              exact q1 hn2 ⟨_, gb, by omega⟩ _ rfl
            · rw [decide_eq_false hf]
              refine q3 hn2 (fun ⟨b, b1, b2⟩ => ?_) _ rfl
              have e2 : bs[n] = b := Option.some.inj (gb.symm.trans b1)
              rw [← e2] at b2
              omega
          · have e1 : ¬ (n : Int) < ((ps.map V.ref).length : Int) := fun z => e (decide_eq_true z)
            rw [List.length_map, bx.len] at e1
            exact q2 (by omega) _ rfl
        · rintro n H' D' rfl hD
          exact ⟨_, rfl, _, _, rfl, rfl, hD⟩
        · rintro n H' hn rfl hfull hfit
          have stp : Stop box sz (-p.1) bs n := ⟨hn, fun j b hj e => by
            obtain ⟨b', b1, b2⟩ := hfull j hj
            have e2 : b' = b := Option.some.inj (b1.symm.trans e)
            rw [← e2]; exact b2, fun b e => by
            have h3 : n < bs.length := (List.getElem?_eq_some_iff.mp e).1
            have h4 := hfit h3
            exact Int.not_lt.mp fun z => h4 ⟨b, e, z⟩⟩
          -- if at == len(boxes): ..
          dsimp only
          refine if_join (p := n = bs.length) (fun H6 => ∃ (ps' : List Addr) (bs' : List (List Int)) (b : List Int), SameX B R H4 H6 ∧ BxN H4 H6 B ps' bs' ∧ bs'[n]? = some b ∧ b.length ≤ 1000 ∧ bs'.set n (b ++ [p.2]) = put box sz (-p.1) p.2 bs ∧
            H6 R = some (.lst (bs'.map fun b => V.int (box - used sz b)))) ?_ ?_ ?_ ?_
          · intro Q' q1 q2
            refine ⟨_, rfl, _, rfl, B, _, rfl, .inl (SqL.of bx.hB), rfl, _, rfl, ?_⟩
            by_cases he : n = bs.length
            · rw [decide_eq_true (show V.int (n : Int) = V.int ((ps.map V.ref).length : Int) by rw [List.length_map, bx.len, he])]
              exact q1 he
            · rw [decide_eq_false (show ¬ V.int (n : Int) = V.int ((ps.map V.ref).length : Int) from fun z => he (by have := V.int.inj z; rw [List.length_map, bx.len] at this; omega))]
              exact q2 he
          · intro he D' hD'
            have nRp : ∀ c o, H' c = some o → ∀ d, H' d = none → c ≠ d := fun c o h d h' => ne_of_none h h'
            refine ⟨_, rfl, .inl ⟨rfl, _, SqL.of bx.hB⟩, Nat.zero_le _, fun c nc => ?_⟩
            have ncB : B ≠ c := ne_of_none bx.hB nc
            have ncR : R ≠ c := ne_of_none hR5 nc
            have nc4 : H4 c = none := sx.free nc ncB.symm ncR.symm
            refine ⟨B, _, _, rfl, rfl, by rw [upd_ne ncB]; exact bx.hB, small (by rw [List.length_map, bx.len]; omega), ?_⟩
            have bg := bx.grow nc nc4
            have hR6 : (upd (upd H' c (.lst [])) B (.lst (ps.map V.ref ++ [.ref c]))) R = some (.lst (bs.map fun b => V.int (box - used sz b))) := by
              rw [upd_ne nRB, upd_ne ncR]
              exact hR5
            have sx6 : SameX B R H4 (upd (upd H' c (.lst [])) B (.lst (ps.map V.ref ++ [.ref c]))) := (sx.put (.inr (.inr nc4))).put (.inl rfl)
            refine ⟨_, rfl, .inl ⟨rfl, _, SqL.of hR6⟩, _, rfl, R, _, _, rfl, rfl, hR6, small (by rw [List.length_map]; omega), ?_⟩
            refine hD' _ ⟨ps ++ [c], bs ++ [[]], [], sx6.put (.inr (.inl rfl)), bg.keep fun d o hd e => ?_, by rw [he]; simp, Nat.zero_le _, ?_, ?_⟩
            · have hdR : d ≠ R := by
                rcases hd with hd | hd
                · rw [hd]; exact nRB.symm
                · intro z
                  have := bg.new d hd
                  rw [z, hR4] at this
                  cases this
              rw [upd_ne hdR]
              exact e
            · rw [put_new (by rw [← he]; exact stp), he]
              simp
            · rw [upd_same, List.map_append]
              simp [used]
          · intro he D' hD'
            have hn2 : n < bs.length := by omega
            have gb := List.getElem?_eq_getElem hn2
            exact hD' _ ⟨ps, bs, bs[n], sx, bx, gb, by have := sm2 _ (List.mem_of_getElem? gb); omega, (put_at stp gb).symm, hR5⟩
          · rintro H6 ⟨ps', bs', b, sx6, bx6, gb, hbl, ep, hR6⟩
            obtain ⟨c, gc, hc⟩ := bx6.get gb
            have hn2 : n < bs'.length := (List.getElem?_eq_some_iff.mp gb).1
            have hcm := List.mem_of_getElem? gc
            have hcR : R ≠ c := fun z => by
              have := bx6.new c hcm
              rw [← z, hR4] at this
              cases this
            -- boxes[at].append(index)
            refine ⟨_, rfl, _, rfl, B, _, _, .ref c, rfl, rfl, SqL.of bx6.hB, at_of (j := n) rfl (at_ref gc), .inl ⟨rfl, _, SqL.of hc⟩, _, rfl, c, _, _, rfl, rfl, hc, small (by rw [List.length_map]; omega), ?_⟩
            have bx7 := bx6.push (i := p.2) gc gb
            have hR7 : (upd H6 c (.lst (b.map V.int ++ [.int p.2]))) R = some (.lst (bs'.map fun b => V.int (box - used sz b))) := by
              rw [upd_ne hcR]
              exact hR6
            -- rooms[at] += size
            refine ⟨_, rfl, _, rfl, R, _, _, .int (box - used sz b), rfl, rfl, SqL.of hR7, at_of (j := n) rfl (by rw [List.getElem?_map, gb]; rfl), _, rfl, _, _, rfl, rfl, R, _, _, n, rfl, rfl, hR7, ixN_nat (by rw [List.length_map]; exact hn2), ?_⟩
            rw [← ep]
            refine ⟨ps', _, _, _, rfl, (sx6.put (.inr (.inr (bx6.new c hcm)))).put (.inr (.inl rfl)), bx7.keep fun d o hd e => ?_, ?_⟩
            · have hdR : d ≠ R := by
                rcases hd with hd | hd
                · rw [hd]; exact nRB.symm
                · intro z
                  have := bx6.new d hd
                  rw [z, hR4] at this
                  cases this
              rw [upd_ne hdR]
              exact e
            · rw [upd_same, List.map_set, used_snoc, hz]
              rw [show box - (used sz b + -p.1) = box - used sz b + p.1 by omega]
      · rintro σ H5 ⟨ps, v4, v5, v6, rfl, sx, bx, hR5⟩
        have et : ord.take ys.length = ord := List.take_of_length_le (by omega)
        rw [et] at bx
        exact ⟨_, rfl, q H5 B ord (sx.to sH nB nR0) nB io bx.bx⟩
end
end K7

namespace K7
open PySem PySem.Spec PyProof.Rows L2
theorem ff_in {box : Int} {sz : List Int} {ord : List (Int × Int)} (h : IsOrd sz ord) (i : Nat) : ∀ b ∈ ff box sz (ord.take i), ∀ z ∈ b, 0 ≤ z ∧ z < (sz.length : Int) := by
  intro b hb z hz
  have h1 : z ∈ (ff box sz (ord.take i)).flatten := List.mem_flatten.mpr ⟨b, hb, hz⟩
  have h2 := (ff_flat box sz (ord.take i)).mem_iff.mp h1
  obtain ⟨p, hp, rfl⟩ := List.mem_map.mp h2
  obtain ⟨j, hj⟩ := List.getElem?_of_mem (List.mem_of_mem_take hp)
  exact (ord_at h hj).2
section
variable {P : Program} {w : World} {K : PySem.W.Frag} {mg : Str → Option Value} {base : Heap}
/-! ### _law_first_fit -/
theorem ok_lff {f : Addr} {fd : FuncData} (F : Fun K "_law_first_fit" "_law_first_fit" sLFF f fd) (mL : mg "len" = none) (mO : mg "sorted" = none) (mR : mg "range" = none) (mS : mg "sum" = none) : FnOk P w K mg base CX0 1 f fd ["_law_box", "_law_sizes_here"] (spFF K) := by
  refine F.ok scLFF (fun vs H Q E h => ?_) (fun cdv A outer s H vs Q E hr h => ?_)
  · obtain ⟨a, sz, box, rfl, _⟩ := h
    rfl
  · obtain ⟨a, sz, box, rfl, hS, hlen, q⟩ := h
    refine ⟨_, pss_cons (ps_set (i := 2) scLFF.nd rfl (.inl rfl) (pe_lst pa_nil))
      (pss_cons (ps_set (i := 3) scLFF.nd rfl (.inl rfl) (pe_callB cr_sortedPO (by rfl) mO boot_sorted' (pa_cons
          (pe_lc (own := [("_law_k", 7)]) (g := gName 7) (tt := tYes) (te := tTup (tCons (tOp (rI0 fun i j => .int (i - j)) (tC (.int 0)) (tOp (rIxL K) (tVar 1) (tVar 7))) (tCons (tVar 7) tNil)))
            (by rfl) scLFF.nd (pi_range1 (by rfl) mR (pa_cons (pe_callB call_len_seq (by rfl) mL PySem.boot_len (pa_cons (pv 1) pa_nil)) pa_nil)) (blkOk_by (own := [("_law_k", 7)]) (N := nLFF) (sc := defScope sLFF) (by decide +kernel))
            (fun _ _ _ _ _ => pg_name (i := 7) scLFF.nd rfl (Or.inl rfl))
            (fun _ _ _ _ _ => pts_nil)
            (fun _ _ _ _ _ => pe_tup (pa_cons (pe_op op_sub pe_int (pe_ix ix_list (pv 1) (pv 7) (fun _ _ => rfl))) (pa_cons (pv 7) pa_nil)))) pa_nil)))
      (pss_cons (ps_for PassesOwn.never rfl (pi_list (pv 3))
        (pg_tup rfl (pgs_cons (pg_name (i := 4) scLFF.nd rfl (Or.inl rfl)) (pgs_cons (pg_name (i := 5) scLFF.nd rfl (Or.inl rfl)) pgs_nil)))
        (pss_cons (ps_set (i := 6) scLFF.nd rfl (.inl rfl) pe_int)
        (pss_cons (ps_while PassesOwn.never (PW.pt (pw_and (pt_cmpR op_lt (pv 6) (pe_callB call_len_seq (by rfl) mL PySem.boot_len (pa_cons (pv 2) pa_nil)) (nomark _))
            (pw_and1 (pt_cmpR op_gt (pe_op op_sub (pe_callB (cr_sum rfl) (by rfl) mS boot_sum' (pa_cons
              (pe_lc (own := [("_law_k", 7)]) (g := gName 7) (tt := tYes) (te := tOp (rIxL K) (tVar 1) (tVar 7)) (by rfl) scLFF.nd (pi_list (pe_ix ix_list (pv 2) (pv 6) (fun _ _ => rfl))) (blkOk_by (own := [("_law_k", 7)]) (N := nLFF) (sc := defScope sLFF) (by decide +kernel))
                (fun _ _ _ _ _ => pg_name (i := 7) scLFF.nd rfl (Or.inl rfl)) (fun _ _ _ _ _ => pts_nil) (fun _ _ _ _ _ => pe_ix ix_list (pv 1) (pv 7) (fun _ _ => rfl))) pa_nil)) (pv 4)) (pv 0) (nomark _)))))
          (pss_one (ps_set (i := 6) scLFF.nd rfl (.inl rfl) (pe_op op_add (pv 6) pe_int))))
        (pss_cons (ps_if (pt_cmpR op_eq (pv 6) (pe_callB call_len_seq (by rfl) mL PySem.boot_len (pa_cons (pv 2) pa_nil)) (nomark _))
          (pss_one (ps_expr (pe_bm PySem.F.plainAttrs_list PySem.F.slot_list_append PySem.F.type_list_append mt_append (pv 2) (pa_cons (pe_lst pa_nil) pa_nil)))) pss_nil)
        (pss_one (ps_expr (pe_bm PySem.F.plainAttrs_list PySem.F.slot_list_append PySem.F.type_list_append mt_append (pe_ix ix_list (pv 2) (pv 6) (fun _ _ => rfl)) (pa_cons (pv 5) pa_nil))))))))
      (pss_one (ps_ret (pv 2))))), ?_⟩
    refine ⟨Nat.zero_le _, fun B nB => ?_⟩
    have s2 : Same H (upd H B (.lst [])) := same_upd nB
    have hB2 : (upd H B (.lst [])) B = some (.lst []) := upd_same
    generalize (upd H B (.lst [])) = H2 at s2 hB2
    -- sorted([(0 - sizes[k], k) for k in range(len(sizes))])
    refine ⟨_, rfl, a, _, rfl, .inl (s2.seq hS), _, rfl, by omega, by rw [List.length_map]; omega, fun D nD => lc_range (lo := 0)
      (fun i H3 => Same H2 H3 ∧ i ≤ sz.length ∧ ∃ ts : List Addr, H3 D = some (.lst (ts.map V.ref)) ∧ ts.length = i ∧ Tups sz H3 ts)
      ⟨same_upd nD, Nat.zero_le _, [], upd_same, rfl, fun j t e => by simp at e⟩ ?_ ?_⟩
    · rintro i H3 hi ⟨s3, hi0, ts, hD3, hl, ht⟩
      rw [List.length_map, Int.toNat_natCast] at hi
      have hv := List.getElem?_eq_getElem hi
      generalize sz[i] = v at hv
      refine ⟨rfl, ?_⟩
      refine ⟨.ref a, rfl, .int (0 + (i : Int)), rfl, a, _, _, .int v, rfl, rfl, s3.seq (s2.seq hS), at_of (j := i) (by omega) (at_int hv), _, _, rfl, rfl, _, rfl, by show 2 ≤ sizeLine; decide, fun p np3 => ?_⟩
      have npD : D ≠ p := ne_of_none hD3 np3
      refine ⟨ts.map V.ref, by rw [upd_ne npD]; exact hD3, small (by rw [List.length_map]; omega), ?_, by omega, ts ++ [p], ?_, by simp [hl], ?_⟩
      · exact same_put (same_put s3 (s3.free np3)) nD
      · rw [upd_same, List.map_append]
        rfl
      · intro j t e
        by_cases hj : j < ts.length
        · rw [List.getElem?_append_left hj] at e
          obtain ⟨v', w1, w2⟩ := ht j t e
          refine ⟨v', w1, ?_⟩
          rw [upd_ne (ne_of w2 hD3 (by intro z; cases z)), upd_ne (ne_of_none w2 np3)]
          exact w2
        · have hl2 : j < (ts ++ [p]).length := (List.getElem?_eq_some_iff.mp e).1
          have hj2 : j = ts.length := by simp at hl2; omega
          subst hj2
          have e3 : p = t := by simpa using e
          subst e3
          refine ⟨v, by rw [hl]; exact hv, ?_⟩
          rw [upd_ne npD.symm, upd_same, hl]
          show some (HO.tup [V.int (0 - v), V.int (0 + (i : Int))]) = _
          rw [Int.zero_sub, Int.zero_add]
    · rintro H3 ⟨s3, _, ts, hD3, hl, ht⟩
      rw [List.length_map, Int.toNat_natCast] at hl
      refine ⟨D, ts.map V.ref, pairOf H3, rfl, SqL.of hD3, tups_pair ht, fun ys T hs hb nT => ?_⟩
      have io : IsOrd sz (ys.map (pairOf H3)) := tups_ord ht hl hs hb
      have hit := fun {i y} => tups_item (i := i) (y := y) ht hb
      have hB3 := s3 _ _ hB2
      have s4 : Same H3 (upd H3 T (.lst ys)) := same_upd nT
      have sH : Same H (upd H3 T (.lst ys)) := (s2.trans s3).trans s4
      have hB4 := s4 _ _ hB3
      have hT4 : (upd H3 T (.lst ys)) T = some (.lst ys) := upd_same
      have nTB : T ≠ B := (ne_of_none hB3 nT).symm
      have hit4 : ∀ {i : Nat} {y : V}, ys[i]? = some y → ∃ (t : Addr) (p : Int × Int), y = .ref t ∧ (ys.map (pairOf H3))[i]? = some p ∧ (upd H3 T (.lst ys)) t = some (.tup [.int p.1, .int p.2]) := fun {i y} e => by
        obtain ⟨t, p, a1, a2, a3⟩ := hit e
        exact ⟨t, p, a1, a2, s4 _ _ a3⟩
      have hyl : ys.length = sz.length := by
        have := ord_len io
        rw [List.length_map] at this
        exact this
      generalize (ys.map (pairOf H3)) = ord at io hit4
      generalize (upd H3 T (.lst ys)) = H4 at s4 sH hB4 hT4 hit4
      have hol := ord_len io
      -- the pieces in their order
      refine ⟨_, rfl, T, rfl, ⟨_, SqL.of hT4⟩, for_list (K := K) (a := T) (xs := ys)
        (fun i σ H5 => ∃ (ps : List Addr) (v4 v5 v6 : Option V), σ = [some (.int box), some (.ref a), some (.ref B), some (.ref T), v4, v5, v6, none] ∧ SameX B B H4 H5 ∧ BxN H4 H5 B ps (ff box sz (ord.take i)))
        ⟨[], none, none, none, rfl, .refl _, ⟨hB4, rfl, by simp, by simp, by simp, by simp⟩⟩ (fun i σ H5 _ ⟨_, _, _, _, _, sx, _⟩ => SqL.of (sx _ _ hT4 nTB nTB)) ?_ ?_⟩
      · rintro i y σ H5 hi ⟨ps, v4, v5, v6, rfl, sx, bx⟩
        obtain ⟨t, p, rfl, hp, ht4⟩ := hit4 hi
        have hi2 : i < ord.length := (List.getElem?_eq_some_iff.mp hp).1
        have ntB : t ≠ B := ne_of ht4 hB4 (by intro z; cases z)
        obtain ⟨sm1, sm2⟩ := ff_small box sz ord i (by omega)
        have hin := ff_in (box := box) io i
        have en := ff_take (box := box) (sz := sz) hp
        rw [en]
        generalize (ff box sz (ord.take i)) = bs at bx sm1 sm2 hin
        refine ⟨t, _, rfl, SqT.of (sx _ _ ht4 ntB ntB), rfl, _, _, rfl, _, _, rfl, rfl, ?_⟩
        refine while_scan (fun n => [some (.int box), some (.ref a), some (.ref B), some (.ref T), some (.int p.1), some (.int p.2), some (.int (n : Nat)), none]) bs.length (fun n => ∃ b, bs[n]? = some b ∧ box < used sz b + -p.1) (fun H' => SameX B B H4 H' ∧ BxN H4 H' B ps bs) rfl ⟨sx, bx⟩ ?_ ?_ ?_
        · rintro n H' hn ⟨sx', bx'⟩ Q' q1 q2 q3
          refine ⟨_, rfl, _, rfl, B, _, rfl, .inl (SqL.of bx'.hB), _, _, rfl, rfl, _, rfl, ite2 (fun e => ?_) (fun e => ?_)⟩
          · have e1 : (n : Int) < ((ps.map V.ref).length : Int) := of_decide_eq_true e
            rw [List.length_map, bx'.len] at e1
            have hn2 : n < bs.length := by omega
            have gb := List.getElem?_eq_getElem hn2
            obtain ⟨c, gc, hc⟩ := bx'.get gb
            have hbm : bs[n] ∈ bs := List.mem_of_getElem? gb
            have sH' : Same H H' := sx'.to sH nB nB
            have hbl : bs[n].length ≤ 1000 := by have := sm2 _ hbm; omega
            refine ⟨_, rfl, _, rfl, B, _, _, .ref c, rfl, rfl, SqL.of bx'.hB, at_of (j := n) rfl (at_ref gc), c, rfl, ⟨_, SqL.of hc⟩, fun G hG => read_sizes (a := a) (b := c) (sz := sz) (ps := bs[n]) rfl (by decide) (by simp) hG (sH'.seq hS) (SqL.of hc) (fun z hz => hin _ hbm z hz) hbl ?_⟩
            refine ⟨G, bs[n].map (szAt sz), rfl, SqL.of upd_same, _, rfl, _, _, rfl, rfl, _, rfl, _, _, rfl, rfl, _, rfl, ?_⟩
            have eu : (bs[n].map (szAt sz)).sum = used sz bs[n] := rfl
            rw [eu]
            have ok' : SameX B B H4 (upd H' G (.lst ((bs[n].map (szAt sz)).map V.int))) ∧ BxN H4 (upd H' G (.lst ((bs[n].map (szAt sz)).map V.int))) B ps bs := by
              have nGB : G ≠ B := (ne_of_none bx'.hB hG).symm
              exact ⟨sx'.put (.inr (.inr (sx'.free hG nGB nGB))), bx'.keep fun d o _ e => by rw [upd_ne (ne_of_none e hG)]; exact e⟩
            by_cases hf : box < used sz bs[n] - p.1
            · rw [decide_eq_true hf]
              exact q1 hn2 ⟨_, gb, by omega⟩ _ ok'
            · rw [decide_eq_false hf]
              refine q3 hn2 (fun ⟨b, b1, b2⟩ => ?_) _ ok'
              have e2 : bs[n] = b := Option.some.inj (gb.symm.trans b1)
              rw [← e2] at b2
              omega
          · have e1 : ¬ (n : Int) < ((ps.map V.ref).length : Int) := fun z => e (decide_eq_true z)
            rw [List.length_map, bx'.len] at e1
            exact q2 (by omega) _ ⟨sx', bx'⟩
        · rintro n H' D' _ hD
          exact ⟨_, rfl, _, _, rfl, rfl, hD⟩
        · clear sx bx
          rintro n H' hn ⟨sx, bx⟩ hfull hfit
          have stp : Stop box sz (-p.1) bs n := ⟨hn, fun j b hj e => by
            obtain ⟨b', b1, b2⟩ := hfull j hj
            have e2 : b' = b := Option.some.inj (b1.symm.trans e)
            rw [← e2]; exact b2, fun b e => by
            have h3 : n < bs.length := (List.getElem?_eq_some_iff.mp e).1
            have h4 := hfit h3
            exact Int.not_lt.mp fun z => h4 ⟨b, e, z⟩⟩
          dsimp only
          refine if_join (p := n = bs.length) (fun H6 => ∃ (ps' : List Addr) (bs' : List (List Int)) (b : List Int), SameX B B H4 H6 ∧ BxN H4 H6 B ps' bs' ∧ bs'[n]? = some b ∧ b.length ≤ 1000 ∧ bs'.set n (b ++ [p.2]) = put box sz (-p.1) p.2 bs) ?_ ?_ ?_ ?_
          · intro Q' q1 q2
            refine ⟨_, rfl, _, rfl, B, _, rfl, .inl (SqL.of bx.hB), rfl, _, rfl, ?_⟩
            by_cases he : n = bs.length
            · rw [decide_eq_true (show V.int (n : Int) = V.int ((ps.map V.ref).length : Int) by rw [List.length_map, bx.len, he])]
              exact q1 he
            · rw [decide_eq_false (show ¬ V.int (n : Int) = V.int ((ps.map V.ref).length : Int) from fun z => he (by have := V.int.inj z; rw [List.length_map, bx.len] at this; omega))]
              exact q2 he
          · intro he D' hD'
            refine ⟨_, rfl, .inl ⟨rfl, _, SqL.of bx.hB⟩, Nat.zero_le _, fun c nc => ?_⟩
            have ncB : B ≠ c := ne_of_none bx.hB nc
            have nc4 : H4 c = none := sx.free nc ncB.symm ncB.symm
            refine ⟨B, _, _, rfl, rfl, by rw [upd_ne ncB]; exact bx.hB, small (by rw [List.length_map, bx.len]; omega), ?_⟩
            refine hD' _ ⟨ps ++ [c], bs ++ [[]], [], (sx.put (.inr (.inr nc4))).put (.inl rfl), bx.grow nc nc4, by rw [he]; simp, Nat.zero_le _, ?_⟩
            rw [put_new (by rw [← he]; exact stp), he]
            simp
          · intro he D' hD'
            have hn2 : n < bs.length := by omega
            have gb := List.getElem?_eq_getElem hn2
            exact hD' _ ⟨ps, bs, bs[n], sx, bx, gb, by have := sm2 _ (List.mem_of_getElem? gb); omega, (put_at stp gb).symm⟩
          · rintro H6 ⟨ps', bs', b, sx6, bx6, gb, hbl, ep⟩
            obtain ⟨c, gc, hc⟩ := bx6.get gb
            have hcm := List.mem_of_getElem? gc
            refine ⟨_, rfl, _, rfl, B, _, _, .ref c, rfl, rfl, SqL.of bx6.hB, at_of (j := n) rfl (at_ref gc), .inl ⟨rfl, _, SqL.of hc⟩, _, rfl, c, _, _, rfl, rfl, hc, small (by rw [List.length_map]; omega), ?_⟩
            have bx7 := bx6.push (i := p.2) gc gb
            rw [← ep]
            exact ⟨ps', _, _, _, rfl, sx6.put (.inr (.inr (bx6.new c hcm))), bx7⟩
      · rintro σ H5 ⟨ps, v4, v5, v6, rfl, sx, bx⟩
        have et : ord.take ys.length = ord := List.take_of_length_le (by omega)
        rw [et] at bx
        exact ⟨_, rfl, q H5 B ord (sx.to sH nB nB) nB io bx.bx⟩
end
end K7

namespace K7
open PySem PySem.Spec PyProof.Rows L2
theorem cut_ints (ns : List Int) (lo hi : Option Int) : ∃ cs : List Int, cutV (ns.map V.int) lo hi = cs.map V.int ∧ cs.length ≤ ns.length := by
  unfold cutV
  rw [← List.map_drop, ← List.map_take]
  exact ⟨_, rfl, by rw [List.length_take, List.length_drop]; omega⟩
theorem two_small : ∀ n : Nat, n < 7 → (2 : Int) ^ n ≤ 64 := by decide
section
variable {P : Program} {w : World} {K : PySem.W.Frag} {mg : Str → Option Value} {base : Heap}
theorem ok_law {f fC fD fZ fF fL fS fP fA : Addr} {fd fdC fdD fdZ fdF fdL fdS fdP fdA : FuncData} (F : Fun K "law" "law" sLaw f fd)
    (FC : Fun K "_law_cell" "_law_cell" sCell fC fdC) (bC : Binds K fdC ["_law_script", "_law_k"] []) (gC : mg "_law_cell" = some (.ref fC))
    (FD : Fun K "_law_draw" "_law_draw" sDraw fD fdD) (bD : Binds K fdD ["_law_cell_here", "_law_k", "_law_many"] []) (gD : mg "_law_draw" = some (.ref fD))
    (FZ : Fun K "_law_sizes" "_law_sizes" sSizes fZ fdZ) (bZ : Binds K fdZ ["_law_cells", "_law_box"] []) (gZ : mg "_law_sizes" = some (.ref fZ))
    (FF : Fun K "first_fit" "first_fit" sFF fF fdF) (bF : Binds K fdF ["box", "sizes"] []) (gF : mg "first_fit" = some (.ref fF))
    (FL : Fun K "_law_first_fit" "_law_first_fit" sLFF fL fdL) (bL : Binds K fdL ["_law_box", "_law_sizes_here"] []) (gL : mg "_law_first_fit" = some (.ref fL))
    (FS : Fun K "_law_same_boxes" "_law_same_boxes" sSame fS fdS) (bS : Binds K fdS ["_law_actual", "_law_due"] []) (gS : mg "_law_same_boxes" = some (.ref fS))
    (FP : Fun K "_law_is_packing" "_law_is_packing" sIsP fP fdP) (bP : Binds K fdP ["_law_box", "_law_sizes_here", "_law_boxes"] []) (gP : mg "_law_is_packing" = some (.ref fP))
    (FA : Fun K "accepts_packing" "accepts_packing" sAP fA fdA) (bA : Binds K fdA ["box", "sizes", "boxes"] []) (gA : mg "accepts_packing" = some (.ref fA))
    (mL : mg "len" = none) (mO : mg "sorted" = none) (mE : mg "enumerate" = none) (mI : mg "int" = none) (mB : mg "abs" = none) (mR : mg "range" = none) (mS : mg "sum" = none) (mN : mg "isinstance" = none) (mT : mg "list" = none) :
    FnOk P w K mg base CX0 3 f fd ["_law_script"] (spLaw K) := by
  have GC : FnOk P w K mg base CX0 1 fC fdC ["_law_script", "_law_k"] (spCell K) := ok_cell FC mL mI
  have GD : FnOk P w K mg base CX0 1 fD fdD ["_law_cell_here", "_law_k", "_law_many"] spDraw := ok_draw FD mB mI mR
  have GZ : FnOk P w K mg base CX0 2 fZ fdZ ["_law_cells", "_law_box"] (spSizes K) := ok_sizes FZ FD bD gD mB mI mR
  have GF : FnOk P w K mg base CX0 1 fF fdF ["box", "sizes"] (spFF K) := ok_ff FF mL mO mE
  have GL : FnOk P w K mg base CX0 1 fL fdL ["_law_box", "_law_sizes_here"] (spFF K) := ok_lff FL mL mO mR mS
  have GS : FnOk P w K mg base CX0 1 fS fdS ["_law_actual", "_law_due"] spSame := ok_same FS mL mN mT mR
  have GP : FnOk P w K mg base CX0 1 fP fdP ["_law_box", "_law_sizes_here", "_law_boxes"] (spPack K) := ok_isp FP mL mI mS
  have GA : FnOk P w K mg base CX0 1 fA fdA ["box", "sizes", "boxes"] (spPack K) := ok_ap FA mL mO mT mR mS
  refine F.ok scLaw (fun vs H Q E h => ?_) (fun cdv A outer s H vs Q E hr h => ?_)
  · obtain ⟨a, ns, rfl, _⟩ := h
    rfl
  · obtain ⟨a, ns, rfl, hS, hlen, q⟩ := h
    have hr1 : Room 1 _ := hr.mono (by decide)
    refine ⟨_, pss_cons (ps_set (i := 1) scLaw.nd rfl (.inl rfl) pe_int)
      (pss_cons (ps_for PassesOwn.never rfl (pi_range1 (by rfl) mR (pa_cons (pe_call GD hr1 (by rfl) gD FD.kp bD .nil pass0 (pa_cons (pe_call GC hr1 (by rfl) gC FC.kp bC .nil pass0 (pa_cons (pv 0) (pa_cons pe_int pa_nil))) (pa_cons pe_int (pa_cons pe_int pa_nil)))) pa_nil)) (pg_name (i := 2) scLaw.nd rfl (.inl rfl))
        (pss_one (ps_set (i := 1) scLaw.nd rfl (.inl rfl) (pe_op op_mul (pv 1) pe_int))))
      (pss_cons (ps_set (i := 3) scLaw.nd rfl (.inl rfl) (pe_call GZ hr (by rfl) gZ FZ.kp bZ .nil pass0 (pa_cons
          (pe_lc (own := [("_law_cell_here", 6)]) (g := gName 6) (tt := tYes) (by rfl) scLaw.nd (pi_list (pe_slice sl_list (pv 0) po_none (po_some pe_int))) (blkOk_by (own := [("_law_cell_here", 6)]) (N := nLaw) (sc := defScope sLaw) (by decide +kernel))
            (fun _ _ _ _ _ => pg_name (i := 6) scLaw.nd rfl (Or.inl rfl)) (fun _ _ _ _ _ => pts_nil) (fun _ _ _ _ _ => pe_callTy call_int1 (by rfl) mI boot_intP (pa_cons (pv 6) pa_nil)))
          (pa_cons (pv 1) pa_nil))))
      (pss_cons (ps_set (i := 4) scLaw.nd rfl (.inl rfl) (pe_callTy call_list_of (by rfl) mT boot_list' (pa_cons (pv 3) pa_nil)))
      (pss_cons (ps_set (i := 5) scLaw.nd rfl (.inl rfl) (pe_call GF hr1 (by rfl) gF FF.kp bF .nil pass0 (pa_cons (pv 1) (pa_cons (pv 4) pa_nil))))
      (pss_cons (ps_if (PW.pt (pw_or (pt_cmpR (op_neD hr.units) (pv 4) (pv 3) (nomark _)) (pw_or1 (pt_not (pt_val (pe_call GS hr1 (by rfl) gS FS.kp bS .nil pass0 (pa_cons (pv 5)
          (pa_cons (pe_call GL hr1 (by rfl) gL FL.kp bL .nil pass0 (pa_cons (pv 1) (pa_cons (pv 3) pa_nil))) pa_nil)))))))) (pss_one (ps_ret pe_bl)) pss_nil)
      (pss_cons (ps_if (PW.pt (pw_or (pt_cmpR op_ne (pe_callB call_len_seq (by rfl) mL PySem.boot_len (pa_cons (pv 5) pa_nil)) (pe_op op_fdivN (pe_op op_sub (pe_op op_add (pe_callB (cr_sum rfl) (by rfl) mS boot_sum' (pa_cons (pv 3) pa_nil)) (pv 1)) pe_int) (pv 1)) (nomark _))
          (pw_or1 (pt_not (pt_val (pe_call GP hr1 (by rfl) gP FP.kp bP .nil pass0 (pa_cons (pv 1) (pa_cons (pv 3) (pa_cons (pv 5) pa_nil))))))))) (pss_one (ps_ret pe_bl)) pss_nil)
      (pss_one (ps_ret (pe_and (pe_cmpR op_isBl (pe_call GA hr1 (by rfl) gA FA.kp bA .nil pass0 (pa_cons (pv 1) (pa_cons (pv 4) (pa_cons (pv 5) pa_nil)))) pe_bl (nomark _))
          (pe_one (pe_cmpR (op_eqD hr.units) (pe_call GF hr1 (by rfl) gF FF.kp bF .nil pass0 (pa_cons (pv 1) (pa_cons (pe_lst pa_nil) pa_nil))) (pe_lst pa_nil) (nomark _))))))))))))
      , ?_⟩
    -- the box
    refine ⟨_, rfl, a, ns, rfl, hS, fun z => ?_⟩
    refine ⟨z, 9, 7, rfl, by decide, by decide, by decide, fun r r0 r7 => ?_⟩
    refine ⟨r, rfl, by omega, by omega, for_range (lo := 0) (n := r.toNat) (fun i σ H2 => H2 = H ∧ ∃ v : Option V, σ = [some (.ref a), some (.int ((2 : Int) ^ i)), v, none, none, none, none]) ⟨rfl, none, rfl⟩ ?_ ?_⟩
    · rintro i σ H2 hi ⟨rfl, v, rfl⟩
      have h1 := two_small i (by omega)
      have h2 : (0 : Int) < 2 ^ i := Int.pow_pos (by decide)
      refine ⟨_, rfl, _, _, rfl, rfl, .inl ⟨by omega, by omega⟩, rfl, some (.int (0 + (i : Int))), ?_⟩
      rw [Int.pow_succ]
      rfl
    rintro σ H2 ⟨rfl, v2, rfl⟩
    have hb : Pow2 ((2 : Int) ^ r.toNat) := ⟨_, rfl⟩
    have hb64 := two_small r.toNat (by omega)
    have hb0 := hb.pos
    generalize (2 : Int) ^ r.toNat = box at hb hb64 hb0
    -- the sizes
    obtain ⟨cs, ecs, hcs⟩ := cut_ints ns none (some 60)
    refine ⟨_, rfl, 60, rfl, a, _, rfl, hS, fun c nc => ?_⟩
    rw [ecs]
    refine ⟨c, rfl, ⟨_, SqL.of upd_same⟩, fun D nD => lc_list (K := K) (a := c) (xs := cs.map V.int) (fun i H3 => H3 = upd (upd H2 c (.lst (cs.map V.int))) D (.lst ((cs.take i).map V.int))) rfl ?_ ?_ ?_⟩
    · rintro i H3 _ rfl
      exact SqL.of (by rw [upd_ne (ne_of_none upd_same nD), upd_same])
    · rintro i y H3 hi rfl
      obtain ⟨z, hz, rfl⟩ := ints_at hi
      have hi2 : i < cs.length := (List.getElem?_eq_some_iff.mp hz).1
      refine ⟨rfl, .int z, rfl, .inl ⟨z, rfl, _, upd_same, small (by simp; omega), ?_⟩⟩
      rw [upd_upd, List.take_add_one, hz, List.map_append]
      rfl
    rintro H3 rfl
    rw [List.length_map, List.take_length]
    have sA : Same H2 (upd (upd H2 c (.lst (cs.map V.int))) D (.lst (cs.map V.int))) := same_put (same_upd nc) ((same_upd nc).free nD)
    refine ⟨_, rfl, D, cs, box, rfl, SqL.of upd_same, by omega, hb, fun H4 p sz s4 np hp hl hsz => ?_⟩
    have hszl : sz.length ≤ 1000 := by omega
    generalize (upd (upd H2 c (.lst (cs.map V.int))) D (.lst (cs.map V.int))) = H3 at sA s4 np
    -- given = list(sizes)
    refine ⟨_, rfl, p, _, rfl, .inl (SqL.of hp), fun g ng => ?_⟩
    have hg5 : (upd H4 g (.lst (sz.map V.int))) g = some (.lst (sz.map V.int)) := upd_same
    have hp5 := same_upd (o := .lst (sz.map V.int)) ng _ _ hp
    generalize (upd H4 g (.lst (sz.map V.int))) = H5 at hg5 hp5
    -- boxes = first_fit(box, given)
    refine ⟨_, rfl, _, rfl, g, sz, box, rfl, SqL.of hg5, hszl, fun H6 B ord s6 nB io hB => ?_⟩
    have pk := ff_pack hb hsz io
    have hg6 := s6 _ _ hg5
    have hp6 := s6 _ _ hp5
    obtain ⟨hbl, _⟩ := pk.box hszl
    -- given != sizes or not same_boxes(..)
    refine ⟨_, rfl, _, rfl, dInts sz, dInts sz, dp_ints (SqL.of hg6), dp_ints (SqL.of hp6), shaped_ints _, shaped_ints _, _, rfl, iteE (by rw [eqv_ints]; rfl) ?_⟩
    refine ⟨_, rfl, _, rfl, _, rfl, p, sz, box, rfl, SqL.of hp6, hszl, fun H7 B2 ord2 s7 nB2 io2 hB2 => ?_⟩
    rw [io2.uniq io] at hB2
    have hB7 := hB.same s7
    refine ⟨B, B2, _, rfl, hB7, hB2, hbl, _, rfl, iteE rfl ?_⟩
    have hg7 := s7 _ _ hg6
    have hp7 := s7 _ _ hp6
    -- len(boxes) != .. or not is_packing(..)
    generalize ff box sz ord = bs at pk hB hB2 hB7 hbl
    obtain ⟨ps, k1, k2, k3⟩ := id hB7
    refine ⟨_, rfl, B, _, rfl, .inl (SqL.of k1), _, rfl, p, sz, rfl, SqL.of hp7, _, rfl, _, _, rfl, rfl, _, _, rfl, rfl, _, rfl, _, _, rfl, rfl, ⟨by omega, by omega⟩, rfl, _, rfl, iteE ?_ ?_⟩
    · have e : ((ps.map V.ref).length : Int) = (sz.sum + box - 1).fdiv box := by
        rw [List.length_map, k2, pk.cnt, Int.fdiv_eq_ediv_of_nonneg _ (by omega)]
      show (!decide (V.int ((ps.map V.ref).length : Int) = V.int ((sz.sum + box - 1).fdiv box))) = false
      rw [e, decide_eq_true rfl]
      rfl
    refine ⟨_, rfl, _, rfl, _, rfl, p, B, sz, box, bs, rfl, SqL.of hp7, hszl, hB7, pk, fun H8 s8 => ⟨_, rfl, iteE rfl ?_⟩⟩
    -- accepts_packing(..) is True and first_fit(box, []) == []
    refine ⟨_, rfl, _, rfl, _, rfl, g, B, sz, box, bs, rfl, SqL.of (s8 _ _ hg7), hszl, hB7.same s8, pk, fun H9 s9 => ?_⟩
    refine ⟨true, true, rfl, rfl, _, rfl, iteY (decide_eq_true rfl) ?_⟩
    refine ⟨_, rfl, Nat.zero_le _, fun e ne => ?_⟩
    refine ⟨e, [], box, rfl, SqL.of upd_same, Nat.zero_le _, fun H10 B9 ord9 s10 nB9 io9 hB9 => ?_⟩
    have e0 : ord9 = [] := List.eq_nil_of_length_eq_zero (ord_len io9)
    subst e0
    obtain ⟨qs, j1, j2, _⟩ := hB9
    have e1 : qs = [] := List.eq_nil_of_length_eq_zero j2
    subst e1
    refine ⟨Nat.zero_le _, fun x nx => ?_⟩
    have j3 := same_upd (o := .lst []) nx _ _ j1
    refine ⟨dInts [], dInts [], dp_ints (ns := []) (SqL.of j3), dp_ints (ns := []) (SqL.of upd_same), shaped_ints _, shaped_ints _, ?_⟩
    rw [eqv_ints]
    exact q _
end
end K7

namespace K7
open PySem PySem.Spec PyProof.Rows L2
/-! ### what the top has written; the law's own head -/
theorem all_mk {l : PySem.W.OpenLaw} {w : World} {K : PySem.W.Frag} {h : Heap} {mg : Str → Option Value} {fa f1 f2 f3 f4 f5 f6 f7 f8 f9 : Addr} (X : K.In h) (G : h.Ns mainGlobals mg) (hfa : mg "law" = some (.ref fa))
    {od1 an1 od2 an2 od3 an3 od4 an4 od5 an5 od6 an6 od7 an7 od8 an8 od9 an9 : Option Addr} {sl1 sl2 sl3 sl4 sl5 sl6 sl7 sl8 sl9 : Array (Option Value)} {oc1 kV1 dc1 pm1 cd1 ct1 oc2 kV2 dc2 pm2 cd2 ct2 oc3 kV3 dc3 pm3 cd3 ct3 oc4 kV4 dc4 pm4 cd4 ct4 oc5 kV5 dc5 pm5 cd5 ct5 oc6 kV6 dc6 pm6 cd6 ct6 oc7 kV7 dc7 pm7 cd7 ct7 oc8 kV8 dc8 pm8 cd8 ct8 oc9 kV9 dc9 pm9 cd9 ct9 : Value}
    (a1 : PySem.W.nsIn K mainGlobals "first_fit" = some (some (.ref f1))) (l1 : K.lookup f1 = some ⟨oc1, od1, .func (PySem.W.fnOf "first_fit" "first_fit" (defArgs sFF) (defBody sFF) (defScope sFF) .none kV1 dc1 pm1 an1 cd1 ct1), sl1⟩) (c1 : PySem.W.codeIn K cd1 "first_fit" = true) (k1 : PySem.W.keepIn K (.ref f1) = true)
    (a2 : PySem.W.nsIn K mainGlobals "accepts_packing" = some (some (.ref f2))) (l2 : K.lookup f2 = some ⟨oc2, od2, .func (PySem.W.fnOf "accepts_packing" "accepts_packing" (defArgs sAP) (defBody sAP) (defScope sAP) .none kV2 dc2 pm2 an2 cd2 ct2), sl2⟩) (c2 : PySem.W.codeIn K cd2 "accepts_packing" = true) (k2 : PySem.W.keepIn K (.ref f2) = true)
    (a3 : PySem.W.nsIn K mainGlobals "_law_cell" = some (some (.ref f3))) (l3 : K.lookup f3 = some ⟨oc3, od3, .func (PySem.W.fnOf "_law_cell" "_law_cell" (defArgs sCell) (defBody sCell) (defScope sCell) .none kV3 dc3 pm3 an3 cd3 ct3), sl3⟩) (c3 : PySem.W.codeIn K cd3 "_law_cell" = true) (k3 : PySem.W.keepIn K (.ref f3) = true)
    (a4 : PySem.W.nsIn K mainGlobals "_law_draw" = some (some (.ref f4))) (l4 : K.lookup f4 = some ⟨oc4, od4, .func (PySem.W.fnOf "_law_draw" "_law_draw" (defArgs sDraw) (defBody sDraw) (defScope sDraw) .none kV4 dc4 pm4 an4 cd4 ct4), sl4⟩) (c4 : PySem.W.codeIn K cd4 "_law_draw" = true) (k4 : PySem.W.keepIn K (.ref f4) = true)
    (a5 : PySem.W.nsIn K mainGlobals "_law_sizes" = some (some (.ref f5))) (l5 : K.lookup f5 = some ⟨oc5, od5, .func (PySem.W.fnOf "_law_sizes" "_law_sizes" (defArgs sSizes) (defBody sSizes) (defScope sSizes) .none kV5 dc5 pm5 an5 cd5 ct5), sl5⟩) (c5 : PySem.W.codeIn K cd5 "_law_sizes" = true) (k5 : PySem.W.keepIn K (.ref f5) = true)
    (a6 : PySem.W.nsIn K mainGlobals "_law_first_fit" = some (some (.ref f6))) (l6 : K.lookup f6 = some ⟨oc6, od6, .func (PySem.W.fnOf "_law_first_fit" "_law_first_fit" (defArgs sLFF) (defBody sLFF) (defScope sLFF) .none kV6 dc6 pm6 an6 cd6 ct6), sl6⟩) (c6 : PySem.W.codeIn K cd6 "_law_first_fit" = true) (k6 : PySem.W.keepIn K (.ref f6) = true)
    (a7 : PySem.W.nsIn K mainGlobals "_law_is_packing" = some (some (.ref f7))) (l7 : K.lookup f7 = some ⟨oc7, od7, .func (PySem.W.fnOf "_law_is_packing" "_law_is_packing" (defArgs sIsP) (defBody sIsP) (defScope sIsP) .none kV7 dc7 pm7 an7 cd7 ct7), sl7⟩) (c7 : PySem.W.codeIn K cd7 "_law_is_packing" = true) (k7 : PySem.W.keepIn K (.ref f7) = true)
    (a8 : PySem.W.nsIn K mainGlobals "_law_same_boxes" = some (some (.ref f8))) (l8 : K.lookup f8 = some ⟨oc8, od8, .func (PySem.W.fnOf "_law_same_boxes" "_law_same_boxes" (defArgs sSame) (defBody sSame) (defScope sSame) .none kV8 dc8 pm8 an8 cd8 ct8), sl8⟩) (c8 : PySem.W.codeIn K cd8 "_law_same_boxes" = true) (k8 : PySem.W.keepIn K (.ref f8) = true)
    (a9 : PySem.W.nsIn K mainGlobals "law" = some (some (.ref f9))) (l9 : K.lookup f9 = some ⟨oc9, od9, .func (PySem.W.fnOf "law" "law" (defArgs sLaw) (defBody sLaw) (defScope sLaw) .none kV9 dc9 pm9 an9 cd9 ct9), sl9⟩) (c9 : PySem.W.codeIn K cd9 "law" = true) (k9 : PySem.W.keepIn K (.ref f9) = true)
    (z1 : PySem.W.nsIn K mainGlobals "len" = some none) (z2 : PySem.W.nsIn K mainGlobals "sorted" = some none) (z3 : PySem.W.nsIn K mainGlobals "enumerate" = some none) (z4 : PySem.W.nsIn K mainGlobals "int" = some none) (z5 : PySem.W.nsIn K mainGlobals "abs" = some none) (z6 : PySem.W.nsIn K mainGlobals "range" = some none) (z7 : PySem.W.nsIn K mainGlobals "sum" = some none) (z8 : PySem.W.nsIn K mainGlobals "isinstance" = some none) (z9 : PySem.W.nsIn K mainGlobals "list" = some none) :
    ∃ fd : FuncData, (∀ (s : Shared) (v : Value), BindsTo s fd ⟨[v], []⟩ [("_law_script", v)]) ∧ ∀ base : Heap, K.In base → base.Ns mainGlobals mg → FnOk l.prog w K mg base CX0 3 fa fd ["_law_script"] (spLaw K) := by
  have e := hfa.symm.trans (PySem.W.mg_of X G a9)
  cases e
  have F1 := fun_mk (st := sFF) l1 c1 k1
  have F2 := fun_mk (st := sAP) l2 c2 k2
  have F3 := fun_mk (st := sCell) l3 c3 k3
  have F4 := fun_mk (st := sDraw) l4 c4 k4
  have F5 := fun_mk (st := sSizes) l5 c5 k5
  have F6 := fun_mk (st := sLFF) l6 c6 k6
  have F7 := fun_mk (st := sIsP) l7 c7 k7
  have F8 := fun_mk (st := sSame) l8 c8 k8
  have F9 := fun_mk (st := sLaw) l9 c9 k9
  have b1 := F1.binds (ps := ["box", "sizes"]) fun _ _ _ _ _ _ us hl => match us, hl with | [_, _], _ => rfl
  have b2 := F2.binds (ps := ["box", "sizes", "boxes"]) fun _ _ _ _ _ _ us hl => match us, hl with | [_, _, _], _ => rfl
  have b3 := F3.binds (ps := ["_law_script", "_law_k"]) fun _ _ _ _ _ _ us hl => match us, hl with | [_, _], _ => rfl
  have b4 := F4.binds (ps := ["_law_cell_here", "_law_k", "_law_many"]) fun _ _ _ _ _ _ us hl => match us, hl with | [_, _, _], _ => rfl
  have b5 := F5.binds (ps := ["_law_cells", "_law_box"]) fun _ _ _ _ _ _ us hl => match us, hl with | [_, _], _ => rfl
  have b6 := F6.binds (ps := ["_law_box", "_law_sizes_here"]) fun _ _ _ _ _ _ us hl => match us, hl with | [_, _], _ => rfl
  have b7 := F7.binds (ps := ["_law_box", "_law_sizes_here", "_law_boxes"]) fun _ _ _ _ _ _ us hl => match us, hl with | [_, _, _], _ => rfl
  have b8 := F8.binds (ps := ["_law_actual", "_law_due"]) fun _ _ _ _ _ _ us hl => match us, hl with | [_, _], _ => rfl
  exact ⟨PySem.W.fnOf "law" "law" (defArgs sLaw) (defBody sLaw) (defScope sLaw) .none kV9 dc9 pm9 an9 cd9 ct9, fun s v => .of_eq rfl, fun base _ _ => ok_law F9 F3 b3 (PySem.W.mg_of X G a3) F4 b4 (PySem.W.mg_of X G a4) F5 b5 (PySem.W.mg_of X G a5) F1 b1 (PySem.W.mg_of X G a1) F6 b6 (PySem.W.mg_of X G a6) F8 b8 (PySem.W.mg_of X G a8) F7 b7 (PySem.W.mg_of X G a7) F2 b2 (PySem.W.mg_of X G a2) (PySem.W.mg_none_of X G z1) (PySem.W.mg_none_of X G z2) (PySem.W.mg_none_of X G z3) (PySem.W.mg_none_of X G z4) (PySem.W.mg_none_of X G z5) (PySem.W.mg_none_of X G z6) (PySem.W.mg_none_of X G z7) (PySem.W.mg_none_of X G z8) (PySem.W.mg_none_of X G z9)⟩
end K7
open PySem PySem.W PyProof.Rows
set_option maxRecDepth 100000 in
set_option maxHeartbeats 0 in
theorem PySem.Challenge.cw_ebbkeep_k07_whole_first_fit_is_exact_holds : PySem.Challenge.rw_ebbkeep_k07_whole_first_fit_is_exact.Holds := by
  w_on; o_law; k_head; (case hw => w_witness2)
  k_fill
  refine L2.walk_of (l := PySem.Challenge.rw_ebbkeep_k07_whole_first_fit_is_exact) (n := 63) (k := 3) (x := "_law_script") (CX := fun _ => L2.CX0) (sp := fun w => K7.spLaw _) rfl (by decide) rfl ⟨rfl, by decide, by decide⟩ (fun w h Y => PySem.W.kIn_of Y) ?F (fun _ _ a ns hl _ hS => ⟨a, ns, rfl, hS, hl, fun _ => rfl⟩) (fun _ _ _ _ _ h => h)
  case F =>
    intro w mg fa h KX G hmg
    refine' K7.all_mk KX G hmg ?a1 ?l1 ?c1 ?k1 ?a2 ?l2 ?c2 ?k2 ?a3 ?l3 ?c3 ?k3 ?a4 ?l4 ?c4 ?k4 ?a5 ?l5 ?c5 ?k5 ?a6 ?l6 ?c6 ?k6 ?a7 ?l7 ?c7 ?k7 ?a8 ?l8 ?c8 ?k8 ?a9 ?l9 ?c9 ?k9 ?z1 ?z2 ?z3 ?z4 ?z5 ?z6 ?z7 ?z8 ?z9
    (case a1 => k_is)
    (case l1 => k_is)
    (case c1 => k_is)
    (case k1 => k_is)
    (case a2 => k_is)
    (case l2 => k_is)
    (case c2 => k_is)
    (case k2 => k_is)
    (case a3 => k_is)
    (case l3 => k_is)
    (case c3 => k_is)
    (case k3 => k_is)
    (case a4 => k_is)
    (case l4 => k_is)
    (case c4 => k_is)
    (case k4 => k_is)
    (case a5 => k_is)
    (case l5 => k_is)
    (case c5 => k_is)
    (case k5 => k_is)
    (case a6 => k_is)
    (case l6 => k_is)
    (case c6 => k_is)
    (case k6 => k_is)
    (case a7 => k_is)
    (case l7 => k_is)
    (case c7 => k_is)
    (case k7 => k_is)
    (case a8 => k_is)
    (case l8 => k_is)
    (case c8 => k_is)
    (case k8 => k_is)
    (case a9 => k_is)
    (case l9 => k_is)
    (case c9 => k_is)
    (case k9 => k_is)
    (case z1 => k_is)
    (case z2 => k_is)
    (case z3 => k_is)
    (case z4 => k_is)
    (case z5 => k_is)
    (case z6 => k_is)
    (case z7 => k_is)
    (case z8 => k_is)
    (case z9 => k_is)
