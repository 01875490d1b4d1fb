import PyProof.Rows.All
import Wide.All
import OpenK.AllK
import Wide.FinOn
import PyProof.ListStr
import HandS.ForMost
import HandS.More
import HandS.Set
import HandS.SetFor
import KE.KFmtOwn
import HandS.Slots
import HandS.SlotsOwn
import PyProof.Rows.StrRev
import HandS.Walk
import HandS.Wide
import HandS.Style
import HandS.IsInst
import HandS.Gcd
import PySem.Challenge.RW_slantways_k08_whole_ways_among_turned_wo
set_option linter.all false
namespace K8
/-! words as lists of codes: 114 a rise, 115 a step -/
def turn {α : Type} (w : List α) (k : Nat) : List α := w.drop k ++ w.take k
def stp (a b : Int) (c : Nat) : Int := if c = 114 then b else -a
def ht (a b : Int) : List Nat → Int
  | [] => 0
  | c :: r => stp a b c + ht a b r
def levs (a b : Int) : Int → List Nat → List Int
  | _, [] => []
  | l, c :: r => l :: levs a b (l + stp a b c) r
def levels (a b : Int) (w : List Nat) : List Int := levs a b 0 w
def IsMin (m : Int) (l : List Int) : Prop := m ∈ l ∧ ∀ x ∈ l, m ≤ x
structure Wd (a b : Nat) (w : List Nat) : Prop where
  r : w.count 114 = a
  s : w.count 115 = b
  n : w.length = a + b

theorem IsMin.uniq {m m' : Int} {l : List Int} (h : IsMin m l) (h' : IsMin m' l) : m = m' :=
  Int.le_antisymm (h.2 _ h'.1) (h'.2 _ h.1)

/-! ### turning -/
theorem turn_len {α : Type} (w : List α) (k : Nat) : (turn w k).length = w.length := by
  unfold turn; rw [List.length_append, List.length_drop, List.length_take]; omega
theorem turn_zero {α : Type} (w : List α) : turn w 0 = w := by simp [turn]
theorem turn_all {α : Type} (w : List α) : turn w w.length = w := by simp [turn]
theorem turn_perm {α : Type} (w : List α) (k : Nat) : (turn w k).Perm w := by
  unfold turn
  exact (List.perm_append_comm).trans (List.Perm.of_eq (List.take_append_drop k w))
theorem turn_turn {α : Type} (w : List α) {i j : Nat} (h : i + j ≤ w.length) : turn (turn w i) j = turn w (i + j) := by
  unfold turn
  have h1 : j ≤ (w.drop i).length := by rw [List.length_drop]; omega
  rw [List.drop_append_of_le_length h1, List.take_append_of_le_length h1, List.drop_drop, List.append_assoc, ← List.take_add]
theorem turn_inj {α : Type} {w v : List α} {k : Nat} (hl : w.length = v.length) (h : turn w k = turn v k) : w = v := by
  unfold turn at h
  have hd : (w.drop k).length = (v.drop k).length := by rw [List.length_drop, List.length_drop, hl]
  obtain ⟨h1, h2⟩ := List.append_inj h hd
  rw [← List.take_append_drop k w, ← List.take_append_drop k v, h1, h2]

/-! ### levels -/
theorem levs_len (a b : Int) : ∀ (w : List Nat) (l : Int), (levs a b l w).length = w.length
  | [], _ => rfl
  | c :: r, l => by
    show (levs a b (l + stp a b c) r).length + 1 = r.length + 1
    rw [levs_len a b r]
theorem levs_app (a b : Int) : ∀ (u v : List Nat) (l : Int), levs a b l (u ++ v) = levs a b l u ++ levs a b (l + ht a b u) v
  | [], v, l => by
    show levs a b l v = levs a b (l + 0) v
    rw [Int.add_zero]
  | c :: r, v, l => by
    show l :: levs a b (l + stp a b c) (r ++ v) = l :: (levs a b (l + stp a b c) r ++ levs a b (l + (stp a b c + ht a b r)) v)
    rw [levs_app a b r v, Int.add_assoc]
theorem levs_shift (a b : Int) : ∀ (w : List Nat) (l d : Int), levs a b (l + d) w = (levs a b l w).map (· + d)
  | [], _, _ => rfl
  | c :: r, l, d => by
    show (l + d) :: levs a b (l + d + stp a b c) r = (l + d) :: (levs a b (l + stp a b c) r).map (· + d)
    rw [← levs_shift a b r (l + stp a b c) d]
    congr 2
    omega
theorem ht_app (a b : Int) : ∀ (u v : List Nat), ht a b (u ++ v) = ht a b u + ht a b v
  | [], v => by show ht a b v = 0 + ht a b v; omega
  | c :: r, v => by
    show stp a b c + ht a b (r ++ v) = stp a b c + ht a b r + ht a b v
    rw [ht_app a b r v]; omega
theorem levs_take (a b : Int) : ∀ (w : List Nat) (l : Int) (k : Nat), (levs a b l w).take k = levs a b l (w.take k)
  | [], _, k => by simp [levs]
  | c :: r, l, 0 => rfl
  | c :: r, l, k + 1 => by
    show l :: (levs a b (l + stp a b c) r).take k = l :: levs a b (l + stp a b c) (r.take k)
    rw [levs_take a b r]
theorem levs_get (a b : Int) : ∀ (w : List Nat) (l : Int) (k : Nat), k < w.length → (levs a b l w)[k]? = some (l + ht a b (w.take k))
  | [], _, k, h => by simp at h
  | c :: r, l, 0, _ => by show some l = some (l + 0); rw [Int.add_zero]
  | c :: r, l, k + 1, h => by
    have h' : k < r.length := by simpa using h
    show (levs a b (l + stp a b c) r)[k]? = some (l + (stp a b c + ht a b (r.take k)))
    rw [levs_get a b r _ k h', Int.add_assoc]
theorem levels_get {a b : Int} {w : List Nat} {k : Nat} (h : k < w.length) : (levels a b w)[k]? = some (ht a b (w.take k)) := by
  unfold levels
  rw [levs_get a b w 0 k h, Int.zero_add]
theorem levels_len (a b : Int) (w : List Nat) : (levels a b w).length = w.length := levs_len a b w 0
/-- the levels of a turned word -/
theorem levels_turn {a b : Int} {w : List Nat} {k : Nat} (h0 : ht a b w = 0) (hk : k ≤ w.length) :
    levels a b (turn w k) = (turn (levels a b w) k).map (· + -(ht a b (w.take k))) := by
  have hw : ht a b (w.take k) + ht a b (w.drop k) = 0 := by
    rw [← ht_app, List.take_append_drop]; exact h0
  have e1 : (levels a b w).take k = levs a b 0 (w.take k) := levs_take a b w 0 k
  have e2 : (levels a b w).drop k = levs a b (0 + ht a b (w.take k)) (w.drop k) := by
    have e : levels a b w = levs a b 0 (w.take k) ++ levs a b (0 + ht a b (w.take k)) (w.drop k) := by
      rw [← levs_app, List.take_append_drop]; rfl
    have hl : (levs a b 0 (w.take k)).length = k := by rw [levs_len, List.length_take]; omega
    rw [e, List.drop_append_of_le_length (by rw [hl]; exact Nat.le_refl _), List.drop_of_length_le (by rw [hl]; exact Nat.le_refl _), List.nil_append]
  show levs a b 0 (w.drop k ++ w.take k) = (((levels a b w).drop k) ++ ((levels a b w).take k)).map (· + -(ht a b (w.take k)))
  rw [levs_app, List.map_append, e1, e2, ← levs_shift, ← levs_shift]
  congr 2 <;> omega
theorem ht_count (a b : Int) : ∀ w : List Nat, ht a b w = b * (w.count 114 : Int) - a * ((w.length : Int) - (w.count 114 : Int))
  | [] => by simp [ht]
  | c :: r => by
    show stp a b c + ht a b r = _
    rw [ht_count a b r, List.length_cons, List.count_cons]
    unfold stp
    by_cases h : c = 114
    · subst h
      simp only [if_pos, beq_self_eq_true, Int.natCast_add, Int.natCast_one, if_true]
      rw [Int.mul_add]
      have : (r.length : Int) + 1 - ((List.count 114 r : Int) + 1) = (r.length : Int) - (List.count 114 r : Int) := by omega
      rw [this]; omega
    · have hb : (c == 114) = false := by simpa using h
      simp only [if_neg h, hb, Int.natCast_add, Int.natCast_one, Bool.false_eq_true, if_false, Nat.add_zero]
      have : (r.length : Int) + 1 - (List.count 114 r : Int) = ((r.length : Int) - (List.count 114 r : Int)) + 1 := by omega
      rw [this, Int.mul_add]; omega
theorem Wd.zero {a b : Nat} {w : List Nat} (h : Wd a b w) : ht a b w = 0 := by
  rw [ht_count, h.r, h.n]
  have : ((a + b : Nat) : Int) - (a : Int) = (b : Int) := by omega
  rw [this, Int.mul_comm]; omega
theorem Wd.turn {a b : Nat} {w : List Nat} (h : Wd a b w) (k : Nat) : Wd a b (turn w k) :=
  ⟨by rw [(turn_perm w k).count_eq]; exact h.r, by rw [(turn_perm w k).count_eq]; exact h.s, by rw [turn_len]; exact h.n⟩
theorem Wd.rev {a b : Nat} {w : List Nat} (h : Wd a b w) : Wd a b w.reverse :=
  ⟨by rw [(List.reverse_perm w).count_eq]; exact h.r, by rw [(List.reverse_perm w).count_eq]; exact h.s, by rw [List.length_reverse]; exact h.n⟩

theorem ht_next {a b : Int} {w : List Nat} {i c : Nat} (h : w[i]? = some c) : ht a b (w.take (i + 1)) = ht a b (w.take i) + stp a b c := by
  rw [List.take_add_one, h, ht_app]
  show _ + (stp a b c + 0) = _
  omega
theorem levels_next {a b : Int} {w : List Nat} {i : Nat} (h : i < w.length) : (levels a b w).take (i + 1) = (levels a b w).take i ++ [ht a b (w.take i)] := by
  rw [List.take_add_one, levels_get h]; rfl
theorem levels_all (a b : Int) (w : List Nat) : (levels a b w).take w.length = levels a b w := List.take_of_length_le (by rw [levels_len]; exact Nat.le_refl _)

/-- the word that is turned by k is a way -/
def Up (a b : Int) (w : List Nat) : Prop := ∀ x ∈ levels a b w, 0 ≤ x
instance (a b : Int) (w : List Nat) : Decidable (Up a b w) := inferInstanceAs (Decidable (∀ x ∈ levels a b w, 0 ≤ x))
theorem up_iff {a b : Int} {w : List Nat} {k : Nat} (h0 : ht a b w = 0) (hk : k < w.length) : Up a b (turn w k) ↔ IsMin (ht a b (w.take k)) (levels a b w) := by
  have hm : ht a b (w.take k) ∈ levels a b w := List.mem_of_getElem? (levels_get hk)
  have hp := turn_perm (levels a b w) k
  unfold Up
  rw [levels_turn h0 (Nat.le_of_lt hk)]
  constructor
  · intro h
    refine ⟨hm, fun x hx => ?_⟩
    have := h (x + -(ht a b (w.take k))) (List.mem_map.mpr ⟨x, hp.mem_iff.mpr hx, rfl⟩)
    omega
  · rintro ⟨_, h⟩ x hx
    obtain ⟨y, hy, rfl⟩ := List.mem_map.mp hx
    have := h y (hp.mem_iff.mp hy)
    show 0 ≤ y + -(ht a b (w.take k))
    omega
/-- the numbers by which a word is turned into a way -/
def ups (a b : Int) (w : List Nat) : List Nat := (List.range w.length).filter fun k => decide (Up a b (turn w k))
/-- .. are the places of the lowest level -/
theorem ups_low {a b : Int} {w : List Nat} {m : Int} (h0 : ht a b w = 0) (hm : IsMin m (levels a b w)) :
    ups a b w = (List.range w.length).filter fun k => decide ((levels a b w)[k]? = some m) := by
  unfold ups
  refine List.filter_congr fun k hk => ?_
  have hk' : k < w.length := List.mem_range.mp hk
  rw [levels_get hk']
  refine decide_eq_decide.mpr ((up_iff h0 hk').trans ⟨fun h => by rw [h.uniq hm], fun h => ?_⟩)
  rw [Option.some.inj h]; exact hm
theorem exists_min : ∀ (l : List Int), l ≠ [] → ∃ m, IsMin m l
  | [], h => absurd rfl h
  | [x], _ => ⟨x, by simp [IsMin]⟩
  | x :: y :: r, _ => by
    obtain ⟨m, h1, h2⟩ := exists_min (y :: r) (by simp)
    by_cases h : x ≤ m
    · exact ⟨x, List.mem_cons_self, fun z hz => by
        rcases List.mem_cons.mp hz with e | hz
        · omega
        · have := h2 z hz; omega⟩
    · exact ⟨m, List.mem_cons_of_mem _ h1, fun z hz => by
        rcases List.mem_cons.mp hz with e | hz
        · omega
        · exact h2 z hz⟩
theorem ups_ne {a b : Int} {w : List Nat} (h0 : ht a b w = 0) (hw : w ≠ []) : ups a b w ≠ [] := by
  have hl : levels a b w ≠ [] := by
    intro e
    have := levels_len a b w
    rw [e] at this
    exact hw (List.eq_nil_of_length_eq_zero this.symm)
  obtain ⟨m, hm⟩ := exists_min _ hl
  obtain ⟨k, hk, e⟩ := List.getElem_of_mem hm.1
  rw [ups_low h0 hm]
  intro h
  have hk' : k < w.length := by rw [levels_len] at hk; exact hk
  have hmem : k ∈ (List.range w.length).filter fun k => decide ((levels a b w)[k]? = some m) := by
    refine List.mem_filter.mpr ⟨List.mem_range.mpr hk', ?_⟩
    rw [List.getElem?_eq_getElem hk, e]; simp
  rw [h] at hmem; simp at hmem

/-! ### counting -/
theorem filter_get_count {α : Type} [DecidableEq α] (m : α) : ∀ (l : List α), ((List.range l.length).filter fun k => decide (l[k]? = some m)).length = l.count m
  | [] => rfl
  | x :: r => by
    have ih := filter_get_count m r
    rw [List.length_cons, List.range_succ_eq_map, List.filter_cons, List.filter_map, List.count_cons]
    have e : ((fun k => decide ((x :: r)[k]? = some m)) ∘ Nat.succ) = fun k => decide (r[k]? = some m) := by
      funext k; simp
    rw [e]
    by_cases h : x = m
    · subst h; simp [ih]
    · have hb : (x == m) = false := by simpa using h
      simp [ih, h]
/-- touches -/
theorem touches {a b : Int} {w : List Nat} {k : Nat} (h0 : ht a b w = 0) (hk : k ∈ ups a b w) : (levels a b (turn w k)).count 0 = (ups a b w).length := by
  obtain ⟨h1, h2⟩ := List.mem_filter.mp hk
  have hk' : k < w.length := List.mem_range.mp h1
  have hm := (up_iff h0 hk').mp (of_decide_eq_true h2)
  rw [ups_low h0 hm, ← levels_len a b w, filter_get_count, levels_turn h0 (Nat.le_of_lt hk')]
  rw [← (turn_perm (levels a b w) k).count_eq (ht a b (w.take k))]
  generalize turn (levels a b w) k = l
  generalize ht a b (w.take k) = d
  induction l with
  | nil => rfl
  | cons x r ih =>
    rw [List.map_cons, List.count_cons, List.count_cons, ih]
    congr 1
    by_cases h : x = d
    · subst h; simp [Int.add_right_neg]
    · have h3 : ¬ x + -d = 0 := by omega
      simp [h, h3]

/-! ### the period -/
structure Per {α : Type} (w : List α) (p : Nat) : Prop where
  pos : 0 < p
  le : p ≤ w.length
  eq : turn w p = w
  least : ∀ t, 0 < t → t < p → turn w t ≠ w
theorem Per.red {α : Type} {w : List α} {p : Nat} (P : Per w p) : ∀ (n d : Nat), d ≤ n → d ≤ w.length → turn w d = turn w (d % p)
  | 0, d, h, _ => by
    have : d = 0 := by omega
    subst this; simp
  | n + 1, d, h, hd => by
    by_cases hp : d < p
    · rw [Nat.mod_eq_of_lt hp]
    · have h1 : p + (d - p) = d := by omega
      have e : turn w d = turn w (d - p) := by
        conv => lhs; rw [← h1, ← turn_turn w (by omega), P.eq]
      have hpos := P.pos
      rw [e, P.red n (d - p) (by omega) (by omega)]
      exact congrArg (turn w) (Nat.mod_eq_sub_mod (by omega)).symm
theorem Per.dvd {α : Type} {w : List α} {p : Nat} (P : Per w p) {d : Nat} (hd : d ≤ w.length) (h : turn w d = w) : d % p = 0 := by
  have e := P.red d d (Nat.le_refl _) hd
  rw [h] at e
  rcases Nat.eq_zero_or_pos (d % p) with z | z
  · exact z
  · exact absurd e.symm (P.least _ z (Nat.mod_lt _ P.pos))
theorem Per.sep {α : Type} {w : List α} {p : Nat} (P : Per w p) {i j : Nat} (hij : i < j) (hj : j < p) : turn w i ≠ turn w j := by
  intro e
  have hl := P.le
  have h1 : (j - i) + i = j := by omega
  have e2 : turn w j = turn (turn w (j - i)) i := by rw [turn_turn w (by omega), h1]
  rw [e2] at e
  have e3 : w = turn w (j - i) := turn_inj (by rw [turn_len]) e
  exact P.least (j - i) (by omega) (by omega) e3.symm

theorem nodup_same_len {α : Type} {l m : List α} (hl : l.Nodup) (hm : m.Nodup) (h : ∀ x, x ∈ l ↔ x ∈ m) : l.length = m.length :=
  ((List.perm_ext_iff_of_nodup hl hm).mpr h).length_eq
theorem periodic_count {p : Nat} (f : Nat → Bool) : ∀ q : Nat, (∀ k, k + p < q * p → f (k + p) = f k) → ((List.range (q * p)).filter f).length = q * ((List.range p).filter f).length
  | 0, _ => by simp
  | q + 1, h => by
    have ih := periodic_count f q fun k hk => h k (by rw [Nat.succ_mul]; omega)
    have key : ∀ (q : Nat) (k : Nat), (∀ k, k + p < q * p + p → f (k + p) = f k) → k < p → f (q * p + k) = f k := by
      intro q
      induction q with
      | zero => intro k _ _; rw [Nat.zero_mul, Nat.zero_add]
      | succ q ihq =>
        intro k hh hk
        have e : (q + 1) * p + k = (q * p + k) + p := by rw [Nat.succ_mul]; omega
        have e2 : (q + 1) * p = q * p + p := Nat.succ_mul q p
        rw [e, hh (q * p + k) (by omega)]
        exact ihq k (fun k' hk' => hh k' (by omega)) hk
    rw [Nat.succ_mul, List.range_add, List.filter_append, List.length_append, ih, List.filter_map, List.length_map, Nat.succ_mul]
    congr 1
    congr 1
    refine List.filter_congr fun k hk => ?_
    exact key q k (fun k' hk' => h k' (by rw [Nat.succ_mul]; exact hk')) (List.mem_range.mp hk)
/-- of all turned words with a property, each once: as many as the numbers, the period and the length say -/
theorem count_turns {w : List Nat} {p : Nat} (P : Per w p) (R : List Nat → Bool) (found : List (List Nat)) (hn : found.Nodup)
    (hf : ∀ x, x ∈ found ↔ ∃ k, k < w.length ∧ R (turn w k) = true ∧ x = turn w k) :
    found.length * w.length = ((List.range w.length).filter fun k => R (turn w k)).length * p := by
  have hlen : w.length % p = 0 := P.dvd (Nat.le_refl _) (turn_all w)
  obtain ⟨q, hq⟩ : ∃ q, w.length = q * p := ⟨w.length / p, by
    have := Nat.div_add_mod w.length p
    rw [hlen, Nat.add_zero, Nat.mul_comm] at this; exact this.symm⟩
  have hper : ∀ k, k + p < q * p → R (turn w (k + p)) = R (turn w k) := fun k hk => by
    rw [Nat.add_comm k p, ← turn_turn w (by omega), P.eq]
  have h1 : ((List.range w.length).filter fun k => R (turn w k)).length = q * ((List.range p).filter fun k => R (turn w k)).length := by
    rw [hq]; exact periodic_count (fun k => R (turn w k)) q hper
  have h2 : found.length = ((List.range p).filter fun k => R (turn w k)).length := by
    rw [← List.length_map (f := fun k => turn w k) (as := (List.range p).filter fun k => R (turn w k))]
    refine nodup_same_len hn ?_ fun x => ?_
    · have nd : ((List.range p).filter fun k => R (turn w k)).Pairwise (· < ·) := List.Pairwise.filter _ (List.pairwise_lt_range)
      rw [List.Nodup, List.pairwise_map]
      refine List.Pairwise.imp_of_mem (fun {i j} hi hj hij => ?_) nd
      exact P.sep hij (List.mem_range.mp (List.mem_filter.mp hj).1)
    · rw [hf x, List.mem_map]
      constructor
      · rintro ⟨k, hk, hr, rfl⟩
        have e := P.red k k (Nat.le_refl _) (Nat.le_of_lt hk)
        exact ⟨k % p, List.mem_filter.mpr ⟨List.mem_range.mpr (Nat.mod_lt _ P.pos), by rw [← e]; exact hr⟩, e.symm⟩
      · rintro ⟨k, hk, rfl⟩
        obtain ⟨k1, k2⟩ := List.mem_filter.mp hk
        have := P.le
        exact ⟨k, Nat.lt_of_lt_of_le (List.mem_range.mp k1) P.le, k2, rfl⟩
  rw [h1, h2, hq, Nat.mul_comm q p, ← Nat.mul_assoc, Nat.mul_assoc q, Nat.mul_comm q]

/-! ### finding -/
theorem twice_drop {α : Type} (w : List α) {i : Nat} (h : i ≤ w.length) : ((w ++ w).drop i).take w.length = turn w i := by
  unfold turn
  rw [List.drop_append_of_le_length h, List.take_append]
  have h1 : (w.drop i).length = w.length - i := List.length_drop
  rw [List.take_of_length_le (by rw [h1]; omega), h1]
  congr 2
  omega
/-- the least place, if any -/
def IsFind {α : Type} (t w : List α) (r : Int) : Prop :=
  (r = -1 ∧ ∀ i, i + w.length ≤ t.length → (t.drop i).take w.length ≠ w) ∨
  ∃ i : Nat, r = (i : Int) ∧ i + w.length ≤ t.length ∧ (t.drop i).take w.length = w ∧ ∀ j, j < i → (t.drop j).take w.length ≠ w
/-- what turn_to answers: the first of the numbers by which the law turns -/
theorem find_first {w v : List Nat} {r : Int} (hl : v.length = w.length) (h0 : 0 < w.length) (h : IsFind (w ++ w) v r) :
    (r = -1 ∧ ((List.range w.length).filter fun k => decide (turn w k = v)) = []) ∨ ∃ i : Nat, r = (i : Int) ∧ ((List.range w.length).filter fun k => decide (turn w k = v))[0]? = some i := by
  rcases h with ⟨e, hn⟩ | ⟨i, e, h1, h2, h3⟩
  · refine Or.inl ⟨e, List.filter_eq_nil_iff.mpr fun k hk => ?_⟩
    have hk' := List.mem_range.mp hk
    have := hn k (by rw [List.length_append]; omega)
    rw [hl, twice_drop w (Nat.le_of_lt hk')] at this
    simpa using this
  · rw [List.length_append] at h1
    have hi : i ≤ w.length := by omega
    rw [hl, twice_drop w hi] at h2
    have hlt : i < w.length := by
      rcases Nat.lt_or_ge i w.length with c | c
      · exact c
      · exfalso
        have ei : i = w.length := by omega
        subst ei
        have := h3 0 h0
        rw [hl, twice_drop w (Nat.zero_le _), turn_zero] at this
        rw [turn_all] at h2
        exact this h2
    refine Or.inr ⟨i, e, ?_⟩
    have hspl : List.range w.length = List.range i ++ (i :: (List.range (w.length - i - 1)).map (fun k => i + 1 + k)) := by
      have e1 : w.length = i + ((w.length - i - 1) + 1) := by omega
      conv => lhs; rw [e1, List.range_add, List.range_succ_eq_map, List.map_cons, List.map_map]
      congr 2
      refine List.map_congr_left fun k _ => ?_
      show i + (k + 1) = i + 1 + k
      omega
    rw [hspl, List.filter_append]
    have hnil : (List.range i).filter (fun k => decide (turn w k = v)) = [] := List.filter_eq_nil_iff.mpr fun k hk => by
      have hk' := List.mem_range.mp hk
      have := h3 k hk'
      rw [hl, twice_drop w (by omega)] at this
      simpa using this
    rw [hnil, List.nil_append, List.filter_cons, if_pos (by simpa using h2)]
    rfl
end K8
set_option Elab.async false
set_option linter.all false
set_option maxRecDepth 100000
set_option maxHeartbeats 4000000
/-! Sets that can be walked, by a property of their entries; then sets of texts: set(list), sorted(set). -/
namespace K8S
open PySem PySem.Spec PyProof.Rows L2

abbrev Es := List (Int × Value)
/-- a set stands at a, its entries have the property G, and it can be walked -/
def Box (w : World) (G : Es → Prop) (h : Heap) (a : Addr) : Prop :=
  ∃ (o : Obj) (es : Array (Int × Value)) (ep : Nat) (t : SetTable), h.get? a = some o ∧ o.ExactSet ∧ o.data = .set es ep t ∧ G es.toList ∧
    es.size < scanBound ∧ t.fits es.size = true ∧ Ris t.place.toList ∧ (w.params.followText "set-order" = true ∨ t.led = true)
/-- the property asks for no order -/
def Sym (G : Es → Prop) : Prop := ∀ l l' : Es, l'.Perm l → G l → G l'
theorem Box.stay {w : World} {G : Es → Prop} {h h' : Heap} {a : Addr} (b : Box w G h a) (k : ∀ o, h.get? a = some o → h'.get? a = some o) : Box w G h' a :=
  let ⟨o, es, ep, t, e, z⟩ := b
  ⟨o, es, ep, t, k o e, z⟩
theorem Box.imp {w : World} {G G' : Es → Prop} {h : Heap} {a : Addr} (b : Box w G h a) (k : ∀ l, G l → G' l) : Box w G' h a :=
  let ⟨o, es, ep, t, e, x, d, g, z⟩ := b
  ⟨o, es, ep, t, e, x, d, k _ g, z⟩
theorem Box.lt {w : World} {G : Es → Prop} {h : Heap} {a : Addr} (b : Box w G h a) : a < h.objs.size :=
  let ⟨_, _, _, _, e, _⟩ := b
  Heap.lt_size e

section
variable {P : Program} {w : World} {A : Around} {E : Value → Shared → Prop} {s : Shared} {a : Addr}
variable {κ : Type} [DecidableEq κ] {knd : PySem.KeyKind P w κ} {k : κ} {x : Value}

/-- the entries are stored; where the table has become too full, it is laid anew -/
theorem put_back {G : Es → Prop} (sy : Sym G) {note : Bool → Sem Unit} (hn : ∀ (b : Bool) (s1 : Shared) (Z : Unit → Shared → Prop), Z () s1 → wpAny (model P w) A (note b) Z E s1)
    {o : Obj} {es e1 : Array (Int × Value)} {ep : Nat} {t t1 : SetTable} (at0 : s.heap.get? a = some o) (ex : o.ExactSet) (da : o.data = .set es ep t)
    (g : G e1.toList) (few : e1.size < scanBound) (fit : t1.fits e1.size = true) (ri : Ris t1.place.toList) (le : w.params.followText "set-order" = true ∨ t1.led = true) {dummy : Bool} {Z : Option Bool → Shared → Prop}
    (k : ∀ h', Heap.SameBut a s.heap h' → Box w G h' a → Z (some true) { s with heap := h' }) :
    wpAny (model P w) A (do
        storeSet a e1 t1
        if (!dummy && t1.tooFull) = true then do
            note (relayAll t1 e1 (SetTable.grown e1.size)).2.2
            storeSet a (relayAll t1 e1 (SetTable.grown e1.size)).1 (relayAll t1 e1 (SetTable.grown e1.size)).2.1
            pure (some true)
          else pure (some true)) Z E s := by
  have at1 := store_at (es' := e1) (t' := t1) at0 da
  have sb := Heap.SameBut.update s.heap a (Obj.putSet e1 t1)
  refine wpAny_bind (wpAny_storeSet_of at0 da ?_ (fits_of_scanBound few))
  by_cases c : (!dummy && t1.tooFull) = true
  · rw [if_pos c]
    have p1 := relayAll_perm t1 e1 (SetTable.grown e1.size)
    have p2 := relayAll_fits t1 e1 (SetTable.grown e1.size)
    have p3 := relayAll_ris t1 e1 (SetTable.grown e1.size)
    have p4 := relayAll_led t1 e1 (SetTable.grown e1.size)
    generalize relayAll t1 e1 (SetTable.grown e1.size) = z at p1 p2 p3 p4 ⊢
    obtain ⟨e2, t2, gave⟩ := z
    dsimp only at p1 p2 p3 p4 ⊢
    have sz : e2.size = e1.size := p1.length_eq
    have few2 : e2.size < scanBound := by rw [sz]; exact few
    refine wpAny_bind (hn _ _ _ (wpAny_bind (wpAny_storeSet_of at1 rfl ?_ (fits_of_scanBound few2))))
    have at2 := store_at (es' := e2) (t' := t2) at1 rfl
    refine wpAny_pure (k _ (sb.trans (Heap.SameBut.update _ a _)) ⟨_, e2, _, t2, at2, ex, rfl, sy _ _ p1 g, few2, p2, p3, ?_⟩)
    rw [p4]
    exact le
  · rw [if_neg c]
    exact wpAny_pure (k _ sb ⟨_, e1, _, t1, at1, ex, rfl, g, few, fit, ri, le⟩)

/-- a key is added -/
theorem box_add {G G' : Es → Prop} (b : Box w G s.heap a) (el : ∀ l, G l → ElemsOf knd l) (room : ∀ l, G l → l.length + 1 < scanBound) (sy : Sym G')
    (is : knd.is k x = true) (sc : x.scannable = true) (old : ∀ l, G l → (∃ e ∈ l, knd.is k e.2 = true) → G' l) (new : ∀ l, G l → (∀ e ∈ l, knd.is k e.2 = false) → G' (l ++ [(knd.hash k, x)]))
    {Q : Bool → Shared → Prop} (kq : ∀ r h', Heap.SameBut a s.heap h' → Box w G' h' a → Q r { s with heap := h' }) : wpAny (model P w) A (setAddHashed a x (knd.hash k)) Q E s := by
  obtain ⟨o, es, ep, t, at0, ex, da, g, few, fit, ri, le⟩ := b
  have els := el _ g
  have rm := room _ g
  rw [Array.length_toList] at rm
  have quiet : ∀ (b : Bool) (s1 : Shared) (Z : Unit → Shared → Prop), Z () s1 → wpAny (model P w) A (match b with | true => rule "set.scan.the-table-gave-way" | false => pure ()) Z E s1 := by
    intro b s1 Z z
    cases b
    · exact wpAny_pure z
    · exact wpAny_rule z
  unfold setAddHashed setAddHashedIn
  refine wpAny_holding (wpAny_bind (wpAny_setState_of at0 da fit ?_))
  dsimp only
  rw [byScan_of sc few els, if_pos rfl]
  unfold setAddByScan
  refine wpAny_bind (wpAny_bind (wpAny_rule (wpAny_bind (wpAny_setScan_of is at0 da fit els ?_))))
  cases fi : List.findIdx? (fun e => knd.is k e.2) es.toList with
  | some j =>
    obtain ⟨hj, pj, _⟩ := List.findIdx?_eq_some_iff_getElem.mp fi
    exact wpAny_pure (wpAny_pure (kq false s.heap (Heap.SameBut.refl a s.heap) ⟨o, es, ep, t, at0, ex, da, old _ g ⟨_, List.getElem_mem hj, pj⟩, few, fit, ri, le⟩))
  | none =>
    have none' : ∀ e ∈ es.toList, knd.is k e.2 = false := List.findIdx?_eq_none_iff.mp fi
    have q1 := layNew_perm t es (knd.hash k) x
    have q2 := layNew_fits t es (knd.hash k) x
    have q3 := layNew_ris t es (knd.hash k) x ri
    have q4 := layNew_led t es (knd.hash k) x
    dsimp only
    generalize layNew t es (knd.hash k) x = z at q1 q2 q3 q4 ⊢
    obtain ⟨e1, t1, dummy, gave⟩ := z
    dsimp only at q1 q2 q3 q4 ⊢
    rw [Array.toList_push] at q1
    have g1 : G' e1.toList := sy _ _ q1 (new _ g none')
    have sz : e1.size = es.size + 1 := by
      have z := q1.length_eq
      rw [List.length_append, Array.length_toList, Array.length_toList] at z
      exact z
    have few1 : e1.size < scanBound := by rw [sz]; exact rm
    have le1 : w.params.followText "set-order" = true ∨ t1.led = true := by
      rw [q4]; exact le
    have fin : ∀ h', Heap.SameBut a s.heap h' → Box w G' h' a → wpAny (model P w) A (match (some true : Option Bool) with | some added => pure added | none => setAddHashedIn a x (knd.hash k) 99999) Q E { s with heap := h' } :=
      fun h' sb bx => wpAny_pure (kq true h' sb bx)
    refine wpAny_bind (quiet _ _ _ ?_)
    split
    · refine wpAny_bind ?_
      rw [hashByValue_scannable 8 sc]
      refine wpAny_pure (put_back sy quiet at0 ex da g1 few1 ?_ ?_ ?_ fin)
      · split
        · exact q2
        · exact SetTable.fits_plain_off q2
      · split <;> exact q3
      · split <;> exact le1
    · refine wpAny_bind (wpAny_pure ?_)
      rw [if_pos rfl]
      exact put_back sy quiet at0 ex da g1 few1 q2 q3 le1 fin
end
end K8S

namespace K8S
open PySem PySem.Spec PyProof.Rows L2

/-! ### texts -/
def txt (e : Int × Value) : Str := match e.2 with
  | .str y _ => y
  | _ => Str.empty
/-- the entries are the texts xs, each once -/
structure Tx (P : Program) (w : World) (xs : List Str) (l : Es) : Prop where
  ok : ∀ e ∈ l, ∃ y t, e = (hashStr w y, Value.str y t)
  nd : (l.map txt).Nodup
  mem : ∀ y, y ∈ l.map txt ↔ y ∈ xs
  len : l.length ≤ xs.length
theorem Tx.sym {P : Program} {w : World} {xs : List Str} : Sym (Tx P w xs) := fun l l' p g =>
  ⟨fun e he => g.ok e (p.mem_iff.mp he), ((p.map txt).nodup_iff).mpr g.nd, fun y => ((p.map txt).mem_iff).trans (g.mem y), by rw [p.length_eq]; exact g.len⟩
theorem Tx.els {P : Program} {w : World} {xs : List Str} {l : Es} (g : Tx P w xs l) : ElemsOf (PySem.strKind P w) l := fun e he => by
  obtain ⟨y, t, rfl⟩ := g.ok e he
  exact ⟨⟨y, strKind_is _ _ _ _, rfl⟩, rfl⟩
theorem is_txt {P : Program} {w : World} {y z : Str} {t : Tok} : (PySem.strKind P w).is y (Value.str z t) = true ↔ z = y := by
  show ((z == y) = true) ↔ _
  exact beq_iff_eq
theorem Tx.old {P : Program} {w : World} {xs : List Str} {y : Str} {l : Es} (g : Tx P w xs l) (h : ∃ e ∈ l, (PySem.strKind P w).is y e.2 = true) : Tx P w (xs ++ [y]) l := by
  obtain ⟨e, he, q⟩ := h
  obtain ⟨z, t, rfl⟩ := g.ok e he
  have ez : z = y := is_txt.mp q
  have my : y ∈ xs := (g.mem y).mp (List.mem_map.mpr ⟨_, he, ez⟩)
  refine ⟨g.ok, g.nd, fun u => (g.mem u).trans ⟨fun m => List.mem_append_left _ m, fun m => ?_⟩, by rw [List.length_append]; exact Nat.le_trans g.len (Nat.le_add_right _ _)⟩
  rcases List.mem_append.mp m with m | m
  · exact m
  · rw [List.mem_singleton.mp m]; exact my
theorem Tx.new {P : Program} {w : World} {xs : List Str} {y : Str} {t : Tok} {l : Es} (g : Tx P w xs l) (h : ∀ e ∈ l, (PySem.strKind P w).is y e.2 = false) :
    Tx P w (xs ++ [y]) (l ++ [((PySem.strKind P w).hash y, Value.str y t)]) := by
  refine ⟨fun e he => ?_, ?_, fun u => ?_, ?_⟩
  · rcases List.mem_append.mp he with he | he
    · exact g.ok e he
    · exact ⟨y, t, List.mem_singleton.mp he⟩
  · rw [List.map_append]
    refine List.nodup_append.mpr ⟨g.nd, by simp, fun a ha b hb => ?_⟩
    rintro rfl
    have eb : a = y := by simpa [txt] using hb
    obtain ⟨e, he, ea⟩ := List.mem_map.mp ha
    obtain ⟨z, u, rfl⟩ := g.ok e he
    have q := h _ he
    have : (PySem.strKind P w).is y (Value.str z u) = true := is_txt.mpr ((show z = a from ea).trans eb)
    rw [this] at q
    cases q
  · rw [List.map_append, List.mem_append, List.mem_append, g.mem u]
    exact Iff.rfl
  · rw [List.length_append, List.length_append]
    exact Nat.add_le_add_right g.len 1
theorem Tx.zero {P : Program} {w : World} : Tx P w [] [] := ⟨fun e he => (by cases he), List.nodup_nil, fun y => Iff.rfl, Nat.le_refl _⟩
/-- the set of the texts xs at a -/
abbrev TBox (P : Program) (w : World) (xs : List Str) (h : Heap) (a : Addr) : Prop := Box w (Tx P w xs) h a

section
variable {P : Program} {w : World} {A : Around} {E : Value → Shared → Prop} {s : Shared}
theorem fresh_box {h : Heap} {a : Addr} (e : h.get? a = some { cls := .type "set", dict := none, data := .set #[] 0 (.fresh 0 0 (!w.params.followText "set-order")) }) : TBox P w [] h a := by
  refine ⟨_, #[], 0, _, e, ⟨rfl, rfl, rfl⟩, rfl, Tx.zero, by decide, by rfl, List.Pairwise.nil, ?_⟩
  show w.params.followText "set-order" = true ∨ (!w.params.followText "set-order") = true
  cases w.params.followText "set-order" <;> simp

/-- the loop that fills a set from a walk over texts -/
theorem fill_loop {I : Addr} {fp wr : List Addr} {G : Array GenState → Array GenState → Prop} {n : Nat} {Y : Nat → Value → Prop} {St : Nat → Shared → Prop} {R : Result → Shared → Prop}
    (W : WalksS P w A.in1 I fp wr G n Y St) {S : Addr} (out : S ∉ fp) {xs : List Str} (len : n = xs.length) (few : xs.length + 1 < scanBound) (val : ∀ i v, Y i v → ∃ y t, xs[i]? = some y ∧ v = .str y t) :
    ∀ (m i : Nat) (s : Shared), i + m = n → St i s → TBox P w (xs.take i) s.heap S → (∀ s', Moved (S :: wr) G s s' → TBox P w xs s'.heap S → R (.ok (.ret .none)) s') →
      codeAny (model P w) A (.builtin "set.update.loop" ⟨[.ref S, .ref I], []⟩) R s := by
  have sw : S ∉ wr := fun z => out (W.sub _ z)
  have more : ∀ b ∈ wr, b ∈ S :: wr := fun b z => List.mem_cons_of_mem _ z
  intro m
  induction m with
  | zero =>
    intro i s e st bx k
    have ei : i = n := e
    subst ei
    refine codeAny_builtin F.entry_set_update_loop ?_
    rw [Around.under_plainId F.plain_set_update_loop _]
    show wpAny _ A.in1 (pyNext (.ref I) >>= _) _ _ s
    refine wpAny_bind (W.done s _ _ st fun s' mv => ?_)
    rw [len, List.take_length] at bx
    exact wpAny_pure (k s' (mv.mono more) (bx.stay fun o z => mv.heap S o sw z))
  | succ m ih =>
    intro i s e st bx k
    have lt : i < n := by omega
    refine codeAny_builtin F.entry_set_update_loop ?_
    rw [Around.under_plainId F.plain_set_update_loop _]
    show wpAny _ A.in1 (pyNext (.ref I) >>= _) _ _ s
    refine wpAny_bind (W.item i s _ _ lt st fun v s' y st' mv => ?_)
    obtain ⟨z, t, hz, rfl⟩ := val i v y
    have bx' : TBox P w (xs.take i) s'.heap S := bx.stay fun o q => mv.heap S o sw q
    show wpAny _ A.in1 (holding [Value.str z t] (setAdd S (.str z t)) >>= _) _ _ s'
    refine wpAny_bind (wpAny_holding ?_)
    unfold setAdd
    refine wpAny_holding (wpAny_bind ((PySem.strKind P w).pyHash (k := z) (strKind_is _ _ _ _) ?_))
    refine box_add (s := { s' with toks := s'.toks + 1 }) (knd := PySem.strKind P w) (k := z) (G' := Tx P w (xs.take i ++ [z])) bx' (fun l g => g.els) (fun l g => ?_) Tx.sym (strKind_is _ _ _ _) rfl (fun l g q => g.old q) (fun l g q => g.new q) fun r h' sb bx2 => ?_
    · have z1 := g.len
      rw [List.length_take] at z1
      omega
    · have tk : xs.take (i + 1) = xs.take i ++ [z] := by rw [List.take_add_one, hz]; rfl
      rw [← tk] at bx2
      refine wpAny_pure ⟨plainId_quiet F.plain_set_update_loop _, ih (i + 1) _ (by omega) (W.frame _ s' _ _ st' (Nat.le_succ _) fun b hb o q => ?_) bx2 fun s2 mv2 bx3 => ?_⟩
      · have nb : b ≠ S := fun z => out (z ▸ hb)
        rw [sb.2 b nb]; exact q
      · refine k s2 (Moved.trans W.gtrans ((mv.mono more).then_heap (Nat.le_succ _) fun b o hb q => ?_) mv2) bx3
        have nb : b ≠ S := fun z => hb (z ▸ List.mem_cons_self)
        rw [sb.2 b nb]; exact q
end
end K8S

namespace K8S
open PySem PySem.Spec PyProof.Rows L2
section
variable {P : Program} {w : World} {A : Around} {E : Value → Shared → Prop} {s : Shared}
abbrev newSetObj (w : World) : Obj := { cls := .type "set", dict := none, data := .set #[] 0 (.fresh 0 0 (!w.params.followText "set-order")) }
/-- set.__init__ over a list of texts -/
theorem init_box {S l : Addr} {items : Array Value} {xs : List Str} {R : Result → Shared → Prop} (hh : A.handled = none) (hl : s.heap.IsList l items) (it : StrsAre items.toList xs) (few : xs.length + 1 < scanBound)
    (hS : s.heap.get? S = some (newSetObj w)) (ne : l ≠ S)
    (k : ∀ h' tk, (∀ b o, b ≠ S → s.heap.get? b = some o → h'.get? b = some o) → TBox P w xs h' S → R (.ok (.ret .none)) { s with heap := h', toks := tk }) :
    wpAny (model P w) A.in1 (Builtin.«set.__init__» ⟨[.ref S, .ref l], []⟩)
      (fun fin s' => match fin with | .done f => R (.ok f) s' | .again c' => c'.quiet = true ∧ codeAny (model P w) A c' R s') (fun e s' => R (.error e) s') s := by
  have isz : items.size = xs.length := by
    have z := StrsAre.len_eq it
    rw [Array.length_toList] at z
    exact z
  have ty : s.TypeIs (.ref S) "set" := ⟨_, hS, rfl⟩
  have ltS := Heap.lt_size hS
  obtain ⟨ol, hol, hcl, nl, hdl⟩ := id hl
  obtain ⟨ocls, odict, odata, oslots⟩ := ol
  simp only at hcl hdl
  subst hcl hdl
  have ltl := Heap.lt_size hol
  have f1 := F.sub_list_set
  have f2 := F.sub_list_frozenset
  have f3 : (Value.type "list" == Value.type "dict") = false := by decide
  have nI : l ≠ s.heap.objs.size := Nat.ne_of_lt ltl
  have hSf : S ∉ [s.heap.objs.size, l] := by
    simp only [List.mem_cons, List.not_mem_nil, or_false, not_or]
    exact ⟨Nat.ne_of_lt ltS, ne.symm⟩
  have val : ∀ (i : Nat) (v : Value), items[i]? = some v → ∃ y t, xs[i]? = some y ∧ v = .str y t := fun i v hv => by
    obtain ⟨y, t, e1, e2⟩ := StrsAre.item it i v (by rw [Array.getElem?_toList]; exact hv)
    exact ⟨y, t, e2, e1⟩
  unfold Builtin.«set.__init__» noKeywords Builtin.Frozenset.updateFrom
  generalize hPI : pyIter = PI
  wp_walk
  subst hPI
  refine wpAny_pyIter_list hl ?_
  refine wpAny_bind (wpAny_runValue ?_)
  have h3 : A.in1.in1.handled = none := by simp [hh]
  have hS1 : (s.heap.push { cls := .type "list_iterator", data := .fields #[.ref l, .int 0 0] }).get? S = some (newSetObj w) := Heap.get?_push_of_some _ hS
  refine fill_loop ((Walks.list h3 _ l nI items).toS) hSf isz few val items.size 0 _ (Nat.zero_add _) ⟨⟨_, Heap.get?_push_size _ rfl, rfl, rfl⟩, hl.push _⟩ (fresh_box hS1) fun s' mv bx => ?_
  obtain ⟨h', g', d', tk', os'⟩ := s'
  obtain rfl : g' = s.gens := mv.gens
  obtain rfl : d' = s.drawn := mv.drawn
  obtain rfl : os' = s.os := mv.os
  refine wpAny_pure ?_
  show wpAny _ _ (ret Value.none) _ _ _
  refine wpAny_pure (k h' tk' (fun b o nb e => mv.heap b o ?_ (Heap.get?_push_of_some _ e)) bx)
  simp only [List.mem_cons, List.not_mem_nil, or_false, not_or]
  exact ⟨nb, Nat.ne_of_lt (Heap.lt_size e)⟩

/-- a type is called: its own __init__ by its code -/
theorem type_call {T newId initId : String} {vs : List Value} {Q Q1 : Value → Shared → Prop} (ft : TypeCalled T newId initId) (hc : checkTypeCall T ⟨vs, []⟩ = pure ())
    (made : codeAny (model P w) A.in1 (.call (.builtin newId) ⟨.type T :: vs, []⟩) (wants Q1 E) s)
    (next : ∀ obj s1, Q1 obj s1 → s1.TypeIs obj T ∧ codeAny (model P w) A.in1 (.call (.builtin initId) ⟨obj :: vs, []⟩) (wants (fun r s2 => r = .none ∧ Q obj s2) E) s1) :
    wpAny (model P w) A (call (.type T) vs) Q E s := by
  obtain ⟨_, _, mro⟩ := ft.mro
  have m1 := ft.made
  have m2 := ft.sub
  have m3 := ft.notType
  have m4 := ft.canCreate
  refine wpAny_call (codeAny_of_tree ?_)
  show wpAny _ _ (callAny (.type T) _) _ _ _
  refine wpAny_pure ⟨Code.quiet_builtin _ (by decide +kernel), codeAny_builtin F.entry_type_call ?_⟩
  rw [Around.under_plain (weight_type_call_type T vs []) rfl]
  repeat (any_goals (first | assumption | wp_step))
  refine codeAny_mono made fun r s1 q => ?_
  cases r with
  | error e => exact q
  | ok fl =>
    cases fl with
    | ret obj =>
      obtain ⟨ty, go⟩ := next _ _ q
      have m5 := ft.init.lookup
      have m6 := ft.init.bind obj
      repeat (any_goals (first | assumption | wp_step))
      refine codeAny_mono go fun r2 s2 q2 => ?_
      cases r2 with
      | error e => exact q2
      | ok fl2 =>
        cases fl2 with
        | ret r =>
          obtain ⟨rfl, q3⟩ := q2
          repeat (any_goals (first | assumption | wp_step))
        | _ => exact q2.elim
    | _ => exact q.elim

/-- set(xs), xs a list of texts -/
theorem set_call {l : Addr} {items : Array Value} {xs : List Str} {Q : Value → Shared → Prop} (hh : A.handled = none) (hl : s.heap.IsList l items) (it : StrsAre items.toList xs) (few : xs.length + 1 < scanBound)
    (k : ∀ (h' : Heap) (tk : Nat), (∀ b o, s.heap.get? b = some o → h'.get? b = some o) → TBox P w xs h' s.heap.objs.size → Q (.ref s.heap.objs.size) { s with heap := h', toks := tk }) :
    wpAny (model P w) A (call (.type "set") [.ref l]) Q E s := by
  refine type_call (Q1 := fun obj s1 => obj = .ref s.heap.objs.size ∧ s1 = { s with heap := s.heap.push (newSetObj w) }) F.called_set (F.typeCall_set_1 _)
    (code_set_led1 (.ref l) ⟨rfl, rfl⟩) fun obj s1 e => ?_
  obtain ⟨rfl, rfl⟩ := e
  have hS : (s.heap.push (newSetObj w)).get? s.heap.objs.size = some (newSetObj w) := Heap.get?_push_size _ rfl
  have ty : Shared.TypeIs { s with heap := s.heap.push (newSetObj w) } (.ref s.heap.objs.size) "set" := ⟨_, hS, rfl⟩
  have ltl : l < s.heap.objs.size := let ⟨_, h, _⟩ := hl; Heap.lt_size h
  refine ⟨ty, codeAny_call_builtin F.called_set.init.plain F.entry_set_init (check_set_init_1 ty (init_box (A := A.in1) hh (hl.push _) it few hS (Nat.ne_of_lt ltl) fun h' tk keep bx => ⟨rfl, ?_⟩))⟩
  exact k h' tk (fun b o e => keep b o (Nat.ne_of_lt (Heap.lt_size e)) (Heap.get?_push_of_some _ e)) bx

/-! ### sorted -/
theorem texts_of : ∀ l : List Value, (∀ v ∈ l, ∃ y t, v = Value.str y t) → StrsAre l (l.map strOf)
  | [], _ => .nil
  | v :: l, h => by
    obtain ⟨y, t, rfl⟩ := h v List.mem_cons_self
    exact .cons y t (texts_of l fun u hu => h u (List.mem_cons_of_mem _ hu))
/-- the texts xs, each once, in ascending order -/
structure Up1 (xs ys : List Str) : Prop where
  asc : ys.Pairwise (fun x y => x.cps.toList < y.cps.toList)
  mem : ∀ y, y ∈ ys ↔ y ∈ xs
theorem str_ext {x y : Str} (h : x.cps.toList = y.cps.toList) : x = y := TL.ext_tl h
theorem lt_or {a b : List Nat} (h : ¬ b < a) (ne : a ≠ b) : a < b := by
  rcases Std.le_total (a := a) (b := b) with z | z
  · exact Std.lt_of_le_of_ne z ne
  · exact absurd (Std.lt_of_le_of_ne z (Ne.symm ne)) h
theorem asc_of : ∀ (p : Str) (l : List Str), risingS p l = true → (p :: l).Nodup → (p :: l).Pairwise (fun x y => x.cps.toList < y.cps.toList)
  | p, [], _, _ => List.pairwise_singleton _ _
  | p, x :: r, h, nd => by
    obtain ⟨n1, n2⟩ := List.nodup_cons.mp nd
    have h' : (!ltCps x.cps.toList p.cps.toList && risingS x r) = true := h
    rw [Bool.and_eq_true, Bool.not_eq_true', ltCps_eq] at h'
    have ih := asc_of x r h'.2 n2
    have px : p.cps.toList < x.cps.toList := lt_or (of_decide_eq_false h'.1) fun e => n1 (by rw [str_ext e]; exact List.mem_cons_self)
    refine List.pairwise_cons.mpr ⟨fun y hy => ?_, ih⟩
    rcases List.mem_cons.mp hy with rfl | hy
    · exact px
    · exact List.lt_trans px ((List.pairwise_cons.mp ih).1 y hy)
theorem asc_sorted {l : List Str} (h : sortedS l = true) (nd : l.Nodup) : l.Pairwise (fun x y => x.cps.toList < y.cps.toList) := by
  cases l with
  | nil => exact List.Pairwise.nil
  | cons x r => exact asc_of x r h nd
theorem Up1.nd {xs ys : List Str} (u : Up1 xs ys) : ys.Nodup := u.asc.imp fun {a b} h e => by
  rw [e] at h
  exact List.lt_irrefl _ h
theorem Up1.len {xs ys : List Str} (u : Up1 xs ys) : ys.length ≤ xs.length := u.nd.length_le_of_subset fun y hy => (u.mem y).mp hy
/-- there is just one -/
theorem Up1.uniq {xs xs' ys ys' : List Str} (u : Up1 xs ys) (u' : Up1 xs' ys') (h : ∀ y, y ∈ xs ↔ y ∈ xs') : ys = ys' := by
  have p : ys.Perm ys' := (List.perm_ext_iff_of_nodup u.nd u'.nd).mpr fun y => (u.mem y).trans ((h y).trans (u'.mem y).symm)
  refine p.eq_of_pairwise (fun a b _ _ h1 h2 => ?_) u.asc u'.asc
  exact absurd (List.lt_trans h1 h2) (List.lt_irrefl _)

/-- sorted(found), found a set of texts -/
theorem sorted_box {a : Addr} {xs : List Str} {Q : Value → Shared → Prop} (b : TBox P w xs s.heap a) (hh : A.handled = none) (h64 : xs.length < 64)
    (k : ∀ s' p (out : Array Value) (c : Nat) (ys : List Str), (∀ b o, s.heap.get? b = some o → s'.heap.get? b = some o) → s'.gens = s.gens → s'.os = s.os → s.heap.objs.size ≤ p →
      s'.heap.get? p = some (seqObj "list" out c) → StrsAre out.toList ys → Up1 xs ys → Q (.ref p) s') : wpAny (model P w) A (call (.builtin "sorted") [.ref a]) Q E s := by
  obtain ⟨o, es, ep, t, at0, ex, da, g, few, fit, ri, le⟩ := b
  refine Calls.call_function_entry kind_sorted plain_sorted entry_sorted (args_sorted1 _) ?_
  unfold Builtin.«sorted»
  refine wpAny_bind (m := checkCount "sorted" 1 1 _) (wpAny_pure ?_)
  refine wpAny_bind (collect_set (A := A.in1) hh ⟨o, at0, ex.1, da⟩ fit few ri le fun s1 vs k1 sz g1 o1 pm => ?_)
  have vl : vs.length < 64 := by
    rw [pm.length_eq, List.length_map]
    exact Nat.lt_of_le_of_lt g.len h64
  have tx := texts_of vs fun v hv => by
    obtain ⟨e, he, q⟩ := List.mem_map.mp (pm.mem_iff.mp hv)
    obtain ⟨y, u, rfl⟩ := g.ok e he
    exact ⟨y, u, q.symm⟩
  have pt : (vs.map strOf).Perm (es.toList.map txt) := by
    have z := pm.map strOf
    rw [List.map_map] at z
    refine z.trans (List.Perm.of_eq (List.map_congr_left fun e he => ?_))
    obtain ⟨y, u, rfl⟩ := g.ok e he
    rfl
  refine wpAny_bind (wpAny_newList ?_ (by rw [sizeLine_eq]; omega))
  have atL : (s1.heap.push (seqObj "list" vs.toArray 0)).get? s1.heap.objs.size = some (seqObj "list" vs.toArray 0) := Heap.get?_push_size _ rfl
  refine wpAny_bind (wpAny_holding (wpAny_call_entry slot_list_sort ⟨_, atL, rfl⟩ entry_list_sort
    (list_sort_treeK strKind_oneLt atL tx.keysOf (fun v1 v2 rest e => keyKind_strs (by rw [← e]; exact tx)) vl fun st hp hs => ⟨_, rfl, ?_⟩) (args_list_sort _)))
  obtain ⟨ys, y1, y2, y3⟩ := sorted_out_str tx hp hs
  obtain ⟨c, hc⟩ := sortedHeap_at (vs := vs) (out := (arrOf st).map (·.2)) atL
  have yp : ys.Perm (es.toList.map txt) := y2.trans pt
  refine wpAny_pure ⟨_, rfl, k _ s1.heap.objs.size ((arrOf st).map (·.2)) c ys (fun b u e => ?_) g1 o1 sz hc y1 ⟨asc_sorted y3 (yp.nodup_iff.mpr g.nd), fun y => by rw [yp.mem_iff]; exact g.mem y⟩⟩
  have q := k1 b u e
  have lt := Heap.lt_size q
  show (sortedHeap (s1.heap.push (seqObj "list" vs.toArray 0)) s1.heap.objs.size vs _).get? b = some u
  rw [sortedHeap_old (Nat.ne_of_lt lt) (by rw [size_push']; exact Nat.lt_succ_of_lt lt)]
  exact Heap.get?_push_of_some _ q
end

/-! ### the layer's rules -/
section
variable {X : Cx}
/-- the set of the texts xs at a -/
def SetS (P : Program) (w : World) (xs : List Str) (a : Addr) : HO := .ext fun h => TBox P w xs h a
theorem setS_ok {w : World} {P : Program} {H : Hp} {h : Heap} {a : Addr} {xs : List Str} (b : TBox P w xs h a) : ObjOk P w H h a (SetS P w xs a) :=
  ⟨b, let ⟨o, _, _, _, e, _⟩ := b; ⟨o, e⟩, fun _ _ z k => Box.stay z k⟩
/-- set(xs) -/
def rSetS (X : Cx) : List V → Hp → VK → Prop := fun vs H Q => ∃ (l : Addr) (xs : List Str), vs = [.ref l] ∧ SqL X.K H l (xs.map V.str) ∧ xs.length < 64 ∧ ∀ p, H p = none → Q (.ref p) (upd H p (SetS X.prog X.w xs p))
theorem cr_setS (hc : X.calm = true) : CallR X (.type "set") (rSetS X) := by
  intro pins s σ H vs us Q I r h
  obtain ⟨l, xs, rfl, hq, few, q⟩ := h
  obtain ⟨its, rv, hl, _⟩ := I.list hq
  rw [Vals.ref1 r]
  refine set_call (I.ok.hd hc) hl.isList rv.strs (by unfold scanBound; omega) fun h' tk keep bx => ?_
  have fr : H s.heap.objs.size = none := I.hok.fresh (Nat.le_refl _)
  exact ⟨.ref _, upd H s.heap.objs.size (SetS X.prog X.w xs s.heap.objs.size), I.laid keep (Nat.le_refl _) (setS_ok bx), rfl, q _ fr⟩
/-- sorted(found) -/
def rSortedSS (X : Cx) : List V → Hp → VK → Prop := fun vs H Q => ∃ (a : Addr) (xs : List Str), vs = [.ref a] ∧ H a = some (SetS X.prog X.w xs a) ∧ xs.length < 64 ∧
  ∀ (ys : List Str) (p : Addr), Up1 xs ys → H p = none → Q (.ref p) (upd H p (.lst (ys.map V.str)))
theorem cr_sortedSS (hc : X.calm = true) : CallR X (.builtin "sorted") (rSortedSS X) := by
  intro pins s σ H vs us Q I r h
  obtain ⟨a, xs, rfl, ha, h64, q⟩ := h
  have bx : TBox X.prog X.w xs s.heap a := (I.hok a _ ha).1
  rw [Vals.ref1 r]
  refine sorted_box bx (I.ok.hd hc) h64 fun s' p out c ys k g o hp hg hi up => ?_
  have hlen : (ys.map V.str).length ≤ sizeLine := by
    have := up.len
    rw [List.length_map, sizeLine_eq]; omega
  have fr : H p = none := I.hok.fresh hp
  have J : Inv X pins σ (upd H p (.lst (ys.map V.str))) { s with heap := s'.heap, gens := s'.gens, drawn := s'.drawn, toks := s'.toks } :=
    I.call (ch := []) (Un.laid k hp fr) (I.hok.laid k hp ⟨hlen, out.toList, c, vals_of_strs hi, hg⟩) (by rw [g]; exact I.bare) (fun _ z => nomatch z)
  have e : s' = { s with heap := s'.heap, gens := s'.gens, drawn := s'.drawn, toks := s'.toks } := by
    cases s'; cases s; cases o; rfl
  rw [e]
  exact ⟨.ref p, _, J, rfl, q ys p up fr⟩
end
end K8S
set_option Elab.async false
set_option linter.all false
set_option maxRecDepth 100000
set_option maxHeartbeats 4000000
/-! Rules that the layer lacks: x != y over an own ==, text * int, list(text), text[::-1]. -/
namespace K8R
open PySem PySem.Spec PyProof.Rows
section
variable {prog : Program} {w : World} {A : Around} {E : Value → Shared → Prop} {s : Shared} {K : PySem.W.Frag} {x y C f L : Addr} {h0 : Heap} {m : Str → Option Value} {ox oy : Obj} {od od' : Option Obj}
open PySem.W in
/-- a special method that is a built-in one -/
theorem special_bt {M : Model} {name : Str} {id : String} {args : List Value} {Q : Option Value → Shared → Prop} (X : K.In s.heap) (I : InstAt s.heap x ox C od) (hs : findIn K (.ref C) name = some (some (.builtin id)))
    (hb : ∀ self, bindSpecial (.builtin id) self = pure (.builtin id, [self])) (h : wpAny M A (call (.builtin id) (.ref x :: args)) (fun v => Q (some v)) E s) : wpAny M A (callSpecialIfBound? (.ref x) name args) Q E s := by
  simp only [callSpecialIfBound?, bindSpecialIfBound?]
  have last : wpAny M A (call (.builtin id) ([.ref x] ++ args) >>= fun v => pure (some v)) Q E s := wpAny_bind (wpAny_mono h (fun v s' z => wpAny_pure z) fun _ _ z => z)
  refine wpAny_holding (wpAny_bind (wpAny_bind (wpAny_bind (I.type.here ((looks_findIn X hs).here (wpAny_bind (wpAny_askSetting (wpAny_ite ?_))))))))
  split
  · exact wpAny_bind ((Looks.of_pure (hb _)).here (wpAny_pure last))
  · exact wpAny_tryCatch (wpAny_bind ((Looks.of_pure (hb _)).here (wpAny_pure last)))
open PySem.W in
/-- x != y: object.__ne__ asks the own == and turns its answer round -/
theorem ne_own {Q : Value → Shared → Prop} (hu : A.units + 1 < cLine) (X : K.In s.heap) (I : InstAt s.heap x ox C od) (I' : InstAt s.heap y oy C od') (hn : findIn K (.ref C) "__ne__" = some (some (.builtin "object.__ne__")))
    (hm : mroIn K C (.type "object") = some true) (he : findIn K (.ref C) "__eq__" = some (some (.ref f))) (hf : isFn K (.ref f) = true)
    (h : wpAny (model prog w) A.in1 (call (.ref f) [.ref x, .ref y]) (fun v s' => ∃ b, v = .bool b ∧ Q (.bool (!b)) s') E s) : wpAny (model prog w) A (compareOp .NotEq (.ref x) (.ref y)) Q E s := by
  show wpAny (model prog w) A (richCompare .NotEq (.ref x) (.ref y)) Q E s
  have one : wpAny (model prog w) A (tryCompare (.ref x) "__ne__" (.ref y)) (fun r s' => ∃ v, r = some v ∧ Q v s') E s := by
    unfold tryCompare
    refine wpAny_bind (special_bt (name := "__ne__") X I hn PySem.F.slot_object_ne.bind (wpAny_call (codeAny_call_builtin PySem.F.slot_object_ne.plain PySem.F.entry_object_ne
      (check_slot (i := "object.__ne__") (owner := "object") (n := "__ne__") PySem.F.cmpKind_ne PySem.F.cmpSplit_ne (I.type.andThen (looks_mroIn X hm)) (PySem.F.args_object_ne_2 _ _) ?_))))
    unfold Builtin.«object.__ne__»
    refine wpAny_bind (m := slotArgs "__ne__" 1 _) (wpAny_pure ?_)
    refine wpAny_bind (m := cRoomFor _ _) (wpAny_cRoomFor hu ?_)
    refine wpAny_bind (m := callSpecialIfBound? (.ref x) (Str.ofString "__eq__") _) (ifBound_K X I he hf (wpAny_mono h (fun v s' z => ?_) fun _ _ z => z))
    obtain ⟨b, rfl, q⟩ := z
    refine wpAny_bind (wpAny_truthy_bool ?_)
    exact wpAny_pure (wpAny_pure ⟨_, rfl, q⟩)
  unfold richCompare
  simp only [oneThing_ref]
  refine wpAny_holding (wpAny_bind (wpAny_cRoomFor (Nat.lt_of_succ_lt hu) (wpAny_bind (I.type.here (wpAny_bind (I'.type.here ?_))))))
  have same : ¬ (Value.ref C != Value.ref C) = true := by simp
  rw [if_neg same]
  refine wpAny_bind (wpAny_pure ?_)
  simp only [Bool.false_eq_true, if_false]
  refine wpAny_bind (wpAny_mono one (fun r s' z => ?_) fun _ _ e => e)
  obtain ⟨v, rfl, q⟩ := z
  exact wpAny_pure q
end
end K8R

namespace K8R
open PySem PySem.Spec PyProof.Rows L2
section
variable {X : Cx}
/-! ### text * int -/
theorem reps_list (c : Array Nat) : ∀ (k : Nat) (acc : Array Nat), ((List.replicate k c).foldl (· ++ ·) acc).toList = acc.toList ++ (List.replicate k c.toList).flatten
  | 0, acc => by simp
  | k + 1, acc => by
    rw [List.replicate_succ, List.foldl_cons, reps_list c k, List.replicate_succ, List.flatten_cons, Array.toList_append, List.append_assoc]
theorem mul_list (z : Str) (n : Nat) : (Txt.mul z (n : Int)).cps.toList = (List.replicate n z.cps.toList).flatten := by
  unfold Txt.mul
  by_cases h1 : (n : Int) < 1
  · have : n = 0 := by omega
    subst this
    rw [if_pos h1]; rfl
  · rw [if_neg h1]
    by_cases h2 : ((n : Int) == 1 || z.length == 0) = true
    · rw [if_pos h2]
      rw [Bool.or_eq_true] at h2
      rcases h2 with h2 | h2
      · have : n = 1 := by have := eq_of_beq h2; omega
        subst this; simp
      · have e : z.cps.toList = [] := List.eq_nil_of_length_eq_zero (by have := eq_of_beq h2; rw [TL.len_tl] at this; exact this)
        rw [e]; simp
    · rw [if_neg h2, Int.toNat_natCast, reps_list]
      rfl
def rMulS : R2 := fun x y H Q => ∃ (z : Str) (n : Nat), x = .str z ∧ y = .int n ∧ z.length ≤ 1000 ∧ n ≤ 1000 ∧ ∀ r : Str, r.cps.toList = (List.replicate n z.cps.toList).flatten → Q (.str r) H
theorem op_mulS : OpR X (binaryOp .Mult) rMulS := by
  intro pins s σ H x y v u Q I rx ry h
  obtain ⟨z, n, rfl, rfl, hz, hn, q⟩ := h
  obtain ⟨t, rfl⟩ := rx
  obtain ⟨t', rfl⟩ := ry
  exact SB.mul (mulOk_of 1000 1000 hz (by omega) (by omega) (by decide) (by decide)) fun t2 k => ⟨.str _, H, I.tok _, ⟨_, rfl⟩, q _ (mul_list z n)⟩

/-! ### list(text) -/
def signV (z : Str) : List V := z.cps.toList.map fun c => V.str ⟨#[c]⟩
def rListS : List V → Hp → VK → Prop := fun vs H Q => ∃ z : Str, vs = [.str z] ∧ z.length ≤ 1000 ∧ ∀ p, H p = none → Q (.ref p) (upd H p (.lst (signV z)))
theorem signs_vals : ∀ (l : List Nat) (vs : List Value), vs.length = l.length → (∀ (j : Nat) (v : Value), vs[j]? = some v → ∃ c u, l[j]? = some c ∧ v = .str ⟨#[c]⟩ u) → Vals (l.map fun c => V.str ⟨#[c]⟩) vs
  | [], [], _, _ => .nil
  | [], _ :: _, h, _ => by simp at h
  | _ :: _, [], h, _ => by simp at h
  | c :: l, v :: vs, h, k => by
    obtain ⟨c', u, e1, e2⟩ := k 0 v rfl
    have e : c = c' := Option.some.inj e1
    subst e
    refine .cons ⟨u, e2⟩ (signs_vals l vs (by simpa using h) fun j w hw => ?_)
    obtain ⟨c2, u2, e3, e4⟩ := k (j + 1) w (by simpa using hw)
    exact ⟨c2, u2, by simpa using e3, e4⟩
theorem cr_listS (hc : X.calm = true) : CallR X (.type "list") rListS := by
  intro pins s σ H vs us Q I r h
  obtain ⟨z, rfl, hz, q⟩ := h
  obtain ⟨u, rfl, t, rfl⟩ := vals1 r
  have hz' : z.cps.size ≤ sizeLine := by rw [sizeLine_eq]; have : z.cps.size ≤ 1000 := hz; omega
  refine call_list_str (I.ok.hd hc) z t (fun h' tk acc c' keep at0 it => ?_) hz'
  have fr : H s.heap.objs.size = none := I.hok.fresh (Nat.le_refl _)
  have vv : Vals (signV z) acc.toList := signs_vals _ _ (by rw [Array.length_toList, it.1, Array.length_toList]) fun j v e => by
    obtain ⟨c, u, e1, e2⟩ := it.2 j v (by rw [← Array.getElem?_toList]; exact e)
    exact ⟨c, u, by rw [Array.getElem?_toList]; exact e1, e2⟩
  have len : (signV z).length ≤ sizeLine := by
    unfold signV
    rw [List.length_map, Array.length_toList]; exact hz'
  exact ⟨.ref _, upd H s.heap.objs.size (.lst (signV z)), I.laid keep (Nat.le_refl _) ⟨len, acc.toList, c', vv, by rw [Array.toArray_toList]; exact at0⟩, rfl, q _ fr⟩

/-! ### text[::-1] -/
theorem rev_list (z : Str) (u : Tok) : (Txt.sliceBy z none none (-1, u)).cps.toList = z.cps.toList.reverse := by
  rw [step_rev_list]
  have hl : z.length = z.cps.toList.length := by rw [Array.length_toList]; rfl
  apply List.ext_getElem?
  intro i
  rw [hl]
  by_cases h : i < z.cps.toList.length
  · rw [List.getElem?_map, List.getElem?_range h, List.getElem?_reverse h]
    have h2 : z.cps.toList.length - 1 - i < z.cps.toList.length := by omega
    rw [Option.map_some, List.getElem?_eq_getElem h2]
    congr 1
    have h3 : z.cps.toList.length - 1 - i < z.cps.size := by rw [Array.length_toList] at h2 ⊢; exact h2
    simp only [Array.getD, h3, dif_pos]
    rfl
  · rw [List.getElem?_eq_none (by simpa using h), List.getElem?_eq_none (by simpa using h)]
def tRevS (te : TE) : TE := fun σ H Q => te σ H fun x H1 => ∃ z : Str, x = .str z ∧ z.length ≤ 1000 ∧ ∀ r : Str, r.cps.toList = z.cps.toList.reverse → Q (.str r) H1
theorem pe_revS {e : Expr} {te : TE} {k : Nat} {p1 p2 p3 pos : Pos} (he : PE X e te) : PE X (.Subscript e (.Slice none none (some (.UnaryOp .USub (.Constant (.int 1) k p1) p2)) p3) pos) (tRevS te) := by
  refine ⟨fun pins s σ H Q I h => ?_⟩
  refine Subscript_ (thn (he.run pins s σ H _ I h) fun v s1 ⟨x, H1, I1, r1, z, ex, hz, q⟩ => ?_)
  subst ex
  obtain ⟨t, rfl⟩ := r1
  have hst : PO X (some (.UnaryOp .USub (.Constant (.int 1) k p1) p2)) (tPart (tUn (rU fun i => .int (-i)) (tC (.int 1)))) := po_some (pe_un un_neg pe_int)
  refine wpAny_Slice (thn (po_none.run pins s1 σ H1 (fun o H2 => o = none ∧ H2 = H1) I1 ⟨rfl, rfl⟩) fun vl s2 ⟨l, H2, I2, pl, el, e2⟩ => ?_)
  subst el e2
  refine thn (po_none.run pins s2 σ H2 (fun o H3 => o = none ∧ H3 = H2) I2 ⟨rfl, rfl⟩) fun vu s3 ⟨u, H3, I3, pu, eu, e3⟩ => ?_
  subst eu e3
  refine thn (hst.run pins s3 σ H3 (fun o H4 => o = some (-1) ∧ H4 = H3) I3 ⟨1, rfl, -1, rfl, rfl, rfl⟩) fun vs s4 ⟨o, H4, I4, ps, eo, e4⟩ => ?_
  subst eo e4
  obtain ⟨l', rfl, hl'⟩ := IsPart.raw pl
  obtain ⟨u', rfl, hu'⟩ := IsPart.raw pu
  obtain ⟨st', rfl, hst'⟩ := IsPart.raw ps
  cases l' with
  | some _ => cases hl'
  | none =>
    cases u' with
    | some _ => cases hu'
    | none =>
      cases st' with
      | none => cases hst'
      | some st1 =>
        obtain ⟨j, tj⟩ := st1
        have ej : j = -1 := Option.some.inj hst'
        subst ej
        have I5 : Inv X pins σ H4 { s4 with heap := s4.heap.push { cls := .type "slice", data := .fields #[partValue none, partValue none, partValue (some (-1, tj))] } } := I4.kept (t' := s4.toks) fun b ob q => Heap.get?_push_of_some _ q
        show wpAny (model X.prog X.w) X.A (subscriptTail e (.Slice none none (some (.UnaryOp .USub (.Constant (.int 1) k p1) p2)) p3) (.str z t) (.ref s4.heap.objs.size)) (EP X pins σ Q) X.xe { s4 with heap := s4.heap.push { cls := .type "slice", data := .fields #[partValue none, partValue none, partValue (some (-1, tj))] } }
        refine tail_any (ops := [.str z t, .ref s4.heap.objs.size]) (typeIs_str _ _ _) F.slot_str_getitem.lookup ?_ (by with_unfolding_all rfl)
        refine wpAny_getItem_str_slice (l := none) (u := none) (st := some (-1, tj)) ⟨_, Heap.get?_push_size _ rfl, rfl, rfl⟩ (by rfl) ?_
        have el := rev_list z tj
        have sz : (Txt.sliceBy z none none (-1, tj)).length ≤ sizeLine := by
          have := step_rev_len z tj
          rw [this, sizeLine_eq]; omega
        have q' := q _ el
        unfold Txt.sliceBy at q' sz
        unfold sliceMade
        have c : ¬ ((((some ((-1 : Int), tj)).map (·.1)).getD 1 == 1 && (slicePicked z none none (some (-1, tj))).length == z.length) = true) := by
          have : ((((some ((-1 : Int), tj)).map (·.1)).getD 1 == 1)) = false := rfl
          rw [this]; simp
        rw [if_neg c] at q' sz ⊢
        exact ⟨sz, .str _, H4, I5.tok _, ⟨_, rfl⟩, q'⟩
end
end K8R
set_option Elab.async false
set_option linter.all false
set_option maxRecDepth 100000
set_option maxHeartbeats 4000000
/-! What all walks share: the text by places, a def that can be called, objects with slots, comprehensions. -/
namespace K8
open PySem L2 SlX
/-! ### the text -/
def top (i : Nat) : Stmt := PySem.Challenge.pw_slantways_k08_whole_ways_among_turned_wo.main.body.getD i (.Pass ⟨0, 0, 0, 0⟩)
abbrev d_isInteger : Stmt := top 10
abbrev d_isFrom : Stmt := top 11
abbrev d_requireFrom : Stmt := top 12
abbrev d_slopeInit : Stmt := inClass (top 17) 1
abbrev d_rises : Stmt := inClass (top 17) 3
abbrev d_steps : Stmt := inClass (top 17) 4
abbrev d_slopeEq : Stmt := inClass (top 17) 9
abbrev d_levelsOf : Stmt := top 18
abbrev d_isTextOf : Stmt := top 19
abbrev d_isWayText : Stmt := top 20
abbrev d_wayInit : Stmt := inClass (top 21) 1
abbrev d_waySlope : Stmt := inClass (top 21) 2
abbrev d_wayText : Stmt := inClass (top 21) 3
abbrev d_requireSlope : Stmt := top 22
abbrev d_requireWay : Stmt := top 23
abbrev d_requireWord : Stmt := top 25
abbrev d_requireSW : Stmt := top 26
abbrev d_turnedBy : Stmt := top 27
abbrev d_lowestSpots : Stmt := top 28
abbrev d_lowestPlaces : Stmt := top 29
abbrev d_wayOf : Stmt := top 30
abbrev d_waysAmong : Stmt := top 31
abbrev d_touchCount : Stmt := top 32
abbrev d_wordsOf : Stmt := top 33
abbrev d_turnTo : Stmt := top 34
abbrev d_dice : Stmt := top 36
abbrev d_roll : Stmt := top 37
abbrev d_mixed : Stmt := top 38
abbrev d_levels : Stmt := top 39
abbrev d_sides : Stmt := top 40
abbrev d_word : Stmt := top 41
abbrev d_turn : Stmt := top 42
abbrev d_period : Stmt := top 43
abbrev d_wayTurns : Stmt := top 44
abbrev d_isWayRight : Stmt := top 45
abbrev d_wordRight : Stmt := top 46
abbrev d_law : Stmt := top 47

/-! ### a def that can be called by its name -/
def Cal (P : Program) (w : World) (K : PySem.W.Frag) (mg : Str → Option Value) (base : Heap) (x : Str) (k : Nat) (ps : List Str) (sp : Sp) : Prop :=
  ∃ (f : Addr) (fd : FuncData), FnOk P w K mg base CX0 k f fd ps sp ∧ mg x = some (.ref f) ∧ PySem.W.keepIn K (.ref f) = true ∧ Binds K fd ps []
/-- where a def of the module stands -/
structure Df (K : PySem.W.Frag) (mg : Str → Option Value) (x : Str) (st : Stmt) (f : Addr) (fd : FuncData) : Prop where
  F : Fun K x x st f fd
  g : mg x = some (.ref f)
section
variable {P : Program} {w : World} {K : PySem.W.Frag} {mg : Str → Option Value} {base : Heap} {x : Str} {k : Nat} {ps : List Str} {sp : Sp} {st : Stmt} {f : Addr} {fd : FuncData}
theorem Df.cal (D : Df K mg x st f fd) (ok : FnOk P w K mg base CX0 k f fd ps sp)
    (h : ∀ (kV doc pm : Value) (an : Option Addr) (cdv ct : Value) (us : List Value), us.length = ps.length → bindArgs (PySem.W.fnOf x x (defArgs st) (defBody st) (defScope st) .none kV doc pm an cdv ct) ⟨us, []⟩ = pure (ps.zip us)) :
    Cal P w K mg base x k ps sp := ⟨f, fd, ok, D.g, D.F.kp, D.F.binds h⟩
end
section
variable {X : Cx} {x : Str} {p pos : Pos} {e : Expr} {es : List Expr} {t : TA} {k j : Nat} {ps : List Str} {sp : Sp}
theorem pe_cal (C : Cal X.prog X.w X.K X.mg X.base x k ps sp) (hr : Room j X.A) (hg : Gl X x) (ha : PA X (e :: es) t) (hk : k ≤ j := by decide) (hdb : (x == ("__debug__" : Str)) = false := by decide)
    (he : starEach (e :: es) X.env = (false, eval e X.env) :: starEach es X.env := by rfl) (hpl : (backTo pos (starEach es X.env)).any (·.1) = false := by rfl) :
    PE X (.Call (.Name x p) (e :: es) [] pos) (tCall sp [] E0 t) := by
  obtain ⟨f, fd, F, hm, kp, b⟩ := C
  exact pe_call F (hr.mono hk) hg hm kp b .nil (fun _ _ _ _ _ _ _ z => z.elim) ha hdb he hpl
end

theorem iteD {c A B : Prop} [Decidable c] (hc : c) (h : A) : if decide c = true then A else B := by rw [decide_eq_true hc, if_pos rfl]; exact h
theorem iteND {c A B : Prop} [Decidable c] (hc : ¬ c) (h : B) : if decide c = true then A else B := by rw [decide_eq_false hc, if_neg Bool.false_ne_true]; exact h
theorem iteNT {c A B : Prop} [Decidable c] (hc : ¬ c) (h : A) : if (!decide c) = true then A else B := by rw [decide_eq_false hc]; exact h
theorem qT {Q : VK} {c : Prop} [Decidable c] {H : Hp} (hc : c) (k : Q (.bl true) H) : Q (.bl (decide c)) H := by rw [decide_eq_true hc]; exact k
theorem qF {Q : VK} {c : Prop} [Decidable c] {H : Hp} (hc : ¬ c) (k : Q (.bl false) H) : Q (.bl (decide c)) H := by rw [decide_eq_false hc]; exact k
/-! ### heaps -/
theorem Same.upd {H : Hp} {p : Addr} {o : HO} (h : H p = none) : Same H (upd H p o) := fun b u e => by
  rw [upd_ne (ne_of_none e h)]; exact e
theorem Same.upd' {H H1 : Hp} {p : Addr} {o : HO} (s : Same H H1) (h : H1 p = none) : Same H (L2.upd H1 p o) := L2.Same.trans s (Same.upd h)
theorem Same.tup {K : PySem.W.Frag} {H H' : Hp} {a : Addr} {xs : List V} (e : Same H H') (h : SqT K H a xs) : SqT K H' a xs :=
  h.elim (fun h => .inl (h.elim (fun h => .inl (e _ _ h)) fun ⟨o, h⟩ => .inr ⟨o, e _ _ h⟩)) fun h => .inr h

/-! ### a comprehension's new list -/
/-- all that stood stands, the new list holds l -/
def CI (H1 : Hp) (D : Addr) (l : List V) (H : Hp) : Prop := Same H1 H ∧ H D = some (.lst l)
theorem CI.start {H1 : Hp} {D : Addr} (h : H1 D = none) : CI H1 D [] (upd H1 D (.lst [])) := ⟨Same.upd h, upd_same⟩
theorem CI.push {H1 H H4 : Hp} {D : Addr} {l : List V} {y : V} (c : CI H1 D l H) (h : H1 D = none) (s : Same H H4) (n : l.length ≤ 10000) :
    H4 D = some (.lst l) ∧ l.length < sizeLine ∧ CI H1 D (l ++ [y]) (upd H4 D (.lst (l ++ [y]))) := by
  have e := s _ _ c.2
  refine ⟨e, by rw [sizeLine_eq]; omega, fun b o q => ?_, upd_same⟩
  rw [upd_ne (ne_of_none q h)]
  exact s _ _ (c.1 _ _ q)
theorem CI.keep {H1 H H4 : Hp} {D : Addr} {l : List V} (c : CI H1 D l H) (s : Same H H4) : CI H1 D l H4 := ⟨L2.Same.trans c.1 s, s _ _ c.2⟩

/-! ### texts -/
abbrev cod (z : Str) : List Nat := z.cps.toList
theorem cod_ext {x y : Str} (h : cod x = cod y) : x = y := TL.ext_tl h
theorem cod_len (z : Str) : z.length = (cod z).length := TL.len_tl z
theorem cod_add (x y : Str) : cod (x ++ y) = cod x ++ cod y := TL.tl_append x y
theorem cod_cut (z : Str) (k : Nat) : cod (cutS z (some (k : Int)) none) = (cod z).drop k ∧ cod (cutS z none (some (k : Int))) = (cod z).take k := by
  constructor
  · show (((cod z).drop (HT.sIx z.length 0 (some (k : Int)))).take (HT.sIx z.length z.length none - HT.sIx z.length 0 (some (k : Int)))) = _
    rw [HT.sIx_nat, HT.sIx_none, cod_len]
    by_cases h : k ≤ (cod z).length
    · rw [Nat.min_eq_left h]
      exact List.take_of_length_le (by rw [List.length_drop]; exact Nat.le_refl _)
    · rw [Nat.min_eq_right (by omega), List.drop_of_length_le (Nat.le_refl _), List.drop_of_length_le (by omega)]
      exact List.take_nil
  · show (((cod z).drop (HT.sIx z.length 0 none)).take (HT.sIx z.length z.length (some (k : Int)) - HT.sIx z.length 0 none)) = _
    rw [HT.sIx_nat, HT.sIx_none, cod_len, List.drop_zero, Nat.sub_zero]
    by_cases h : k ≤ (cod z).length
    · rw [Nat.min_eq_left h]
    · rw [Nat.min_eq_right (by omega), List.take_of_length_le (Nat.le_refl _), List.take_of_length_le (by omega)]
/-- the text that is turned by k -/
def tur (z : Str) (k : Nat) : Str := ⟨(turn (cod z) k).toArray⟩
theorem cod_tur (z : Str) (k : Nat) : cod (tur z k) = turn (cod z) k := rfl
theorem tur_eq (z : Str) (k : Nat) : cutS z (some (k : Int)) none ++ cutS z none (some (k : Int)) = tur z k := cod_ext (by
  rw [cod_add, (cod_cut z k).1, (cod_cut z k).2, cod_tur]; rfl)
theorem tur_len (z : Str) (k : Nat) : (tur z k).length = z.length := by rw [cod_len, cod_len, cod_tur, turn_len]

/-! ### objects with slots -/
/-- what the top has made of a class with slots -/
structure SlC (K : PySem.W.Frag) (C : Addr) : Prop where
  cls : SCls K C
  isi : SIsi K C
/-- a slope stands at p -/
def SlopeAt (CS : Addr) (H : Hp) (p : Addr) (a b : Nat) : Prop := ∃ (dx : Addr) (g : Int), H p = some (SlO p CS dx [some (.int g), some (.int a), some (.int b)]) ∧ H dx = some (.xd [])
theorem SlopeAt.same {CS : Addr} {H H' : Hp} {p : Addr} {a b : Nat} (h : SlopeAt CS H p a b) (s : Same H H') : SlopeAt CS H' p a b :=
  let ⟨dx, g, h1, h2⟩ := h
  ⟨dx, g, s _ _ h1, s _ _ h2⟩
theorem SlopeAt.slt {CS : Addr} {H : Hp} {p : Addr} {a b : Nat} (h : SlopeAt CS H p a b) : ∃ (dx : Addr) (g : Int), Slt H p CS dx [some (.int g), some (.int a), some (.int b)] :=
  let ⟨dx, g, h1, h2⟩ := h
  ⟨dx, g, .inr ⟨h1, h2⟩⟩
/-- a way of the slope at p stands at q -/
def WayAt (CW : Addr) (H : Hp) (q p : Addr) (z : Str) : Prop := ∃ (dx : Addr) (key : V), H q = some (SlO q CW dx [some key, some (.ref p), some (.str z)]) ∧ H dx = some (.xd [])
theorem WayAt.same {CW : Addr} {H H' : Hp} {q p : Addr} {z : Str} (h : WayAt CW H q p z) (s : Same H H') : WayAt CW H' q p z :=
  let ⟨dx, g, h1, h2⟩ := h
  ⟨dx, g, s _ _ h1, s _ _ h2⟩
theorem WayAt.slt {CW : Addr} {H : Hp} {q p : Addr} {z : Str} (h : WayAt CW H q p z) : ∃ (dx : Addr) (key : V), Slt H q CW dx [some key, some (.ref p), some (.str z)] :=
  let ⟨dx, g, h1, h2⟩ := h
  ⟨dx, g, .inr ⟨h1, h2⟩⟩
end K8

namespace K8
open PySem L2 SlX
/-- a name of the module that holds a plain value -/
def Gv (mg : Str → Option Value) (x : Str) (v : V) : Prop := ∃ u, mg x = some u ∧ RelV v u
theorem pe_gv {X : Cx} {x : Str} {v : V} {pos : Pos} (h : Gv X.mg x v) (hg : Gl X x) (hd : (x == ("__debug__" : Str)) = false := by decide) : PE X (.Name x pos) (tC v) := by
  obtain ⟨u, e, r⟩ := h
  exact pe_glob hg e r hd
/-- the built-in names that no one has taken, and the module's constants -/
structure Nm (mg : Str → Option Value) : Prop where
  isinstance : mg "isinstance" = none
  int : mg "int" = none
  bool : mg "bool" = none
  str : mg "str" = none
  len : mg "len" = none
  min : mg "min" = none
  max : mg "max" = none
  abs : mg "abs" = none
  tuple : mg "tuple" = none
  list : mg "list" = none
  set : mg "set" = none
  sorted : mg "sorted" = none
  range : mg "range" = none
  enumerate : mg "enumerate" = none
  gcd : mg "gcd" = some (.builtin "math.gcd")
  greatest : Gv mg "GREATEST" (.int (10 ^ 60))
  side : Gv mg "MAX_SIDE" (.int 60)
  rise : Gv mg "RISE" (.str "r")
  step : Gv mg "STEP" (.str "s")
end K8

namespace K8
open PySem L2 SlX
/-! ### classes with slots: made, asked -/
/-- C(..), by the promise of its __init__ -/
def Mkr (P : Program) (w : World) (K : PySem.W.Frag) (mg : Str → Option Value) (base : Heap) (x : Str) (C : Addr) (k : Nat) (ps : List Str) (sp : Sp) : Prop :=
  ∃ (f : Addr) (fd : FuncData), Mk K C f ∧ FnOk P w K mg base CX0 k f fd ps sp ∧ mg x = some (.ref C) ∧ Binds K fd ps []
/-- e.f, a property -/
def Prp (P : Program) (w : World) (K : PySem.W.Frag) (mg : Str → Option Value) (base : Heap) (C : Addr) (f : Str) (sp : Sp) : Prop :=
  ∃ (p g : Addr), PySem.W.findIn K (.ref C) f = some (some (.ref p)) ∧ PySem.W.specialIn K (.ref p) "__get__" = some (some (.builtin "property.__get__")) ∧ PySem.W.takesIn K (.ref p) = some true ∧
    (∃ rest, PySem.W.recIn K p "property" = some (.ref g :: rest)) ∧ FnR P w K mg base CX0 1 g sp
section
variable {X : Cx} {x f : Str} {p pos : Pos} {e : Expr} {es : List Expr} {t : TA} {ta : TE} {k j : Nat} {ps : List Str} {sp : Sp} {C : Addr}
theorem pe_mkr (M : Mkr X.prog X.w X.K X.mg X.base x C k ps sp) (hr : Room j X.A) (hg : Gl X x) (ha : PA X (e :: es) t) (hk : k + 1 ≤ j := by decide) (hdb : (x == ("__debug__" : Str)) = false := by decide)
    (he : starEach (e :: es) X.env = (false, eval e X.env) :: starEach es X.env := by rfl) (hpl : (backTo pos (starEach es X.env)).any (·.1) = false := by rfl) :
    PE X (.Call (.Name x p) (e :: es) [] pos) (tMake C sp [] E0 t) := by
  obtain ⟨f, fd, m, F, hm, b⟩ := M
  exact pe_make m F (hr.mono hk) hg hm b .nil (fun _ _ _ _ _ _ _ z => z.elim) ha hdb he hpl
theorem pe_prp (he : PE X e ta) (c : SCls X.K C) (R : Prp X.prog X.w X.K X.mg X.base C f sp) (hr : Room j X.A) (hk : 2 ≤ j := by decide) (hb : attributeBase e f X.env (eval e X.env) = eval e X.env := by rfl) :
    PE X (.Attribute e f pos) (tPropSl C sp E0 ta) := by
  obtain ⟨p, g, h1, h2, h3, h4, F⟩ := R
  exact pe_propSl he c h1 h2 h3 h4 F (hr.mono hk) (fun _ _ _ _ z => z.elim) hb
end
/-- a new instance whose slots have been stored -/
theorem made_new {H1 : Hp} {x dx C : Addr} {vs : List (Option V)} (nx : H1 x = none) (nd : H1 dx = none) (ne : dx ≠ x) :
    Same H1 (slH (upd (upd H1 dx (.own x)) x (.ins C dx [])) x C dx vs) ∧ slH (upd (upd H1 dx (.own x)) x (.ins C dx [])) x C dx vs x = some (SlO x C dx vs) ∧
    slH (upd (upd H1 dx (.own x)) x (.ins C dx [])) x C dx vs dx = some (.xd []) := by
  refine ⟨fun b o e => ?_, ?_, ?_⟩
  · rw [slH_ne (ne_of_none e nx) (ne_of_none e nd), upd_ne (ne_of_none e nx), upd_ne (ne_of_none e nd)]; exact e
  · unfold slH; rw [upd_same]
  · unfold slH; rw [upd_ne ne, upd_same]
/-- what the top has made of Slope -/
structure SlopeK (K : PySem.W.Frag) (mg : Str → Option Value) (C : Addr) : Prop where
  cls : SCls K C
  isi : SIsi K C
  s0 : ∃ p, Slot1 K C "own_common" p 0
  s1 : ∃ p, Slot1 K C "own_rises" p 1
  s2 : ∃ p, Slot1 K C "own_steps" p 2
  g : mg "Slope" = some (.ref C)
/-- what the top has made of Way -/
structure WayK (K : PySem.W.Frag) (mg : Str → Option Value) (C : Addr) : Prop where
  cls : SCls K C
  isi : SIsi K C
  s0 : ∃ p, Slot1 K C "own_key" p 0
  s1 : ∃ p, Slot1 K C "own_slope" p 1
  s2 : ∃ p, Slot1 K C "own_text" p 2
  g : mg "Way" = some (.ref C)
theorem kit_self {K : PySem.W.Frag} {C : Addr} : PySem.W.kitOne K (.ref C) (.ref C) = some true := by
  unfold PySem.W.kitOne
  rw [if_pos (by simp)]
theorem rel_ref {C : Addr} : ∀ w, RelV (.ref C) w → w = .ref C := fun _ h => h
end K8

namespace K8
open PySem L2 SlX
theorem str_r : ("r" : Str) = ⟨#[114]⟩ := by decide +kernel
theorem str_s : ("s" : Str) = ⟨#[115]⟩ := by decide +kernel
theorem sign_r {c : Nat} : V.str ⟨#[c]⟩ = V.str "r" ↔ c = 114 := by
  rw [str_r]
  constructor
  · intro h
    injection h with h
    injection h with h
    simpa using h
  · rintro rfl; rfl
theorem iteB {c A B : Prop} [Decidable c] (h1 : c → A) (h2 : ¬ c → B) : if decide c = true then A else B := by
  by_cases h : c
  · exact iteD h (h1 h)
  · exact iteND h (h2 h)
end K8
set_option Elab.async false
set_option linter.all false
set_option maxRecDepth 100000
set_option maxHeartbeats 4000000
/-! Counting and finding in texts, by lists of codes. -/
namespace K8
open PySem L2 SlX
theorem cnt_list (c : Nat) : ∀ l : List Nat, PyProof.Rows.cnt c l = (l.count c : Nat)
  | [] => rfl
  | n :: r => by
    rw [PyProof.Rows.cnt_cons, cnt_list c r, List.count_cons]
    by_cases h : n = c
    · subst h; simp; omega
    · simp [h]
theorem count_r (z : Str) : Txt.count z "r" = ((cod z).count 114 : Nat) := by rw [str_r, PyProof.Rows.count_is]; exact cnt_list 114 _
theorem count_s (z : Str) : Txt.count z "s" = ((cod z).count 115 : Nat) := by rw [str_s, PyProof.Rows.count_is]; exact cnt_list 115 _
theorem find_is {t v : Str} (hv : cod v ≠ []) : IsFind (cod t) (cod v) (Txt.find t v) := by
  have lt := cod_len t
  have lv := cod_len v
  have at' : ∀ i, PySem.StrLaws.At t v t.length i ↔ ((cod t).drop i).take (cod v).length = cod v := fun i => by
    rw [TL.at_iff hv i]
    show ((((cod t).drop i).take (cod v).length == cod v) = true) ↔ _
    exact beq_iff_eq
  rcases PyProof.Rows.find_whole t v with ⟨e, h⟩ | ⟨i, e, h1, h2⟩
  · exact .inl ⟨e, fun i _ q => h i ((at' i).mpr q)⟩
  · refine .inr ⟨i, e, ?_, (at' i).mp h1, fun j hj q => h2 j hj ((at' j).mpr q)⟩
    have := h1.1
    omega
end K8
set_option Elab.async false
set_option linter.all false
set_option maxRecDepth 100000
set_option maxHeartbeats 4000000
namespace K8
open PySem L2 SlX
open PyProof.Rows (boot_int boot_bool boot_str boot_isinstance)
section
variable {P : Program} {w : World} {K : PySem.W.Frag} {mg : Str → Option Value} {base : Heap}
/-! ### is_integer -/
def spIsInt : Sp := fun vs H Q _ => ∃ n : Int, vs = [.int n] ∧ -(10 ^ 60) < n ∧ n < 10 ^ 60 ∧ Q (.bl true) H
theorem sc_isInteger : FnScope ["value"] ["value"] (defScope d_isInteger) := ⟨rfl, rfl, rfl, by decide +kernel, rfl, by decide +kernel, by decide +kernel⟩
theorem ok_isInteger {f : Addr} {fd : FuncData} (D : Df K mg "is_integer" d_isInteger f fd) (T : Nm mg) : Cal P w K mg base "is_integer" 1 ["value"] spIsInt := by
  refine D.cal (D.F.ok sc_isInteger (fun vs H Q E h => ?_) (fun cdv A outer s H vs Q E hr h => ?_)) fun _ _ _ _ _ _ us hl => match us, hl with | [_], _ => rfl
  · obtain ⟨n, rfl, _⟩ := h
    rfl
  · obtain ⟨n, rfl, h1, h2, k⟩ := h
    refine ⟨_, pss_one (ps_ret (pe_and (pe_callB call_isi (by rfl) T.isinstance boot_isinstance (pa_cons (pv 0) (pa_cons (pe_bltn (v := .ty "int") (by rfl) T.int boot_int rfl) pa_nil)))
      (pe_and (pe_not (pe_callB call_isi (by rfl) T.isinstance boot_isinstance (pa_cons (pv 0) (pa_cons (pe_bltn (v := .ty "bool") (by rfl) T.bool boot_bool rfl) pa_nil))))
      (pe_one (pe_chain op_lt op_lt (pe_un un_neg (pe_gv T.greatest (by rfl))) (pv 0) (pe_gv T.greatest (by rfl))))))), ?_⟩
    refine ⟨_, rfl, _, _, _, _, true, rfl, .ty "int", .base (.int n), kit_ty (by decide +kernel), _, rfl, iteT ?_⟩
    refine ⟨_, rfl, _, _, _, _, false, rfl, .ty "bool", .base (.int n), kit_ty (by decide +kernel), _, rfl, _, rfl, iteT ?_⟩
    refine ⟨_, rfl, _, rfl, _, _, rfl, rfl, _, rfl, iteD h1 ⟨_, _, rfl, rfl, ?_⟩⟩
    exact qT h2 k
/-! ### is_from -/
def spIsFrom : Sp := fun vs H Q _ => ∃ n l m : Int, vs = [.int n, .int l, .int m] ∧ -(10 ^ 60) < n ∧ n < 10 ^ 60 ∧ l ≤ n ∧ n ≤ m ∧ Q (.bl true) H
theorem sc_isFrom : FnScope ["value", "least", "most"] ["value", "least", "most"] (defScope d_isFrom) := ⟨rfl, rfl, rfl, by decide +kernel, rfl, by decide +kernel, by decide +kernel⟩
theorem ok_isFrom {f : Addr} {fd : FuncData} (D : Df K mg "is_from" d_isFrom f fd) (C : Cal P w K mg base "is_integer" 1 ["value"] spIsInt) : Cal P w K mg base "is_from" 2 ["value", "least", "most"] spIsFrom := by
  refine D.cal (D.F.ok sc_isFrom (fun vs H Q E h => ?_) (fun cdv A outer s H vs Q E hr h => ?_)) fun _ _ _ _ _ _ us hl => match us, hl with | [_, _, _], _ => rfl
  · obtain ⟨n, l, m, rfl, _⟩ := h
    rfl
  · obtain ⟨n, l, m, rfl, h1, h2, h3, h4, k⟩ := h
    refine ⟨_, pss_one (ps_ret (pe_and (pe_cal C hr (by rfl) (pa_cons (pv 0) pa_nil)) (pe_one (pe_chain op_le op_le (pv 1) (pv 0) (pv 2))))), ?_⟩
    refine ⟨_, rfl, n, rfl, h1, h2, _, rfl, iteT ⟨_, rfl, _, rfl, _, _, rfl, rfl, _, rfl, iteD h3 ⟨_, rfl, _, _, rfl, rfl, ?_⟩⟩⟩
    exact qT h4 k
/-! ### require_from -/
def spReqFrom : Sp := fun vs H Q _ => ∃ n l m : Int, vs = [.int n, .int l, .int m] ∧ -(10 ^ 60) < n ∧ n < 10 ^ 60 ∧ l ≤ n ∧ n ≤ m ∧ Q .non H
theorem sc_requireFrom : FnScope ["value", "least", "most"] ["value", "least", "most"] (defScope d_requireFrom) := ⟨rfl, rfl, rfl, by decide +kernel, rfl, by decide +kernel, by decide +kernel⟩
theorem ok_requireFrom {f : Addr} {fd : FuncData} (D : Df K mg "require_from" d_requireFrom f fd) (C : Cal P w K mg base "is_from" 2 ["value", "least", "most"] spIsFrom) : Cal P w K mg base "require_from" 3 ["value", "least", "most"] spReqFrom := by
  refine D.cal (D.F.ok sc_requireFrom (fun vs H Q E h => ?_) (fun cdv A outer s H vs Q E hr h => ?_)) fun _ _ _ _ _ _ us hl => match us, hl with | [_, _, _], _ => rfl
  · obtain ⟨n, l, m, rfl, _⟩ := h
    rfl
  · obtain ⟨n, l, m, rfl, h1, h2, h3, h4, k⟩ := h
    refine ⟨_, pss_one (ps_if (pt_not (pt_val (pe_cal C hr (by rfl) (pa_cons (pv 0) (pa_cons (pv 1) (pa_cons (pv 2) pa_nil)))))) (pss_one ps_never) pss_nil), ?_⟩
    exact ⟨_, rfl, _, rfl, _, rfl, n, l, m, rfl, h1, h2, h3, h4, true, rfl, iteF k⟩
end
end K8
set_option Elab.async false
set_option linter.all false
set_option maxRecDepth 100000
set_option maxHeartbeats 4000000
namespace K8
open PySem L2 SlX
open PyProof.Rows (boot_int boot_bool boot_str boot_isinstance boot_min)
section
variable {P : Program} {w : World} {K : PySem.W.Frag} {mg : Str → Option Value} {base : Heap} {CS CW : Addr}
/-! ### Slope.__init__ -/
def spSlopeInit (CS : Addr) : Sp := fun vs H Q _ => ∃ (x dx : Addr) (a b : Nat), vs = [.ref x, .int a, .int b] ∧ H x = some (.ins CS dx []) ∧ dx ≠ x ∧ 1 ≤ a ∧ a ≤ 60 ∧ 1 ≤ b ∧ b ≤ 60 ∧
  ∀ g : Int, Q .non (slH H x CS dx [some (.int g), some (.int a), some (.int b)])
theorem sc_slopeInit : FnScope ["self", "rises", "steps"] ["self", "rises", "steps"] (defScope d_slopeInit) := ⟨rfl, rfl, rfl, by decide +kernel, rfl, by decide +kernel, by decide +kernel⟩
theorem ok_slopeInit {f : Addr} {fd : FuncData} (F : Fun K "__init__" "Slope.__init__" d_slopeInit f fd) (T : Nm mg) (S : SlopeK K mg CS) (M : Mk K CS f) (C : Cal P w K mg base "require_from" 3 ["value", "least", "most"] spReqFrom) :
    Mkr P w K mg base "Slope" CS 4 ["self", "rises", "steps"] (spSlopeInit CS) := by
  refine ⟨f, fd, M, F.ok sc_slopeInit (fun vs H Q E h => ?_) (fun cdv A outer s H vs Q E hr h => ?_), S.g, F.binds fun _ _ _ _ _ _ us hl => match us, hl with | [_, _, _], _ => rfl⟩
  · obtain ⟨x, dx, a, b, rfl, _⟩ := h
    rfl
  · obtain ⟨x, dx, a, b, rfl, hx, ne, h1, h2, h3, h4, k⟩ := h
    obtain ⟨p0, s0⟩ := S.s0
    obtain ⟨p1, s1⟩ := S.s1
    obtain ⟨p2, s2⟩ := S.s2
    refine ⟨_, pss_cons (ps_expr (pe_cal C hr (by rfl) (pa_cons (pv 1) (pa_cons pe_int (pa_cons (pe_gv T.side (by rfl)) pa_nil)))))
      (pss_cons (ps_expr (pe_cal C hr (by rfl) (pa_cons (pv 2) (pa_cons pe_int (pa_cons (pe_gv T.side (by rfl)) pa_nil)))))
      (pss_cons (ps_sl (pv 0) (pv 1)) (pss_cons (ps_sl (pv 0) (pv 2)) (pss_one (ps_sl (pv 0) (pe_callBfun cr_gcd (by rfl) T.gcd (pa_cons (pv 1) (pa_cons (pv 2) pa_nil)))))))), ?_⟩
    refine ⟨_, rfl, _, _, _, rfl, by omega, by omega, by omega, by omega, _, rfl, _, _, _, rfl, by omega, by omega, by omega, by omega, ?_⟩
    refine ⟨_, rfl, _, rfl, x, CS, dx, p1, [], 1, rfl, .inl ⟨hx, rfl⟩, S.cls, s1, ?_⟩
    refine ⟨_, rfl, _, rfl, x, CS, dx, p2, _, 2, rfl, slH_slt ne, S.cls, s2, ?_⟩
    refine ⟨_, rfl, _, rfl, _, _, rfl, _, rfl, x, CS, dx, p0, _, 0, rfl, slH_slt ne, S.cls, s0, ?_⟩
    rw [slH_twice ne, slH_twice ne]
    exact k _
/-! ### the properties of a slope -/
def spRises (CS : Addr) : Sp := fun vs H Q _ => ∃ (p : Addr) (a b : Nat), vs = [.ref p] ∧ SlopeAt CS H p a b ∧ Q (.int a) H
def spSteps (CS : Addr) : Sp := fun vs H Q _ => ∃ (p : Addr) (a b : Nat), vs = [.ref p] ∧ SlopeAt CS H p a b ∧ Q (.int b) H
theorem sc_rises : FnScope ["self"] ["self"] (defScope d_rises) := ⟨rfl, rfl, rfl, by decide +kernel, rfl, by decide +kernel, by decide +kernel⟩
theorem ok_rises {f : Addr} {fd : FuncData} (F : Fun K "rises" "Slope.rises" d_rises f fd) (S : SlopeK K mg CS) : FnOk P w K mg base CX0 1 f fd ["self"] (spRises CS) := by
  refine F.ok sc_rises (fun vs H Q E h => ?_) (fun cdv A outer s H vs Q E hr h => ?_)
  · obtain ⟨p, a, b, rfl, _⟩ := h
    rfl
  · obtain ⟨p, a, b, rfl, hs, k⟩ := h
    obtain ⟨dx, g, hl⟩ := hs.slt
    obtain ⟨p1, s1⟩ := S.s1
    refine ⟨_, pss_one (ps_ret (pe_sl (pv 0))), ?_⟩
    exact ⟨_, rfl, p, CS, dx, p1, _, 1, _, rfl, hl, S.cls, s1, rfl, k⟩
theorem sc_steps : FnScope ["self"] ["self"] (defScope d_steps) := ⟨rfl, rfl, rfl, by decide +kernel, rfl, by decide +kernel, by decide +kernel⟩
theorem ok_steps {f : Addr} {fd : FuncData} (F : Fun K "steps" "Slope.steps" d_steps f fd) (S : SlopeK K mg CS) : FnOk P w K mg base CX0 1 f fd ["self"] (spSteps CS) := by
  refine F.ok sc_steps (fun vs H Q E h => ?_) (fun cdv A outer s H vs Q E hr h => ?_)
  · obtain ⟨p, a, b, rfl, _⟩ := h
    rfl
  · obtain ⟨p, a, b, rfl, hs, k⟩ := h
    obtain ⟨dx, g, hl⟩ := hs.slt
    obtain ⟨p2, s2⟩ := S.s2
    refine ⟨_, pss_one (ps_ret (pe_sl (pv 0))), ?_⟩
    exact ⟨_, rfl, p, CS, dx, p2, _, 2, _, rfl, hl, S.cls, s2, rfl, k⟩
/-! ### Slope.__eq__, of two that are equal -/
def spSlopeEq (CS : Addr) : Sp := fun vs H Q _ => ∃ (p q : Addr) (a b : Nat), vs = [.ref p, .ref q] ∧ SlopeAt CS H p a b ∧ SlopeAt CS H q a b ∧ Q (.bl true) H
theorem sc_slopeEq : FnScope ["self", "other"] ["self", "other"] (defScope d_slopeEq) := ⟨rfl, rfl, rfl, by decide +kernel, rfl, by decide +kernel, by decide +kernel⟩
theorem ok_slopeEq {f : Addr} {fd : FuncData} (F : Fun K "__eq__" "Slope.__eq__" d_slopeEq f fd) (T : Nm mg) (S : SlopeK K mg CS) : FnOk P w K mg base CX0 1 f fd ["self", "other"] (spSlopeEq CS) := by
  refine F.ok sc_slopeEq (fun vs H Q E h => ?_) (fun cdv A outer s H vs Q E hr h => ?_)
  · obtain ⟨p, q, a, b, rfl, _⟩ := h
    rfl
  · obtain ⟨p, q, a, b, rfl, hs, hs', k⟩ := h
    obtain ⟨dx, g, hl⟩ := hs.slt
    obtain ⟨dy, g', hl'⟩ := hs'.slt
    obtain ⟨p1, s1⟩ := S.s1
    obtain ⟨p2, s2⟩ := S.s2
    refine ⟨_, pss_one (ps_ret (pe_and (pe_callB (call_isiSl (.ref CS)) (by rfl) T.isinstance boot_isinstance (pa_cons (pv 1) (pa_cons (pe_glob (v := .ref CS) (by rfl) S.g rfl) pa_nil)))
      (pe_and (pe_cmpR op_eq (pe_sl (pv 0)) (pe_sl (pv 1)) (nomark _)) (pe_one (pe_cmpR op_eq (pe_sl (pv 0)) (pe_sl (pv 1)) (nomark _)))))), ?_⟩
    refine ⟨_, rfl, q, CS, dy, _, .ref CS, true, rfl, rfl, rel_ref, hl', S.cls, S.isi, kit_self, _, rfl, iteT ?_⟩
    refine ⟨_, rfl, p, CS, dx, p1, _, 1, _, rfl, hl, S.cls, s1, rfl, _, rfl, q, CS, dy, p1, _, 1, _, rfl, hl', S.cls, s1, rfl, rfl, _, rfl, iteD rfl ?_⟩
    refine ⟨_, rfl, p, CS, dx, p2, _, 2, _, rfl, hl, S.cls, s2, rfl, _, rfl, q, CS, dy, p2, _, 2, _, rfl, hl', S.cls, s2, rfl, rfl, qT rfl k⟩
end
end K8
set_option Elab.async false
set_option linter.all false
set_option maxRecDepth 100000
set_option maxHeartbeats 4000000
namespace K8
open PySem L2 SlX
open PyProof.Rows (boot_int boot_bool boot_str boot_isinstance boot_min)
section
variable {P : Program} {w : World} {K : PySem.W.Frag} {mg : Str → Option Value} {base : Heap} {CS CW : Addr}
/-! ### levels_of -/
def spLevelsOf (CS : Addr) : Sp := fun vs H Q _ => ∃ (p : Addr) (a b : Nat) (z : Str), vs = [.ref p, .str z] ∧ SlopeAt CS H p a b ∧ z.length ≤ 1000 ∧
  ∀ (H' : Hp) (l : Addr), Same H H' → H l = none → H' l = some (.lst ((levels a b (cod z)).map V.int)) → Q (.ref l) H'
theorem sc_levelsOf : FnScope ["slope", "text", "found", "level", "letter"] ["slope", "text"] (defScope d_levelsOf) := ⟨rfl, rfl, rfl, by decide +kernel, rfl, by decide +kernel, by decide +kernel⟩
theorem ok_levelsOf {f : Addr} {fd : FuncData} (D : Df K mg "levels_of" d_levelsOf f fd) (T : Nm mg) (S : SlopeK K mg CS) : Cal P w K mg base "levels_of" 1 ["slope", "text"] (spLevelsOf CS) := by
  refine D.cal (D.F.ok sc_levelsOf (fun vs H Q E h => ?_) (fun cdv A outer s H vs Q E hr h => ?_)) fun _ _ _ _ _ _ us hl => match us, hl with | [_, _], _ => rfl
  · obtain ⟨p, a, b, z, rfl, _⟩ := h
    rfl
  · obtain ⟨p, a, b, z, rfl, hs, hz, k⟩ := h
    obtain ⟨p1, s1⟩ := S.s1
    obtain ⟨p2, s2⟩ := S.s2
    have nd := sc_levelsOf.nd
    refine ⟨_, pss_cons (ps_set (i := 2) nd rfl (.inl rfl) (pe_lst pa_nil)) (pss_cons (ps_set (i := 3) nd rfl (.inl rfl) pe_int)
      (pss_cons (ps_for PassesOwn.never rfl (pi_str (pv 1)) (pg_name (i := 4) nd rfl (.inl rfl))
        (pss_cons (ps_expr (pe_bm PySem.F.plainAttrs_list PySem.F.slot_list_append PySem.F.type_list_append mt_append (pv 2) (pa_cons (pv 3) pa_nil)))
          (pss_one (ps_aug (i := 3) nd rfl (.inl rfl) (pe_ifExp (pt_cmpR op_eq (pv 4) (pe_gv T.rise (by rfl)) (nomark _)) (pe_sl (pv 0)) (pe_un un_neg (pe_sl (pv 0)))) ip_add))))
      (pss_one (ps_ret (pv 2))))), ?_⟩
    refine ⟨Nat.zero_le _, fun l hl => ?_⟩
    refine ⟨_, rfl, z, rfl, for_it walk_str (fun i σ H' => ∃ v : Option V, σ = [some (.ref p), some (.str z), some (.ref l), some (.int (ht a b ((cod z).take i))), v] ∧ CI H l (((levels a b (cod z)).take i).map V.int) H')
      ⟨none, rfl, CI.start hl⟩ (fun _ _ _ _ _ => trivial) ?_ ?_⟩
    · rintro i x σ H1 H2 hi ⟨v, rfl, ci⟩ ⟨rfl, c, hc, rfl⟩
      have hi' : i < (cod z).length := by rw [Array.length_toList]; exact hi
      have hc' : (cod z)[i]? = some c := by rw [Array.getElem?_toList]; exact hc
      obtain ⟨dx, g, sl⟩ := (hs.same ci.1).slt
      obtain ⟨e1, e2, c2⟩ := ci.push (y := .int (ht a b ((cod z).take i))) hl (Same.refl _) (by rw [List.length_map, List.length_take]; rw [cod_len] at hz; omega)
      refine ⟨_, rfl, .inl ⟨rfl, _, SqL.of e1⟩, _, rfl, l, _, _, rfl, rfl, e1, e2, ?_⟩
      obtain ⟨dx', g', sl'⟩ := (hs.same c2.1).slt
      have nx := ht_next (a := (a : Int)) (b := (b : Int)) hc'
      have lx := levels_next (a := (a : Int)) (b := (b : Int)) hi'
      have ci' : CI H l (((levels a b (cod z)).take (i + 1)).map V.int) (upd H2 l (.lst (((levels a b (cod z)).take i).map V.int ++ [V.int (ht a b ((cod z).take i))]))) := by
        rw [lx, List.map_append]; exact c2
      refine ⟨_, rfl, _, rfl, rfl, _, rfl, iteB (fun e => ?_) (fun e => ?_)⟩
      · have ec : c = 114 := sign_r.mp e
        have es : stp (a : Int) (b : Int) c = b := by rw [ec]; rfl
        rw [es] at nx
        refine ⟨_, rfl, p, CS, dx', p2, _, 2, _, rfl, sl', S.cls, s2, rfl, _, _, rfl, rfl, ?_⟩
        exact ⟨some (.str ⟨#[c]⟩), by rw [nx]; rfl, ci'⟩
      · have ec : ¬ c = 114 := fun q => e (sign_r.mpr q)
        have es : stp (a : Int) (b : Int) c = -(a : Int) := if_neg ec
        rw [es] at nx
        refine ⟨_, rfl, p, CS, dx', p1, _, 1, _, rfl, sl', S.cls, s1, rfl, _, rfl, _, _, rfl, rfl, ?_⟩
        exact ⟨some (.str ⟨#[c]⟩), by rw [nx]; rfl, ci'⟩
    · rintro σ H1 ⟨v, rfl, ci⟩
      have el : (levels a b (cod z)).take z.cps.size = levels a b (cod z) := by
        have := levels_all a b (cod z)
        rw [Array.length_toList] at this; exact this
      rw [el] at ci
      exact ⟨_, rfl, k _ l ci.1 hl ci.2⟩
/-! ### is_text_of, of a word -/
def spIsTextOf (CS : Addr) : Sp := fun vs H Q _ => ∃ (p : Addr) (a b : Nat) (z : Str), vs = [.ref p, .str z] ∧ SlopeAt CS H p a b ∧ Wd a b (cod z) ∧ z.length ≤ 1000 ∧ Q (.bl true) H
theorem sc_isTextOf : FnScope ["slope", "value"] ["slope", "value"] (defScope d_isTextOf) := ⟨rfl, rfl, rfl, by decide +kernel, rfl, by decide +kernel, by decide +kernel⟩
theorem ok_isTextOf {f : Addr} {fd : FuncData} (D : Df K mg "is_text_of" d_isTextOf f fd) (T : Nm mg) (S : SlopeK K mg CS) : Cal P w K mg base "is_text_of" 1 ["slope", "value"] (spIsTextOf CS) := by
  refine D.cal (D.F.ok sc_isTextOf (fun vs H Q E h => ?_) (fun cdv A outer s H vs Q E hr h => ?_)) fun _ _ _ _ _ _ us hl => match us, hl with | [_, _], _ => rfl
  · obtain ⟨p, a, b, z, rfl, _⟩ := h
    rfl
  · obtain ⟨p, a, b, z, rfl, hs, wd, hz, k⟩ := h
    obtain ⟨p1, s1⟩ := S.s1
    obtain ⟨p2, s2⟩ := S.s2
    obtain ⟨dx, g, sl⟩ := hs.slt
    refine ⟨_, pss_cons (ps_if (PW.pt (pw_or (pt_not (pt_val (pe_callB call_isi (by rfl) T.isinstance boot_isinstance (pa_cons (pv 1) (pa_cons (pe_bltn (v := .ty "str") (by rfl) T.str boot_str rfl) pa_nil)))))
        (pw_or1 (pt_cmpR op_ne (pe_callB call_len_str (by rfl) T.len PySem.boot_len (pa_cons (pv 1) pa_nil)) (pe_op op_add (pe_sl (pv 0)) (pe_sl (pv 0))) (nomark _))))) (pss_one (ps_ret pe_bl)) pss_nil)
      (pss_one (ps_ret (pe_and (pe_cmpR op_eq (pe_m1 PySem.F.slot_str_count PySem.F.type_str_count mt_count (pv 1) (pe_gv T.rise (by rfl))) (pe_sl (pv 0)) (nomark _))
        (pe_one (pe_cmpR op_eq (pe_m1 PySem.F.slot_str_count PySem.F.type_str_count mt_count (pv 1) (pe_gv T.step (by rfl))) (pe_sl (pv 0)) (nomark _)))))), ?_⟩
    have e1 : (z.length : Int) = (a : Int) + (b : Int) := by have := wd.n; rw [cod_len]; omega
    refine ⟨_, rfl, _, _, _, _, true, rfl, .ty "str", .base (.str z), kit_ty (by decide +kernel), _, rfl, iteF ?_⟩
    refine ⟨_, rfl, z, rfl, by rw [sizeLine_eq]; omega, _, rfl, p, CS, dx, p1, _, 1, _, rfl, sl, S.cls, s1, rfl, _, rfl, p, CS, dx, p2, _, 2, _, rfl, sl, S.cls, s2, rfl, _, _, rfl, rfl, rfl, _, rfl, iteNS (by rw [e1]) ?_⟩
    refine ⟨_, rfl, ⟨z, rfl⟩, z, _, rfl, rfl, _, rfl, p, CS, dx, p1, _, 1, _, rfl, sl, S.cls, s1, rfl, rfl, _, rfl, iteD (by rw [count_r, wd.r]) ?_⟩
    refine ⟨_, rfl, ⟨z, rfl⟩, z, _, rfl, rfl, _, rfl, p, CS, dx, p2, _, 2, _, rfl, sl, S.cls, s2, rfl, rfl, qT (by rw [count_s, wd.s]) k⟩
/-! ### is_way_text, of a way's text -/
def spIsWayText (CS : Addr) : Sp := fun vs H Q _ => ∃ (p : Addr) (a b : Nat) (z : Str), vs = [.ref p, .str z] ∧ SlopeAt CS H p a b ∧ Wd a b (cod z) ∧ cod z ≠ [] ∧ Up a b (cod z) ∧ z.length ≤ 1000 ∧
  ∀ H', Same H H' → Q (.bl true) H'
theorem sc_isWayText : FnScope ["slope", "value"] ["slope", "value"] (defScope d_isWayText) := ⟨rfl, rfl, rfl, by decide +kernel, rfl, by decide +kernel, by decide +kernel⟩
theorem ok_isWayText {f : Addr} {fd : FuncData} (D : Df K mg "is_way_text" d_isWayText f fd) (T : Nm mg) (C1 : Cal P w K mg base "is_text_of" 1 ["slope", "value"] (spIsTextOf CS))
    (C2 : Cal P w K mg base "levels_of" 1 ["slope", "text"] (spLevelsOf CS)) : Cal P w K mg base "is_way_text" 2 ["slope", "value"] (spIsWayText CS) := by
  refine D.cal (D.F.ok sc_isWayText (fun vs H Q E h => ?_) (fun cdv A outer s H vs Q E hr h => ?_)) fun _ _ _ _ _ _ us hl => match us, hl with | [_, _], _ => rfl
  · obtain ⟨p, a, b, z, rfl, _⟩ := h
    rfl
  · obtain ⟨p, a, b, z, rfl, hs, wd, ne, up, hz, k⟩ := h
    refine ⟨_, pss_one (ps_ret (pe_and (pe_cal C1 hr (by rfl) (pa_cons (pv 0) (pa_cons (pv 1) pa_nil)))
      (pe_one (pe_cmp (pc_ge (pe_callB (cr_min rfl) (by rfl) T.min boot_min (pa_cons (pe_cal C2 hr (by rfl) (pa_cons (pv 0) (pa_cons (pv 1) pa_nil))) pa_nil)) pe_int) rfl)))), ?_⟩
    refine ⟨_, rfl, _, rfl, p, a, b, z, rfl, hs, wd, hz, _, rfl, iteT ?_⟩
    refine ⟨_, rfl, _, rfl, p, a, b, z, rfl, hs, hz, fun H1 l s1 hl h1 => ?_⟩
    refine ⟨l, _, rfl, SqL.of h1, ?_, fun m hm hle => ?_⟩
    · rw [levels_len]
      exact List.length_pos_iff.mpr ne
    · refine ⟨_, _, rfl, rfl, ?_⟩
      exact qT (up m hm) (k _ s1)
end
end K8
set_option Elab.async false
set_option linter.all false
set_option maxRecDepth 100000
set_option maxHeartbeats 4000000
namespace K8
open PySem L2 SlX
open PyProof.Rows (boot_int boot_bool boot_str boot_isinstance boot_min boot_enumerate boot_tuple)
section
variable {P : Program} {w : World} {K : PySem.W.Frag} {mg : Str → Option Value} {base : Heap} {CS CW : Addr}
/-! ### the guards -/
def spReqSlope (CS : Addr) : Sp := fun vs H Q _ => ∃ (p : Addr) (a b : Nat), vs = [.ref p] ∧ SlopeAt CS H p a b ∧ Q .non H
theorem sc_requireSlope : FnScope ["value"] ["value"] (defScope d_requireSlope) := ⟨rfl, rfl, rfl, by decide +kernel, rfl, by decide +kernel, by decide +kernel⟩
theorem ok_requireSlope {f : Addr} {fd : FuncData} (D : Df K mg "require_slope" d_requireSlope f fd) (T : Nm mg) (S : SlopeK K mg CS) : Cal P w K mg base "require_slope" 1 ["value"] (spReqSlope CS) := by
  refine D.cal (D.F.ok sc_requireSlope (fun vs H Q E h => ?_) (fun cdv A outer s H vs Q E hr h => ?_)) fun _ _ _ _ _ _ us hl => match us, hl with | [_], _ => rfl
  · obtain ⟨p, a, b, rfl, _⟩ := h
    rfl
  · obtain ⟨p, a, b, rfl, hs, k⟩ := h
    obtain ⟨dx, g, sl⟩ := hs.slt
    refine ⟨_, pss_one (ps_if (pt_not (pt_val (pe_callB (call_isiSl (.ref CS)) (by rfl) T.isinstance boot_isinstance (pa_cons (pv 0) (pa_cons (pe_glob (v := .ref CS) (by rfl) S.g rfl) pa_nil))))) (pss_one ps_never) pss_nil), ?_⟩
    exact ⟨_, rfl, p, CS, dx, _, .ref CS, true, rfl, rfl, rel_ref, sl, S.cls, S.isi, kit_self, _, rfl, iteF k⟩
def spReqWay (CW : Addr) : Sp := fun vs H Q _ => ∃ (q p : Addr) (z : Str), vs = [.ref q] ∧ WayAt CW H q p z ∧ Q .non H
theorem sc_requireWay : FnScope ["value"] ["value"] (defScope d_requireWay) := ⟨rfl, rfl, rfl, by decide +kernel, rfl, by decide +kernel, by decide +kernel⟩
theorem ok_requireWay {f : Addr} {fd : FuncData} (D : Df K mg "require_way" d_requireWay f fd) (T : Nm mg) (S : WayK K mg CW) : Cal P w K mg base "require_way" 1 ["value"] (spReqWay CW) := by
  refine D.cal (D.F.ok sc_requireWay (fun vs H Q E h => ?_) (fun cdv A outer s H vs Q E hr h => ?_)) fun _ _ _ _ _ _ us hl => match us, hl with | [_], _ => rfl
  · obtain ⟨q, p, z, rfl, _⟩ := h
    rfl
  · obtain ⟨q, p, z, rfl, hs, k⟩ := h
    obtain ⟨dx, g, sl⟩ := hs.slt
    refine ⟨_, pss_one (ps_if (pt_not (pt_val (pe_callB (call_isiSl (.ref CW)) (by rfl) T.isinstance boot_isinstance (pa_cons (pv 0) (pa_cons (pe_glob (v := .ref CW) (by rfl) S.g rfl) pa_nil))))) (pss_one ps_never) pss_nil), ?_⟩
    exact ⟨_, rfl, q, CW, dx, _, .ref CW, true, rfl, rfl, rel_ref, sl, S.cls, S.isi, kit_self, _, rfl, iteF k⟩
def spReqWord (CS : Addr) : Sp := fun vs H Q _ => ∃ (p : Addr) (a b : Nat) (z : Str), vs = [.ref p, .str z] ∧ SlopeAt CS H p a b ∧ Wd a b (cod z) ∧ z.length ≤ 1000 ∧ Q .non H
theorem sc_requireWord : FnScope ["slope", "value"] ["slope", "value"] (defScope d_requireWord) := ⟨rfl, rfl, rfl, by decide +kernel, rfl, by decide +kernel, by decide +kernel⟩
theorem ok_requireWord {f : Addr} {fd : FuncData} (D : Df K mg "require_word" d_requireWord f fd) (C : Cal P w K mg base "is_text_of" 1 ["slope", "value"] (spIsTextOf CS)) :
    Cal P w K mg base "require_word" 2 ["slope", "value"] (spReqWord CS) := by
  refine D.cal (D.F.ok sc_requireWord (fun vs H Q E h => ?_) (fun cdv A outer s H vs Q E hr h => ?_)) fun _ _ _ _ _ _ us hl => match us, hl with | [_, _], _ => rfl
  · obtain ⟨p, a, b, z, rfl, _⟩ := h
    rfl
  · obtain ⟨p, a, b, z, rfl, hs, wd, hz, k⟩ := h
    refine ⟨_, pss_one (ps_if (pt_not (pt_val (pe_cal C hr (by rfl) (pa_cons (pv 0) (pa_cons (pv 1) pa_nil))))) (pss_one ps_never) pss_nil), ?_⟩
    exact ⟨_, rfl, _, rfl, p, a, b, z, rfl, hs, wd, hz, _, rfl, iteF k⟩
theorem sc_requireSW : FnScope ["slope", "value"] ["slope", "value"] (defScope d_requireSW) := ⟨rfl, rfl, rfl, by decide +kernel, rfl, by decide +kernel, by decide +kernel⟩
theorem ok_requireSW {f : Addr} {fd : FuncData} (D : Df K mg "require_slope_and_word" d_requireSW f fd) (C1 : Cal P w K mg base "require_slope" 1 ["value"] (spReqSlope CS)) (C2 : Cal P w K mg base "require_word" 2 ["slope", "value"] (spReqWord CS)) :
    Cal P w K mg base "require_slope_and_word" 3 ["slope", "value"] (spReqWord CS) := by
  refine D.cal (D.F.ok sc_requireSW (fun vs H Q E h => ?_) (fun cdv A outer s H vs Q E hr h => ?_)) fun _ _ _ _ _ _ us hl => match us, hl with | [_, _], _ => rfl
  · obtain ⟨p, a, b, z, rfl, _⟩ := h
    rfl
  · obtain ⟨p, a, b, z, rfl, hs, wd, hz, k⟩ := h
    refine ⟨_, pss_cons (ps_expr (pe_cal C1 hr (by rfl) (pa_cons (pv 0) pa_nil))) (pss_one (ps_expr (pe_cal C2 hr (by rfl) (pa_cons (pv 0) (pa_cons (pv 1) pa_nil))))), ?_⟩
    exact ⟨_, rfl, p, a, b, rfl, hs, _, rfl, _, rfl, p, a, b, z, rfl, hs, wd, hz, k⟩
/-! ### Way.__init__ -/
def spWayInit (CS CW : Addr) : Sp := fun vs H Q _ => ∃ (x dx p : Addr) (a b : Nat) (z : Str), vs = [.ref x, .ref p, .str z] ∧ H x = some (.ins CW dx []) ∧ H dx = some (.own x) ∧ dx ≠ x ∧ SlopeAt CS H p a b ∧
  Wd a b (cod z) ∧ cod z ≠ [] ∧ Up a b (cod z) ∧ z.length ≤ 1000 ∧
  ∀ H' : Hp, (∀ c o, H c = some o → c ≠ x → c ≠ dx → H' c = some o) → WayAt CW H' x p z → Q .non H'
theorem sc_wayInit : FnScope ["self", "slope", "text"] ["self", "slope", "text"] (defScope d_wayInit) := ⟨rfl, rfl, rfl, by decide +kernel, rfl, by decide +kernel, by decide +kernel⟩
theorem ok_wayInit {f : Addr} {fd : FuncData} (F : Fun K "__init__" "Way.__init__" d_wayInit f fd) (SS : SlopeK K mg CS) (S : WayK K mg CW) (M : Mk K CW f) (C1 : Cal P w K mg base "require_slope" 1 ["value"] (spReqSlope CS))
    (C2 : Cal P w K mg base "is_way_text" 2 ["slope", "value"] (spIsWayText CS)) : Mkr P w K mg base "Way" CW 3 ["self", "slope", "text"] (spWayInit CS CW) := by
  refine ⟨f, fd, M, F.ok sc_wayInit (fun vs H Q E h => ?_) (fun cdv A outer s H vs Q E hr h => ?_), S.g, F.binds fun _ _ _ _ _ _ us hl => match us, hl with | [_, _, _], _ => rfl⟩
  · obtain ⟨x, dx, p, a, b, z, rfl, _⟩ := h
    rfl
  · obtain ⟨x, dx, p, a, b, z, rfl, hx, hd, ne, hs, wd, nz, up, hz, k⟩ := h
    obtain ⟨p0, s0⟩ := S.s0
    obtain ⟨p1, s1⟩ := S.s1
    obtain ⟨p2, s2⟩ := S.s2
    obtain ⟨q1, t1⟩ := SS.s1
    obtain ⟨q2, t2⟩ := SS.s2
    refine ⟨_, pss_cons (ps_expr (pe_cal C1 hr (by rfl) (pa_cons (pv 1) pa_nil)))
      (pss_cons (ps_if (pt_not (pt_val (pe_cal C2 hr (by rfl) (pa_cons (pv 1) (pa_cons (pv 2) pa_nil))))) (pss_one ps_never) pss_nil)
      (pss_cons (ps_sl (pv 0) (pv 1)) (pss_cons (ps_sl (pv 0) (pv 2)) (pss_one (ps_sl (pv 0) (pe_tup (pa_cons (pe_sl (pv 1)) (pa_cons (pe_sl (pv 1)) (pa_cons (pv 2) pa_nil))))))))), ?_⟩
    refine ⟨_, rfl, p, a, b, rfl, hs, _, rfl, _, rfl, p, a, b, z, rfl, hs, wd, nz, up, hz, fun H1 sa => ⟨_, rfl, iteF ?_⟩⟩
    have hx1 := sa _ _ hx
    have hd1 := sa _ _ hd
    obtain ⟨dp, g, r1, r2⟩ := hs.same sa
    have n1 : p ≠ x := ne_of r1 hx1 (fun z => by unfold SlO at z; cases z)
    have n2 : p ≠ dx := ne_of r1 hd1 (fun z => by unfold SlO at z; cases z)
    have n3 : dp ≠ x := ne_of r2 hx1 (fun z => by cases z)
    have n4 : dp ≠ dx := ne_of r2 hd1 (fun z => by cases z)
    refine ⟨_, rfl, _, rfl, x, CW, dx, p1, [], 1, rfl, .inl ⟨hx1, rfl⟩, S.cls, s1, ?_⟩
    refine ⟨_, rfl, _, rfl, x, CW, dx, p2, _, 2, rfl, slH_slt ne, S.cls, s2, ?_⟩
    rw [slH_twice ne]
    have sl : Slt (slH H1 x CW dx [none, some (.ref p), some (.str z)]) p CS dp [some (.int g), some (.int a), some (.int b)] := .inr ⟨by rw [slH_ne n1 n2]; exact r1, by rw [slH_ne n3 n4]; exact r2⟩
    refine ⟨_, rfl, p, CS, dp, q1, _, 1, _, rfl, sl, SS.cls, t1, rfl, _, rfl, p, CS, dp, q2, _, 2, _, rfl, sl, SS.cls, t2, rfl, _, rfl, (by show 3 ≤ sizeLine; decide), fun t ht => ?_⟩
    have tx : x ≠ t := fun e => by
      rw [← e] at ht
      unfold slH at ht
      rw [upd_same] at ht; cases ht
    have td : dx ≠ t := fun e => by
      rw [← e] at ht
      unfold slH at ht
      rw [upd_ne ne, upd_same] at ht; cases ht
    refine ⟨_, rfl, x, CW, dx, p0, _, 0, rfl, .inr ⟨by rw [upd_ne tx]; unfold slH; rw [upd_same], by rw [upd_ne td]; unfold slH; rw [upd_ne ne, upd_same]⟩, S.cls, s0, ?_⟩
    refine k _ (fun c o e nx nd => ?_) ⟨dx, .ref t, ?_, ?_⟩
    · have e1 := sa _ _ e
      have nt : c ≠ t := fun q => by
        rw [← q, slH_ne nx nd, e1] at ht; cases ht
      rw [slH_ne nx nd, upd_ne nt, slH_ne nx nd]
      exact e1
    · unfold slH; rw [upd_same]; rfl
    · unfold slH; rw [upd_ne ne, upd_same]
end
end K8
set_option Elab.async false
set_option linter.all false
set_option maxRecDepth 100000
set_option maxHeartbeats 4000000
namespace K8
open PySem L2 SlX
open PyProof.Rows (boot_int boot_bool boot_str boot_isinstance boot_min boot_enumerate boot_tuple)
section
variable {P : Program} {w : World} {K : PySem.W.Frag} {mg : Str → Option Value} {base : Heap} {CS CW : Addr}
/-! ### the properties of a way -/
def spWaySlope (CW : Addr) : Sp := fun vs H Q _ => ∃ (q p : Addr) (z : Str), vs = [.ref q] ∧ WayAt CW H q p z ∧ Q (.ref p) H
def spWayText (CW : Addr) : Sp := fun vs H Q _ => ∃ (q p : Addr) (z : Str), vs = [.ref q] ∧ WayAt CW H q p z ∧ Q (.str z) H
theorem sc_waySlope : FnScope ["self"] ["self"] (defScope d_waySlope) := ⟨rfl, rfl, rfl, by decide +kernel, rfl, by decide +kernel, by decide +kernel⟩
theorem ok_waySlope {f : Addr} {fd : FuncData} (F : Fun K "slope" "Way.slope" d_waySlope f fd) (S : WayK K mg CW) : FnOk P w K mg base CX0 1 f fd ["self"] (spWaySlope CW) := by
  refine F.ok sc_waySlope (fun vs H Q E h => ?_) (fun cdv A outer s H vs Q E hr h => ?_)
  · obtain ⟨q, p, z, rfl, _⟩ := h
    rfl
  · obtain ⟨q, p, z, rfl, hs, k⟩ := h
    obtain ⟨dx, g, hl⟩ := hs.slt
    obtain ⟨p1, s1⟩ := S.s1
    refine ⟨_, pss_one (ps_ret (pe_sl (pv 0))), ?_⟩
    exact ⟨_, rfl, q, CW, dx, p1, _, 1, _, rfl, hl, S.cls, s1, rfl, k⟩
theorem sc_wayText : FnScope ["self"] ["self"] (defScope d_wayText) := ⟨rfl, rfl, rfl, by decide +kernel, rfl, by decide +kernel, by decide +kernel⟩
theorem ok_wayText {f : Addr} {fd : FuncData} (F : Fun K "text" "Way.text" d_wayText f fd) (S : WayK K mg CW) : FnOk P w K mg base CX0 1 f fd ["self"] (spWayText CW) := by
  refine F.ok sc_wayText (fun vs H Q E h => ?_) (fun cdv A outer s H vs Q E hr h => ?_)
  · obtain ⟨q, p, z, rfl, _⟩ := h
    rfl
  · obtain ⟨q, p, z, rfl, hs, k⟩ := h
    obtain ⟨dx, g, hl⟩ := hs.slt
    obtain ⟨p2, s2⟩ := S.s2
    refine ⟨_, pss_one (ps_ret (pe_sl (pv 0))), ?_⟩
    exact ⟨_, rfl, q, CW, dx, p2, _, 2, _, rfl, hl, S.cls, s2, rfl, k⟩
/-! ### turned_by -/
def spTurn : Sp := fun vs H Q _ => ∃ (z : Str) (n : Nat), vs = [.str z, .int n] ∧ z.length ≤ 1000 ∧ Q (.str (tur z n)) H
theorem sc_turnedBy : FnScope ["text", "number"] ["text", "number"] (defScope d_turnedBy) := ⟨rfl, rfl, rfl, by decide +kernel, rfl, by decide +kernel, by decide +kernel⟩
theorem ok_turnedBy {f : Addr} {fd : FuncData} (D : Df K mg "turned_by" d_turnedBy f fd) : Cal P w K mg base "turned_by" 1 ["text", "number"] spTurn := by
  refine D.cal (D.F.ok sc_turnedBy (fun vs H Q E h => ?_) (fun cdv A outer s H vs Q E hr h => ?_)) fun _ _ _ _ _ _ us hl => match us, hl with | [_, _], _ => rfl
  · obtain ⟨z, n, rfl, _⟩ := h
    rfl
  · obtain ⟨z, n, rfl, hz, k⟩ := h
    refine ⟨_, pss_one (ps_ret (pe_op op_add_str (pe_slice sl_str (pv 0) (po_some (pv 1)) po_none) (pe_slice sl_str (pv 0) po_none (po_some (pv 1))))), ?_⟩
    have c1 := cutS_length z (some (n : Int)) none
    have c2 := cutS_length z none (some (n : Int))
    have hz' : z.length ≤ sizeLine := by rw [sizeLine_eq]; omega
    refine ⟨_, rfl, _, rfl, _, rfl, z, rfl, hz', _, rfl, _, rfl, _, rfl, z, rfl, hz', _, _, rfl, rfl, by rw [sizeLine_eq]; omega, ?_⟩
    rw [tur_eq]
    exact k
/-! ### lowest_spots -/
def lowV (a b : Nat) (z : Str) : List V := (ups a b (cod z)).map fun i => V.int (i : Nat)
def spLowestSpots (CS : Addr) : Sp := fun vs H Q _ => ∃ (p : Addr) (a b : Nat) (z : Str), vs = [.ref p, .str z] ∧ SlopeAt CS H p a b ∧ Wd a b (cod z) ∧ cod z ≠ [] ∧ z.length ≤ 1000 ∧
  ∀ (H' : Hp) (l : Addr), Same H H' → H l = none → H' l = some (.lst (lowV a b z)) → Q (.ref l) H'
theorem sc_lowestSpots : FnScope ["slope", "text", "levels", "lowest", "spot", "level"] ["slope", "text"] (defScope d_lowestSpots) := ⟨rfl, rfl, rfl, by decide +kernel, rfl, by decide +kernel, by decide +kernel⟩
theorem filt_next {p : Nat → Bool} {i : Nat} : (List.range (i + 1)).filter p = (List.range i).filter p ++ if p i = true then [i] else [] := by
  rw [List.range_succ, List.filter_append]
  congr 1
  cases h : p i <;> simp [List.filter_cons, h]
theorem ok_lowestSpots {f : Addr} {fd : FuncData} (D : Df K mg "lowest_spots" d_lowestSpots f fd) (T : Nm mg) (C : Cal P w K mg base "levels_of" 1 ["slope", "text"] (spLevelsOf CS)) :
    Cal P w K mg base "lowest_spots" 2 ["slope", "text"] (spLowestSpots CS) := by
  refine D.cal (D.F.ok sc_lowestSpots (fun vs H Q E h => ?_) (fun cdv A outer s H vs Q E hr h => ?_)) fun _ _ _ _ _ _ us hl => match us, hl with | [_, _], _ => rfl
  · obtain ⟨p, a, b, z, rfl, _⟩ := h
    rfl
  · obtain ⟨p, a, b, z, rfl, hs, wd, nz, hz, k⟩ := h
    have nd := sc_lowestSpots.nd
    refine ⟨_, pss_cons (ps_set (i := 2) nd rfl (.inl rfl) (pe_cal C hr (by rfl) (pa_cons (pv 0) (pa_cons (pv 1) pa_nil))))
      (pss_cons (ps_set (i := 3) nd rfl (.inr rfl) (pe_callB (cr_min rfl) (by rfl) T.min boot_min (pa_cons (pv 2) pa_nil)))
      (pss_one (ps_ret (pe_lc (own := [("spot", 4), ("level", 5)]) (g := gTup K 2 (gCons (gName 4) (gCons (gName 5) gNil))) rfl nd (pi_enum (by rfl) T.enumerate (pa_cons (pv 2) pa_nil)) (blkOk_by (N := ["slope", "text", "levels", "lowest", "spot", "level"]) (own := [("spot", 4), ("level", 5)]) (sc := defScope d_lowestSpots) (by decide +kernel))
        (fun _ _ _ _ _ => pg_tup (by rfl) (pgs_cons (pg_name (i := 4) nd rfl (Or.inl rfl)) (pgs_cons (pg_name (i := 5) nd rfl (Or.inl rfl)) pgs_nil)))
        (fun _ _ _ _ _ => pts_one (pt_cmpR op_eq (pv 5) (pv 3) (nomark _))) (fun _ _ _ _ _ => pv 4))))), ?_⟩
    refine ⟨_, rfl, _, rfl, p, a, b, z, rfl, hs, hz, fun H1 l s1 hl h1 => ?_⟩
    refine ⟨_, rfl, l, _, rfl, SqL.of h1, ?_, fun m hm hle => ?_⟩
    · rw [levels_len]
      exact List.length_pos_iff.mpr nz
    have mn : IsMin m (levels a b (cod z)) := ⟨hm, hle⟩
    have low := ups_low wd.zero mn
    refine ⟨_, rfl, l, _, rfl, SqL.of h1, fun L hL => ?_⟩
    refine lc_it walk_enum (fun i H' => CI H1 L (((List.range i).filter fun j => decide ((levels a b (cod z))[j]? = some m)).map fun j => V.int (j : Nat)) H') (CI.start hL) (fun i H' _ c => (Same.seq c.1 (SqL.of h1))) ?_ ?_
    · rintro i x H2 H3 hi ci ⟨t, x1, y1, rfl, ht, rfl, e1, e2⟩
      have hi' : i < (levels a b (cod z)).length := by rw [List.length_map] at hi; exact hi
      have ex1 : x1 = .int (i : Nat) := (Option.some.inj e1).symm
      subst ex1
      have e3 : ((levels a b (cod z)).map V.int)[i]? = some y1 := e2
      rw [List.getElem?_map, List.getElem?_eq_getElem hi'] at e3
      have ey1 : y1 = .int ((levels a b (cod z))[i]) := (Option.some.inj e3).symm
      subst ey1
      have ge : (levels a b (cod z))[i]? = some ((levels a b (cod z))[i]) := List.getElem?_eq_getElem hi'
      have hh : H2 L ≠ none := by rw [ci.2]; simp
      refine ⟨t, _, rfl, SqT.of upd_same, rfl, _, _, rfl, _, _, rfl, rfl, rfl, ?_⟩
      refine ⟨_, rfl, _, rfl, rfl, _, rfl, iteB (fun e => ?_) (fun e => ?_)⟩
      · injection e with e
        obtain ⟨p1, p2, p3⟩ := ci.push (y := .int (i : Nat)) hL (Same.upd (o := .tup [.int (i : Nat), .int ((levels a b (cod z))[i])]) ht) (by
          rw [List.length_map]; have := List.length_filter_le (fun j => decide ((levels a b (cod z))[j]? = some m)) (List.range i)
          rw [List.length_range] at this; rw [levels_len] at hi'; rw [cod_len] at hz; omega)
        refine ⟨_, rfl, _, p1, p2, ?_⟩
        rw [filt_next, if_pos (by rw [ge, e]; exact decide_eq_true rfl), List.map_append]
        exact p3
      · have e' : ¬ (levels a b (cod z))[i]? = some m := fun q => e (by rw [ge] at q; rw [Option.some.inj q])
        rw [filt_next, if_neg (by rw [decide_eq_false e']; exact Bool.false_ne_true), List.append_nil]
        exact ci.keep (Same.upd ht)
    · intro H2 ci
      rw [List.length_map, levels_len, ← low] at ci
      exact k _ L (L2.Same.trans s1 ci.1) (s1.free hL) ci.2
end
end K8
set_option Elab.async false
set_option linter.all false
set_option maxRecDepth 100000
set_option maxHeartbeats 4000000
namespace K8
open PySem L2 SlX K8S
open PyProof.Rows (boot_int boot_bool boot_str boot_isinstance boot_min boot_enumerate boot_tuple)
section
theorem take_next {α : Type} {xs : List α} {i : Nat} {x : α} (h : xs[i]? = some x) : xs.take (i + 1) = xs.take i ++ [x] := by
  rw [List.take_add_one, h]; rfl
variable {P : Program} {w : World} {K : PySem.W.Frag} {mg : Str → Option Value} {base : Heap} {CS CW : Addr}
/-- the first place, or None -/
def firstV (l : List Nat) : V := match l with | i :: _ => .int (i : Nat) | [] => .non
/-! ### lowest_places -/
def spPlaces (CS : Addr) : Sp := fun vs H Q _ => ∃ (p : Addr) (a b : Nat) (z : Str), vs = [.ref p, .str z] ∧ SlopeAt CS H p a b ∧ Wd a b (cod z) ∧ cod z ≠ [] ∧ z.length ≤ 1000 ∧
  ∀ (H' : Hp) (l : Addr), Same H H' → H l = none → H' l = some (.tup (lowV a b z)) → Q (.ref l) H'
theorem sc_places : FnScope ["slope", "text"] ["slope", "text"] (defScope d_lowestPlaces) := ⟨rfl, rfl, rfl, by decide +kernel, rfl, by decide +kernel, by decide +kernel⟩
theorem ok_places {f : Addr} {fd : FuncData} (D : Df K mg "lowest_places" d_lowestPlaces f fd) (T : Nm mg) (C1 : Cal P w K mg base "require_slope_and_word" 3 ["slope", "value"] (spReqWord CS))
    (C2 : Cal P w K mg base "lowest_spots" 2 ["slope", "text"] (spLowestSpots CS)) : Cal P w K mg base "lowest_places" 4 ["slope", "text"] (spPlaces CS) := by
  refine D.cal (D.F.ok sc_places (fun vs H Q E h => ?_) (fun cdv A outer s H vs Q E hr h => ?_)) fun _ _ _ _ _ _ us hl => match us, hl with | [_, _], _ => rfl
  · obtain ⟨p, a, b, z, rfl, _⟩ := h
    rfl
  · obtain ⟨p, a, b, z, rfl, hs, wd, nz, hz, k⟩ := h
    refine ⟨_, pss_cons (ps_expr (pe_cal C1 hr (by rfl) (pa_cons (pv 0) (pa_cons (pv 1) pa_nil))))
      (pss_one (ps_ret (pe_callTy call_tuple_of (by rfl) T.tuple boot_tuple (pa_cons (pe_cal C2 hr (by rfl) (pa_cons (pv 0) (pa_cons (pv 1) pa_nil))) pa_nil)))), ?_⟩
    refine ⟨_, rfl, _, rfl, p, a, b, z, rfl, hs, wd, hz, ?_⟩
    refine ⟨_, rfl, _, rfl, p, a, b, z, rfl, hs, wd, nz, hz, fun H1 l s1 hl h1 => ?_⟩
    exact ⟨l, _, rfl, .inl ⟨SqL.of h1, fun t ht => k _ t (Same.upd' s1 ht) (s1.free ht) upd_same⟩⟩
/-! ### a way is made -/
theorem ups_get {a b : Int} {w : List Nat} {k : Nat} (h : k ∈ ups a b w) : k < w.length ∧ Up a b (turn w k) := by
  unfold ups at h
  rw [List.mem_filter, List.mem_range] at h
  exact ⟨h.1, of_decide_eq_true h.2⟩
theorem mk_way {H1 : Hp} {R : VK} {E : XK} {x dx p : Addr} {a b : Nat} {z : Str} (nx : H1 x = none) (nd : H1 dx = none) (ne : dx ≠ x) (hs : SlopeAt CS H1 p a b) (wd : Wd a b (cod z)) (nz : cod z ≠ []) (up : Up a b (cod z)) (hz : z.length ≤ 1000)
    (k : ∀ H' : Hp, Same H1 H' → WayAt CW H' x p z → R .non H') : spWayInit CS CW [.ref x, .ref p, .str z] (upd (upd H1 dx (.own x)) x (.ins CW dx [])) R E := by
  have s1 : Same H1 (upd (upd H1 dx (.own x)) x (.ins CW dx [])) := Same.upd' (Same.upd nd) (by rw [upd_ne ne.symm]; exact nx)
  refine ⟨x, dx, p, a, b, z, rfl, upd_same, by rw [upd_ne ne, upd_same], ne, hs.same s1, wd, nz, up, hz, fun H' fr hw => ?_⟩
  exact k H' (fun c o e => fr c o (s1 _ _ e) (ne_of_none e nx) (ne_of_none e nd)) hw
theorem tur_nz {z : Str} {k : Nat} (nz : cod z ≠ []) : cod (tur z k) ≠ [] := fun e => nz (by
  have := congrArg List.length e
  rw [cod_tur, turn_len] at this
  exact List.length_eq_zero_iff.mp this)
/-! ### way_of -/
def spWayOf (CS CW : Addr) : Sp := fun vs H Q _ => ∃ (p : Addr) (a b : Nat) (z : Str), vs = [.ref p, .str z] ∧ SlopeAt CS H p a b ∧ Wd a b (cod z) ∧ cod z ≠ [] ∧ z.length ≤ 1000 ∧
  ∀ (H' : Hp) (t q : Addr) (k : Nat), Same H H' → (ups a b (cod z))[0]? = some k → WayAt CW H' q p (tur z k) → H' t = some (.tup [.int (k : Nat), .ref q]) → Q (.ref t) H'
theorem sc_wayOf : FnScope ["slope", "text", "spot"] ["slope", "text"] (defScope d_wayOf) := ⟨rfl, rfl, rfl, by decide +kernel, rfl, by decide +kernel, by decide +kernel⟩
theorem ok_wayOf {f : Addr} {fd : FuncData} (D : Df K mg "way_of" d_wayOf f fd) (T : Nm mg) (C1 : Cal P w K mg base "require_slope_and_word" 3 ["slope", "value"] (spReqWord CS))
    (C2 : Cal P w K mg base "lowest_spots" 2 ["slope", "text"] (spLowestSpots CS)) (C3 : Cal P w K mg base "turned_by" 1 ["text", "number"] spTurn) (M : Mkr P w K mg base "Way" CW 3 ["self", "slope", "text"] (spWayInit CS CW)) :
    Cal P w K mg base "way_of" 5 ["slope", "text"] (spWayOf CS CW) := by
  refine D.cal (D.F.ok sc_wayOf (fun vs H Q E h => ?_) (fun cdv A outer s H vs Q E hr h => ?_)) fun _ _ _ _ _ _ us hl => match us, hl with | [_, _], _ => rfl
  · obtain ⟨p, a, b, z, rfl, _⟩ := h
    rfl
  · obtain ⟨p, a, b, z, rfl, hs, wd, nz, hz, k⟩ := h
    have nd := sc_wayOf.nd
    refine ⟨_, pss_cons (ps_expr (pe_cal C1 hr (by rfl) (pa_cons (pv 0) (pa_cons (pv 1) pa_nil))))
      (pss_cons (ps_set (i := 2) nd rfl (.inl rfl) (pe_ix ix_list (pe_cal C2 hr (by rfl) (pa_cons (pv 0) (pa_cons (pv 1) pa_nil))) pe_int (fun _ _ => rfl)))
      (pss_one (ps_ret (pe_tup (pa_cons (pv 2) (pa_cons (pe_mkr M hr (by rfl) (pa_cons (pv 0) (pa_cons (pe_cal C3 hr (by rfl) (pa_cons (pv 1) (pa_cons (pv 2) pa_nil))) pa_nil))) pa_nil)))))), ?_⟩
    obtain ⟨i, hi⟩ : ∃ i, (ups a b (cod z))[0]? = some i := ⟨_, List.getElem?_eq_getElem (List.length_pos_iff.mpr (ups_ne wd.zero nz))⟩
    obtain ⟨i1, i2⟩ := ups_get (List.mem_of_getElem? hi)
    refine ⟨_, rfl, _, rfl, p, a, b, z, rfl, hs, wd, hz, ?_⟩
    refine ⟨_, rfl, _, rfl, p, a, b, z, rfl, hs, wd, nz, hz, fun H1 l s1 hl h1 => ?_⟩
    refine ⟨l, _, 0, .int (i : Nat), rfl, rfl, SqL.of h1, ?_, ?_⟩
    · refine atI_nat (j := 0) ?_
      unfold lowV
      rw [List.getElem?_map, hi]; rfl
    · refine ⟨_, rfl, _, rfl, _, rfl, _, rfl, z, i, rfl, hz, ?_⟩
      intro x dx nx ndx ne
      refine mk_way (z := tur z i) nx ndx ne (hs.same s1) (wd.turn i) (tur_nz nz) i2 (by rw [tur_len]; exact hz) fun H2 s2 hw => ⟨rfl, ?_⟩
      refine ⟨by show 2 ≤ sizeLine; decide, fun t ht => ?_⟩
      exact k _ t x i (Same.upd' (L2.Same.trans s1 s2) ht) hi (hw.same (Same.upd ht)) upd_same
/-! ### ways_among -/
def Ways (CW : Addr) (H : Hp) (p : Addr) (qs : List Addr) (ys : List Str) : Prop := qs.length = ys.length ∧ ∀ (i : Nat) (q : Addr) (y : Str), qs[i]? = some q → ys[i]? = some y → WayAt CW H q p y
theorem Ways.same {H H' : Hp} {p : Addr} {qs : List Addr} {ys : List Str} (h : Ways CW H p qs ys) (s : Same H H') : Ways CW H' p qs ys := ⟨h.1, fun i q y a b => (h.2 i q y a b).same s⟩
theorem Ways.push {H : Hp} {p : Addr} {qs : List Addr} {ys : List Str} {q : Addr} {y : Str} (h : Ways CW H p qs ys) (n : WayAt CW H q p y) : Ways CW H p (qs ++ [q]) (ys ++ [y]) := by
  refine ⟨by rw [List.length_append, List.length_append, h.1]; rfl, fun i q' y' a b => ?_⟩
  by_cases c : i < qs.length
  · rw [List.getElem?_append_left c] at a
    rw [List.getElem?_append_left (by rw [← h.1]; exact c)] at b
    exact h.2 i q' y' a b
  · rw [List.getElem?_append_right (by omega)] at a
    rw [List.getElem?_append_right (by rw [← h.1]; omega)] at b
    rw [h.1] at a
    match e : i - ys.length with
    | 0 =>
      rw [e] at a b
      cases a; cases b; exact n
    | m + 1 =>
      rw [e] at a
      cases a
theorem WayAt.updL {H : Hp} {q p L : Addr} {y : Str} {l : List V} {o : HO} (e : H L = some (.lst l)) (h : WayAt CW H q p y) : WayAt CW (upd H L o) q p y := by
  obtain ⟨dx, g, h1, h2⟩ := h
  refine ⟨dx, g, ?_, ?_⟩
  · rw [upd_ne (ne_of h1 e (fun z => by unfold SlO at z; cases z))]; exact h1
  · rw [upd_ne (ne_of h2 e (fun z => by cases z))]; exact h2
theorem Ways.updL {H : Hp} {p L : Addr} {qs : List Addr} {ys : List Str} {l : List V} {o : HO} (h : Ways CW H p qs ys) (e : H L = some (.lst l)) : Ways CW (upd H L o) p qs ys := ⟨h.1, fun i q y a b => (h.2 i q y a b).updL e⟩
/-- the turned texts at the ways' places -/
def turs (z : Str) (l : List Nat) : List Str := l.map (tur z)
theorem turs_len (z : Str) (l : List Nat) : (turs z l).length = l.length := List.length_map _
def spAmong (CS CW : Addr) : Sp := fun vs H Q _ => ∃ (p : Addr) (a b : Nat) (z : Str), vs = [.ref p, .str z] ∧ SlopeAt CS H p a b ∧ Wd a b (cod z) ∧ cod z ≠ [] ∧ z.length < 64 ∧
  ∀ (H' : Hp) (t : Addr) (qs : List Addr) (ys : List Str), Same H H' → Up1 (turs z (ups a b (cod z))) ys → Ways CW H' p qs ys → H' t = some (.tup (qs.map V.ref)) → Q (.ref t) H'
theorem sc_among : FnScope ["slope", "text", "found", "spot", "one"] ["slope", "text"] (defScope d_waysAmong) := ⟨rfl, rfl, rfl, by decide +kernel, rfl, by decide +kernel, by decide +kernel⟩
theorem ok_among {f : Addr} {fd : FuncData} (D : Df K mg "ways_among" d_waysAmong f fd) (T : Nm mg) (C1 : Cal P w K mg base "require_slope_and_word" 3 ["slope", "value"] (spReqWord CS))
    (C2 : Cal P w K mg base "lowest_spots" 2 ["slope", "text"] (spLowestSpots CS)) (C3 : Cal P w K mg base "turned_by" 1 ["text", "number"] spTurn) (M : Mkr P w K mg base "Way" CW 3 ["self", "slope", "text"] (spWayInit CS CW)) :
    Cal P w K mg base "ways_among" 5 ["slope", "text"] (spAmong CS CW) := by
  refine D.cal (D.F.ok sc_among (fun vs H Q E h => ?_) (fun cdv A outer s H vs Q E hr h => ?_)) fun _ _ _ _ _ _ us hl => match us, hl with | [_, _], _ => rfl
  · obtain ⟨p, a, b, z, rfl, _⟩ := h
    rfl
  · obtain ⟨p, a, b, z, rfl, hs, wd, nz, h64, k⟩ := h
    have hz : z.length ≤ 1000 := by omega
    have nd := sc_among.nd
    refine ⟨_, pss_cons (ps_expr (pe_cal C1 hr (by rfl) (pa_cons (pv 0) (pa_cons (pv 1) pa_nil))))
      (pss_cons (ps_set (i := 2) nd rfl (.inl rfl) (pe_callB (cr_sortedSS rfl) (by rfl) T.sorted PyProof.Rows.boot_sorted (pa_cons (pe_callTy (cr_setS rfl) (by rfl) T.set PyProof.Rows.boot_set (pa_cons
        (pe_lc (own := [("spot", 3)]) (g := gName 3) (tt := tYes) (te := tCall spTurn [] E0 (tCons (tVar 1) (tCons (tVar 3) tNil))) rfl nd (pi_list (pe_cal C2 hr (by rfl) (pa_cons (pv 0) (pa_cons (pv 1) pa_nil))))
          (blkOk_by (N := ["slope", "text", "found", "spot", "one"]) (own := [("spot", 3)]) (sc := defScope d_waysAmong) (by decide +kernel))
          (fun _ _ _ _ _ => pg_name (i := 3) nd rfl (Or.inl rfl)) (fun _ _ _ _ _ => pts_nil) (fun _ _ _ _ _ => pe_cal C3 hr (by rfl) (pa_cons (pv 1) (pa_cons (pv 3) pa_nil))))
        pa_nil)) pa_nil)))
      (pss_one (ps_ret (pe_callTy call_tuple_of (by rfl) T.tuple boot_tuple (pa_cons
        (pe_lc (own := [("one", 4)]) (g := gName 4) (tt := tYes) (te := tMake CW (spWayInit CS CW) [] E0 (tCons (tVar 0) (tCons (tVar 4) tNil))) rfl nd (pi_list (pv 2))
          (blkOk_by (N := ["slope", "text", "found", "spot", "one"]) (own := [("one", 4)]) (sc := defScope d_waysAmong) (by decide +kernel))
          (fun _ _ _ _ _ => pg_name (i := 4) nd rfl (Or.inl rfl)) (fun _ _ _ _ _ => pts_nil) (fun _ _ _ _ _ => pe_mkr M hr (by rfl) (pa_cons (pv 0) (pa_cons (pv 4) pa_nil)))) pa_nil))))), ?_⟩
    refine ⟨_, rfl, _, rfl, p, a, b, z, rfl, hs, wd, hz, ?_⟩
    refine ⟨_, rfl, _, rfl, p, a, b, z, rfl, hs, wd, nz, hz, fun H1 l s1 hl h1 => ?_⟩
    refine ⟨l, rfl, ⟨_, SqL.of h1⟩, fun L hL => ?_⟩
    have few : (ups a b (cod z)).length ≤ z.length := by
      rw [cod_len]
      have := List.length_filter_le (fun k => decide (Up a b (turn (cod z) k))) (List.range (cod z).length)
      rw [List.length_range] at this
      exact this
    refine lc_it walk_list (fun i H' => CI H1 L ((turs z ((ups a b (cod z)).take i)).map V.str) H') (CI.start hL) (fun i H' _ c => Same.seq c.1 (SqL.of h1)) ?_ ?_
    · rintro i x H2 H3 hi ci ⟨rfl, e2⟩
      unfold lowV at hi e2
      rw [List.length_map] at hi
      have ge : (ups a b (cod z))[i]? = some ((ups a b (cod z))[i]) := List.getElem?_eq_getElem hi
      rw [List.getElem?_map, ge] at e2
      obtain rfl : x = .int (((ups a b (cod z))[i] : Nat)) := (Option.some.inj e2).symm
      refine ⟨rfl, _, rfl, _, rfl, z, _, rfl, hz, ?_⟩
      obtain ⟨p1, p2, p3⟩ := ci.push (y := .str (tur z ((ups a b (cod z))[i]))) hL (Same.refl _) (by
        rw [List.length_map, turs_len, List.length_take]; omega)
      refine ⟨_, p1, p2, ?_⟩
      rw [take_next ge]
      unfold turs
      rw [List.map_append, List.map_append]
      exact p3
    · intro H2 ci
      have e0 : (ups a b (cod z)).take (lowV a b z).length = ups a b (cod z) := by
        unfold lowV; rw [List.length_map]; exact List.take_length
      rw [e0] at ci
      refine ⟨L, _, rfl, SqL.of ci.2, by rw [turs_len]; omega, fun sp hsp => ?_⟩
      refine ⟨sp, _, rfl, upd_same, by rw [turs_len]; omega, fun ys l2 up hl2 => ?_⟩
      have s3 : Same H1 (upd (upd H2 sp (SetS P w (turs z (ups a b (cod z))) sp)) l2 (.lst (ys.map V.str))) := Same.upd' (Same.upd' ci.1 hsp) hl2
      refine ⟨_, rfl, l2, rfl, ⟨_, SqL.of upd_same⟩, fun M2 hM2 => ?_⟩
      refine lc_it (walk_list (xs := ys.map V.str)) (fun i H' => ∃ qs : List Addr, CI (upd (upd H2 sp (SetS P w (turs z (ups a b (cod z))) sp)) l2 (.lst (ys.map V.str))) M2 (qs.map V.ref) H' ∧ Ways CW H' p qs (ys.take i))
        ⟨[], CI.start hM2, ⟨rfl, fun _ _ _ a => by cases a⟩⟩ (fun i H' _ c => let ⟨_, c, _⟩ := c; Same.seq c.1 (SqL.of upd_same)) ?_ ?_
      · rintro i x H4 H5 hi ⟨qs, ci2, ws⟩ ⟨rfl, e2⟩
        rw [List.length_map] at hi
        have ge : ys[i]? = some ys[i] := List.getElem?_eq_getElem hi
        rw [List.getElem?_map, ge] at e2
        obtain rfl : x = .str ys[i] := (Option.some.inj e2).symm
        have hy : ys[i] ∈ turs z (ups a b (cod z)) := (up.mem _).mp (List.getElem_mem hi)
        obtain ⟨j, hj, ej⟩ := List.mem_map.mp hy
        have uj := (ups_get hj).2
        rw [← ej] at ge ⊢
        refine ⟨rfl, _, rfl, _, rfl, ?_⟩
        intro x dx nx ndx ne
        refine mk_way (z := tur z j) nx ndx ne (((hs.same s1).same s3).same ci2.1) (wd.turn j) (tur_nz nz) uj (by rw [tur_len]; exact hz) fun H6 s6 hw => ⟨rfl, ?_⟩
        obtain ⟨p1, p2, p3⟩ := ci2.push (y := .ref x) hM2 s6 (by
          have := ws.1
          rw [List.length_take] at this
          have := up.len; rw [turs_len] at this
          rw [List.length_map]; omega)
        refine ⟨_, p1, p2, qs ++ [x], by rw [List.map_append]; exact p3, ?_⟩
        rw [take_next ge]
        exact ((ws.same s6).push hw).updL p1
      · rintro H4 ⟨qs, ci2, ws⟩
        rw [List.length_map, List.take_length] at ws
        refine ⟨M2, _, rfl, .inl ⟨SqL.of ci2.2, fun t ht => ?_⟩⟩
        exact k _ t qs ys (Same.upd' (L2.Same.trans (L2.Same.trans s1 s3) ci2.1) ht) up (ws.same (Same.upd ht)) upd_same
end
end K8
set_option Elab.async false
set_option linter.all false
set_option maxRecDepth 100000
set_option maxHeartbeats 4000000
namespace K8
open PySem L2 SlX K8S
open PyProof.Rows (boot_int boot_bool boot_str boot_isinstance boot_min boot_enumerate boot_tuple)
section
variable {P : Program} {w : World} {K : PySem.W.Frag} {mg : Str → Option Value} {base : Heap} {CS CW : Addr}
/-! ### touch_count -/
def spTouch (CS CW : Addr) : Sp := fun vs H Q _ => ∃ (q p : Addr) (a b : Nat) (z : Str), vs = [.ref q] ∧ WayAt CW H q p z ∧ SlopeAt CS H p a b ∧ z.length ≤ 1000 ∧
  ∀ H' : Hp, Same H H' → Q (.int ((levels a b (cod z)).count 0 : Nat)) H'
theorem sc_touch : FnScope ["way"] ["way"] (defScope d_touchCount) := ⟨rfl, rfl, rfl, by decide +kernel, rfl, by decide +kernel, by decide +kernel⟩
theorem ok_touch {f : Addr} {fd : FuncData} (D : Df K mg "touch_count" d_touchCount f fd) (T : Nm mg) (S : WayK K mg CW) (C1 : Cal P w K mg base "require_way" 1 ["value"] (spReqWay CW))
    (C2 : Cal P w K mg base "levels_of" 1 ["slope", "text"] (spLevelsOf CS)) : Cal P w K mg base "touch_count" 2 ["way"] (spTouch CS CW) := by
  refine D.cal (D.F.ok sc_touch (fun vs H Q E h => ?_) (fun cdv A outer s H vs Q E hr h => ?_)) fun _ _ _ _ _ _ us hl => match us, hl with | [_], _ => rfl
  · obtain ⟨q, p, a, b, z, rfl, _⟩ := h
    rfl
  · obtain ⟨q, p, a, b, z, rfl, hw, hs, hz, k⟩ := h
    obtain ⟨p1, s1⟩ := S.s1
    obtain ⟨p2, s2⟩ := S.s2
    obtain ⟨dx, g, sl⟩ := hw.slt
    refine ⟨_, pss_cons (ps_expr (pe_cal C1 hr (by rfl) (pa_cons (pv 0) pa_nil)))
      (pss_one (ps_ret (pe_bm PySem.F.plainAttrs_list PySem.F.slot_list_count PySem.F.type_list_count mt_lcount (pe_cal C2 hr (by rfl) (pa_cons (pe_sl (pv 0)) (pa_cons (pe_sl (pv 0)) pa_nil))) (pa_cons pe_int pa_nil)))), ?_⟩
    refine ⟨_, rfl, q, p, z, rfl, hw, ?_⟩
    refine ⟨_, rfl, q, CW, dx, p1, _, 1, _, rfl, sl, S.cls, s1, rfl, _, rfl, q, CW, dx, p2, _, 2, _, rfl, sl, S.cls, s2, rfl, p, a, b, z, rfl, hs, hz, fun H1 l s1 hl h1 => ?_⟩
    exact ⟨.inl ⟨rfl, _, SqL.of h1⟩, l, _, 0, rfl, rfl, SqL.of h1, k _ s1⟩
/-! ### words_of -/
def spWords (CW : Addr) : Sp := fun vs H Q _ => ∃ (q p : Addr) (z : Str), vs = [.ref q] ∧ WayAt CW H q p z ∧ z.length < 64 ∧
  ∀ (H' : Hp) (t : Addr) (ys : List Str), Same H H' → Up1 (turs z (List.range z.length)) ys → H' t = some (.tup (ys.map V.str)) → Q (.ref t) H'
theorem sc_words : FnScope ["way", "text", "number"] ["way"] (defScope d_wordsOf) := ⟨rfl, rfl, rfl, by decide +kernel, rfl, by decide +kernel, by decide +kernel⟩
theorem ok_words {f : Addr} {fd : FuncData} (D : Df K mg "words_of" d_wordsOf f fd) (T : Nm mg) (S : WayK K mg CW) (C1 : Cal P w K mg base "require_way" 1 ["value"] (spReqWay CW))
    (C3 : Cal P w K mg base "turned_by" 1 ["text", "number"] spTurn) : Cal P w K mg base "words_of" 2 ["way"] (spWords CW) := by
  refine D.cal (D.F.ok sc_words (fun vs H Q E h => ?_) (fun cdv A outer s H vs Q E hr h => ?_)) fun _ _ _ _ _ _ us hl => match us, hl with | [_], _ => rfl
  · obtain ⟨q, p, z, rfl, _⟩ := h
    rfl
  · obtain ⟨q, p, z, rfl, hw, h64, k⟩ := h
    obtain ⟨p2, s2⟩ := S.s2
    obtain ⟨dx, g, sl⟩ := hw.slt
    have nd := sc_words.nd
    refine ⟨_, pss_cons (ps_expr (pe_cal C1 hr (by rfl) (pa_cons (pv 0) pa_nil)))
      (pss_cons (ps_set (i := 1) nd rfl (.inr rfl) (pe_sl (pv 0)))
      (pss_one (ps_ret (pe_callTy call_tuple_of (by rfl) T.tuple boot_tuple (pa_cons (pe_callB (cr_sortedSS rfl) (by rfl) T.sorted PyProof.Rows.boot_sorted (pa_cons (pe_callTy (cr_setS rfl) (by rfl) T.set PyProof.Rows.boot_set (pa_cons
        (pe_lc (own := [("number", 2)]) (g := gName 2) (tt := tYes) (te := tCall spTurn [] E0 (tCons (tVar 1) (tCons (tVar 2) tNil))) rfl nd (pi_range1 (by rfl) T.range (pa_cons (pe_callB call_len_str (by rfl) T.len PySem.boot_len (pa_cons (pv 1) pa_nil)) pa_nil))
          (blkOk_by (N := ["way", "text", "number"]) (own := [("number", 2)]) (sc := defScope d_wordsOf) (by decide +kernel))
          (fun _ _ _ _ _ => pg_name (i := 2) nd rfl (Or.inl rfl)) (fun _ _ _ _ _ => pts_nil) (fun _ _ _ _ _ => pe_cal C3 hr (by rfl) (pa_cons (pv 1) (pa_cons (pv 2) pa_nil))))
        pa_nil)) pa_nil)) pa_nil))))), ?_⟩
    refine ⟨_, rfl, q, p, z, rfl, hw, ?_⟩
    refine ⟨_, rfl, q, CW, dx, p2, _, 2, _, rfl, sl, S.cls, s2, rfl, ?_⟩
    refine ⟨_, rfl, z, rfl, by rw [sizeLine_eq]; omega, _, rfl, by omega, by omega, fun L hL => ?_⟩
    refine lc_it walk_range (fun i H' => CI H L ((turs z ((List.range z.length).take i)).map V.str) H') (CI.start hL) (fun _ _ _ _ => trivial) ?_ ?_
    · rintro i x H2 H3 hi ci ⟨rfl, rfl⟩
      have hi' : i < z.length := by omega
      have ge : (List.range z.length)[i]? = some i := List.getElem?_range hi'
      refine ⟨rfl, _, rfl, _, rfl, z, i, by show [V.str z, V.int (0 + (i : Int))] = _; rw [Int.zero_add], by omega, ?_⟩
      obtain ⟨p1, p2, p3⟩ := ci.push (y := .str (tur z i)) hL (Same.refl _) (by
        rw [List.length_map, turs_len, List.length_take, List.length_range]; omega)
      refine ⟨_, p1, p2, ?_⟩
      rw [take_next ge]
      unfold turs
      rw [List.map_append, List.map_append]
      exact p3
    · intro H2 ci
      have e0 : (List.range z.length).take ((z.length : Int) : Int).toNat = List.range z.length := by
        rw [Int.toNat_natCast]
        exact List.take_of_length_le (by rw [List.length_range]; exact Nat.le_refl _)
      rw [e0] at ci
      have few : (turs z (List.range z.length)).length < 64 := by rw [turs_len, List.length_range]; exact h64
      refine ⟨L, _, rfl, SqL.of ci.2, few, fun sp hsp => ?_⟩
      refine ⟨sp, _, rfl, upd_same, few, fun ys l2 up hl2 => ?_⟩
      refine ⟨l2, _, rfl, .inl ⟨SqL.of upd_same, fun t ht => ?_⟩⟩
      exact k _ t ys (Same.upd' (Same.upd' (Same.upd' ci.1 hsp) hl2) ht) up upd_same
/-! ### turn_to -/
/-- the turns of t that are z -/
def hits (t z : Str) : List Nat := (List.range t.length).filter fun k => decide (turn (cod t) k = cod z)
def spTurnTo (CS CW : Addr) : Sp := fun vs H Q _ => ∃ (q p : Addr) (a b : Nat) (z t : Str), vs = [.ref q, .str t] ∧ WayAt CW H q p z ∧ SlopeAt CS H p a b ∧ Wd a b (cod t) ∧ cod t ≠ [] ∧ z.length = t.length ∧ t.length ≤ 1000 ∧
  Q (firstV (hits t z)) H
theorem sc_turnTo : FnScope ["way", "text", "found"] ["way", "text"] (defScope d_turnTo) := ⟨rfl, rfl, rfl, by decide +kernel, rfl, by decide +kernel, by decide +kernel⟩
theorem ok_turnTo {f : Addr} {fd : FuncData} (D : Df K mg "turn_to" d_turnTo f fd) (T : Nm mg) (S : WayK K mg CW) (C1 : Cal P w K mg base "require_way" 1 ["value"] (spReqWay CW))
    (C2 : Cal P w K mg base "require_word" 2 ["slope", "value"] (spReqWord CS)) : Cal P w K mg base "turn_to" 3 ["way", "text"] (spTurnTo CS CW) := by
  refine D.cal (D.F.ok sc_turnTo (fun vs H Q E h => ?_) (fun cdv A outer s H vs Q E hr h => ?_)) fun _ _ _ _ _ _ us hl => match us, hl with | [_, _], _ => rfl
  · obtain ⟨q, p, a, b, z, t, rfl, _⟩ := h
    rfl
  · obtain ⟨q, p, a, b, z, t, rfl, hw, hs, wd, nz, hl, hz, k⟩ := h
    obtain ⟨p1, s1⟩ := S.s1
    obtain ⟨p2, s2⟩ := S.s2
    obtain ⟨dx, g, sl⟩ := hw.slt
    have nd := sc_turnTo.nd
    refine ⟨_, pss_cons (ps_expr (pe_cal C1 hr (by rfl) (pa_cons (pv 0) pa_nil)))
      (pss_cons (ps_expr (pe_cal C2 hr (by rfl) (pa_cons (pe_sl (pv 0)) (pa_cons (pv 1) pa_nil))))
      (pss_cons (ps_set (i := 2) nd rfl (.inl rfl) (pe_m1 PySem.F.slot_str_find PySem.F.type_str_find mt_find (pe_op op_add_str (pv 1) (pv 1)) (pe_sl (pv 0))))
      (pss_one (ps_ret (pe_ifExp (pt_cmp (pc_ge (pv 2) pe_int)) (pv 2) pe_non))))), ?_⟩
    refine ⟨_, rfl, q, p, z, rfl, hw, ?_⟩
    refine ⟨_, rfl, q, CW, dx, p1, _, 1, _, rfl, sl, S.cls, s1, rfl, _, rfl, p, a, b, t, rfl, hs, wd, hz, ?_⟩
    refine ⟨_, rfl, _, rfl, t, t, rfl, rfl, by rw [sizeLine_eq]; omega, ⟨_, rfl⟩, _, rfl, q, CW, dx, p2, _, 2, _, rfl, sl, S.cls, s2, rfl, _, _, rfl, rfl, ?_⟩
    have lz : (cod z).length = (cod t).length := by rw [← cod_len, ← cod_len]; exact hl
    have fi := find_is (t := t ++ t) (v := z) (fun e => nz (by rw [e] at lz; exact List.length_eq_zero_iff.mp lz.symm))
    rw [cod_add] at fi
    have ff := find_first lz (List.length_pos_iff.mpr nz) fi
    refine ⟨_, rfl, _, _, rfl, rfl, ?_⟩
    have lt : (cod t).length = t.length := (cod_len t).symm
    rw [lt] at ff
    rcases ff with ⟨e, h0⟩ | ⟨i, e, h0⟩
    · have hc : ¬ Txt.find (t ++ t) z ≥ 0 := by rw [e]; decide
      refine ⟨_, rfl, iteND hc ?_⟩
      have : firstV (hits t z) = .non := by unfold hits; rw [h0]; rfl
      rw [this] at k
      exact k
    · have hc : Txt.find (t ++ t) z ≥ 0 := by rw [e]; omega
      refine ⟨_, rfl, iteD hc ?_⟩
      have : firstV (hits t z) = .int (i : Nat) := by
        unfold hits
        match g : (List.range t.length).filter fun k => decide (turn (cod t) k = cod z), h0 with
        | j :: _, h0 => cases h0; rfl
      rw [this, ← e] at k
      exact ⟨_, rfl, k⟩
end
end K8
set_option Elab.async false
set_option linter.all false
set_option maxRecDepth 100000
set_option maxHeartbeats 4000000
namespace K8
open PySem L2 SlX
section
variable {X : Cx} {CX : CXT} {C g : Addr} {n : Nat} {sp : Sp} {E : XK}
/-- x != y of two instances of the class at C, whose own == is at g -/
def rNeSl (C : Addr) (sp : Sp) (E : XK) : R2 := fun x y H Q => ∃ a dx vs b dy ws, x = .ref a ∧ y = .ref b ∧ Slt H a C dx vs ∧ Slt H b C dy ws ∧ sp [x, y] H (fun v H' => ∃ c, v = .bl c ∧ Q (.bl (!c)) H') E
theorem op_neSl (hn : PySem.W.findIn X.K (.ref C) "__ne__" = some (some (.builtin "object.__ne__"))) (hm : PySem.W.mroIn X.K C (.type "object") = some true) (he : PySem.W.findIn X.K (.ref C) "__eq__" = some (some (.ref g)))
    (hf : PySem.W.isFn X.K (.ref g) = true) (F : FnR X.prog X.w X.K X.mg X.base CX n g sp) (hr : Room (n + 1) X.A) (hx : ∀ (H : Hp) (s : Shared) (e : Value) (s' : Shared), CX X.stack H s E e s' → False) :
    OpR X (compareOp .NotEq) (rNeSl C sp E) := by
  intro pins s σ H x y v u Q I rx ry h
  obtain ⟨a, dx, vs, b, dy, ws, rfl, rfl, ha, hb, q⟩ := h
  cases (show v = Value.ref a from rx)
  cases (show u = Value.ref b from ry)
  obtain ⟨sl, od, _, J, _⟩ := slt_inst I ha
  obtain ⟨sl', od', _, J', _⟩ := slt_inst I hb
  refine K8R.ne_own (by have := hr.units; omega) I.kIn J J' hn hm he hf ?_
  refine wpAny_call ?_
  refine codeAny_mono (F X.A.in1 X.stack s H [.ref a, .ref b] [.ref a, .ref b] _ E hr.in1 I.env0.in1 (.cons rfl (.cons rfl .nil)) q) fun r s' hq => ?_
  cases r with
  | error e => exact (hx _ _ _ _ hq).elim
  | ok fl =>
    cases fl with
    | ret u =>
      obtain ⟨v, H', I2, rv, c, rfl, q⟩ := I.after hq
      cases rv
      exact ⟨c, rfl, .bl (!c), H', I2, rfl, q⟩
    | next => exact False.elim hq
    | brk => exact False.elim hq
    | cont => exact False.elim hq
end
end K8
set_option Elab.async false
set_option linter.all false
set_option maxRecDepth 100000
set_option maxHeartbeats 4000000
namespace K8
open PySem L2 SlX K8S
open PyProof.Rows (boot_int boot_bool boot_str boot_isinstance boot_min boot_max boot_abs boot_enumerate boot_tuple)
section
/-! ### the dice -/
def DiceAt (H : Hp) (p : Addr) : Prop := ∃ d0 d1 d2 : Int, H p = some (.lst [.int d0, .int d1, .int d2])
/-- all but the dice at p stand as they stood -/
def Fr (p : Addr) (H H' : Hp) : Prop := (∀ c o, H c = some o → c ≠ p → H' c = some o) ∧ DiceAt H' p
theorem Fr.refl {p : Addr} {H : Hp} (d : DiceAt H p) : Fr p H H := ⟨fun _ _ e _ => e, d⟩
theorem Fr.trans {p : Addr} {H H1 H2 : Hp} (f : Fr p H H1) (g : Fr p H1 H2) : Fr p H H2 := ⟨fun c o e n => g.1 c o (f.1 c o e n) n, g.2⟩
theorem Fr.same {p : Addr} {H H1 H2 : Hp} (f : Fr p H H1) (s : Same H1 H2) : Fr p H H2 := ⟨fun c o e n => s c o (f.1 c o e n), let ⟨a, b, c, e⟩ := f.2; ⟨a, b, c, s _ _ e⟩⟩
theorem Fr.of_same {p : Addr} {H H1 : Hp} (s : Same H H1) (d : DiceAt H p) : Fr p H H1 := (Fr.refl d).same s
theorem Fr.free {p c : Addr} {H H1 : Hp} (f : Fr p H H1) (d : DiceAt H p) (h : H1 c = none) : H c = none := by
  cases e : H c with
  | none => rfl
  | some o =>
    by_cases hc : c = p
    · obtain ⟨a, b, d, g⟩ := f.2
      rw [hc, g] at h; cases h
    · rw [f.1 c o e hc] at h; cases h
theorem Fr.up {p : Addr} {H0 H H1 : Hp} (s : Same H0 H) (n : H0 p = none) (f : Fr p H H1) : Same H0 H1 := fun c o e => f.1 c o (s _ _ e) (ne_of_none e n)
variable {P : Program} {w : World} {K : PySem.W.Frag} {mg : Str → Option Value} {base : Heap} {CS CW : Addr}
theorem dice3 {H : Hp} {p : Addr} {a b c : Int} (h : H p = some (.lst [.int a, .int b, .int c])) : DiceAt H p := ⟨a, b, c, h⟩
def spDice (K : PySem.W.Frag) : Sp := fun vs H Q _ => ∃ (a : Addr) (ns : List Int) (i : Nat), vs = [.ref a, .int i] ∧ SqL K H a (ns.map V.int) ∧ ns.length ≤ 63 ∧ ∀ (H' : Hp) (p : Addr), Same H H' → H p = none → DiceAt H' p → Q (.ref p) H'
theorem sc_dice : FnScope ["_law_script", "_law_spot", "_law_cell", "_law_left"] ["_law_script", "_law_spot"] (defScope d_dice) := ⟨rfl, rfl, rfl, by decide +kernel, rfl, by decide +kernel, by decide +kernel⟩
theorem ok_dice {f : Addr} {fd : FuncData} (D : Df K mg "_law_dice" d_dice f fd) (T : Nm mg) : Cal P w K mg base "_law_dice" 1 ["_law_script", "_law_spot"] (spDice K) := by
  refine D.cal (D.F.ok sc_dice (fun vs H Q E h => ?_) (fun cdv A outer s H vs Q E hr h => ?_)) fun _ _ _ _ _ _ us hl => match us, hl with | [_, _], _ => rfl
  · obtain ⟨a, ns, i, rfl, _⟩ := h
    rfl
  · obtain ⟨a, ns, i, rfl, hq, few, k⟩ := h
    have nd := sc_dice.nd
    refine ⟨_, pss_cons (ps_set (i := 2) nd rfl (.inl rfl) (pe_ifExp (pt_cmpR op_lt (pv 1) (pe_callB call_len_seq (by rfl) T.len PySem.boot_len (pa_cons (pv 0) pa_nil)) (nomark _))
        (pe_callTy call_int1 (by rfl) T.int boot_int (pa_cons (pe_ix ix_list (pv 0) (pv 1) (fun _ _ => rfl)) pa_nil)) (pe_op op_add (pe_op op_mul pe_int (pv 1)) pe_int)))
      (pss_cons (ps_set (i := 3) nd rfl (.inl rfl) (pe_op op_mod (pe_callB (call_max2 rfl) (by rfl) T.max boot_max (pa_cons pe_int (pa_cons (pe_op op_sub (pe_callB call_abs (by rfl) T.abs boot_abs (pa_cons (pv 2) pa_nil)) (pe_op op_pow pe_int pe_int)) pa_nil)))
          (pe_op op_mulW (pe_op op_pow pe_int pe_int) (pe_op op_pow pe_int pe_int))))
      (pss_one (ps_ret (pe_lst (pa_cons (pv 3) (pa_cons (pe_op op_add (pe_op op_add (pe_op op_add (pe_op op_mul (pe_op op_mod (pe_callB call_abs (by rfl) T.abs boot_abs (pa_cons (pv 2) pa_nil)) pe_int) pe_int) (pe_op op_mul pe_int (pv 1)))
          (pe_op op_mul pe_int (pe_callTy call_int1 (by rfl) T.int boot_int (pa_cons (pe_cmpR op_lt (pv 2) pe_int (nomark _)) pa_nil)))) pe_int) (pa_cons pe_int pa_nil))))))), ?_⟩
    have big : CMulW ((10 : Int) ^ (60 : Int).toNat) ((10 : Int) ^ (60 : Int).toNat) := wide_mul (a := 200) (b := 200) (by decide +kernel) (by decide +kernel) (by decide) (by decide) (by decide)
    have pos : (0 : Int) < (10 : Int) ^ (60 : Int).toNat * (10 : Int) ^ (60 : Int).toNat := by decide +kernel
    have c10 : ∀ n : Int, 0 ≤ n → n ≤ 60 → CPow 10 n := fun n h0 h => ⟨h0, by omega, by decide⟩
    have tail : ∀ c l : Int, tLst (tCons (tVar 3) (tCons (tOp (rI0 fun i j => V.int (i + j)) (tOp (rI0 fun i j => V.int (i + j)) (tOp (rI0 fun i j => V.int (i + j)) (tOp (rI CMul fun i j => V.int (i * j)) (tOp (rI (fun x j => 0 < j) fun i j => V.int (i % j))
        (tCB (fun xs H Q => ∃ i, xs = [V.int i] ∧ Q (V.int (if i < 0 then -i else i)) H) (tCons (tVar 2) tNil)) (tC (V.int 1152921504606846577))) (tC (V.int 67))) (tOp (rI CMul fun i j => V.int (i * j)) (tC (V.int 773)) (tVar 1)))
        (tOp (rI CMul fun i j => V.int (i * j)) (tC (V.int 43)) (tCB (fun xs H Q => (∃ i, xs = [V.int i] ∧ Q (V.int i) H) ∨ ∃ k, xs = [V.bl k] ∧ Q (V.int (if k = true then 1 else 0)) H) (tCons (tOp (rI0 fun i j => V.bl (decide (i < j))) (tVar 2) (tC (V.int 0))) tNil))))
        (tC (V.int 11))) (tCons (tC (V.int 0)) tNil))) [some (V.ref a), some (V.int i), some (V.int c), some (V.int l)] H Q := fun c l =>
      ⟨_, rfl, _, rfl, _, rfl, _, _, rfl, rfl, (by show (0 : Int) < 1152921504606846577; decide), _, _, rfl, rfl, .inr ⟨by decide, by decide⟩, _, rfl, _, _, rfl, rfl, .inl ⟨by decide, by decide⟩, _, _, rfl, rfl, _, rfl, _, _, rfl, rfl, .inr ⟨_, rfl, _, _, rfl, rfl, .inl ⟨by decide, by decide⟩,
        _, _, rfl, rfl, _, _, rfl, rfl, (by show 3 ≤ sizeLine; decide), fun p hp => k _ p (Same.upd hp) hp (dice3 upd_same)⟩⟩
    refine ⟨_, rfl, _, rfl, a, _, rfl, .inl hq, _, _, rfl, rfl, _, rfl, iteB (fun e => ?_) (fun e => ?_)⟩
    · have hi : i < ns.length := by rw [List.length_map] at e; omega
      refine ⟨_, rfl, _, rfl, a, _, _, .int ns[i], rfl, rfl, hq, atI_nat (by rw [List.getElem?_map, List.getElem?_eq_getElem hi]; rfl), .inl ⟨_, rfl, ?_⟩⟩
      refine ⟨_, rfl, _, rfl, _, _, rfl, rfl, c10 _ (by decide) (by decide), _, _, rfl, rfl, _, _, rfl, _, _, rfl, rfl, c10 _ (by decide) (by decide), _, _, rfl, rfl, c10 _ (by decide) (by decide), _, _, rfl, rfl, big, _, _, rfl, rfl, pos, ?_⟩
      exact tail _ _
    · refine ⟨_, rfl, _, _, rfl, rfl, .inl ⟨by decide, by decide⟩, _, _, rfl, rfl, ?_⟩
      refine ⟨_, rfl, _, rfl, _, _, rfl, rfl, c10 _ (by decide) (by decide), _, _, rfl, rfl, _, _, rfl, _, _, rfl, rfl, c10 _ (by decide) (by decide), _, _, rfl, rfl, c10 _ (by decide) (by decide), _, _, rfl, rfl, big, _, _, rfl, rfl, pos, ?_⟩
      exact tail _ _
/-! ### one roll -/
def spRoll : Sp := fun vs H Q _ => ∃ (p : Addr) (n : Nat), vs = [.ref p, .int n] ∧ DiceAt H p ∧ 0 < n ∧ n ≤ 1000 ∧ ∀ (H' : Hp) (r : Nat), Fr p H H' → r < n → Q (.int r) H'
theorem sc_roll : FnScope ["_law_dice_here", "_law_total", "_law_found", "_law_one", "_law_two"] ["_law_dice_here", "_law_total"] (defScope d_roll) := ⟨rfl, rfl, rfl, by decide +kernel, rfl, by decide +kernel, by decide +kernel⟩
theorem fr_set {H : Hp} {p : Addr} {a b c : Int} : Fr p H (upd H p (.lst [.int a, .int b, .int c])) := ⟨fun _ _ e n => by rw [upd_ne n]; exact e, dice3 upd_same⟩
theorem mod_r {x : Int} {n : Nat} (h : 0 < n) : ∃ r : Nat, x % (n : Int) = r ∧ r < n := by
  have h1 := Int.emod_nonneg x (b := n) (by omega)
  have h2 := Int.emod_lt_of_pos x (b := n) (by omega)
  exact ⟨(x % (n : Int)).toNat, by omega, by omega⟩
theorem ok_roll {f : Addr} {fd : FuncData} (D : Df K mg "_law_roll" d_roll f fd) (T : Nm mg) : Cal P w K mg base "_law_roll" 1 ["_law_dice_here", "_law_total"] spRoll := by
  refine D.cal (D.F.ok sc_roll (fun vs H Q E h => ?_) (fun cdv A outer s H vs Q E hr h => ?_)) fun _ _ _ _ _ _ us hl => match us, hl with | [_, _], _ => rfl
  · obtain ⟨p, n, rfl, _⟩ := h
    rfl
  · obtain ⟨p, n, rfl, ⟨d0, d1, d2, hd⟩, h0, h1, k⟩ := h
    have nd := sc_roll.nd
    refine ⟨_, pss_cons (ps_if (pt_cmp (pc_gt (pe_ix ix_list (pv 0) pe_int (fun _ _ => rfl)) pe_int))
        (pss_cons (ps_set (i := 2) nd rfl (.inl rfl) (pe_op op_mod (pe_callTy call_int1 (by rfl) T.int boot_int (pa_cons (pe_ix ix_list (pv 0) pe_int (fun _ _ => rfl)) pa_nil)) (pv 1)))
          (pss_cons (ps_asg (pe_op op_fdiv (pe_ix ix_list (pv 0) pe_int (fun _ _ => rfl)) (pv 1)) (pg_sub (pv 0) pe_int set_list)) (pss_one (ps_ret (pv 2))))) pss_nil)
      (pss_cons (ps_asg (pe_op op_add (pe_ix ix_list (pv 0) pe_int (fun _ _ => rfl)) pe_int) (pg_sub (pv 0) pe_int set_list))
      (pss_cons (ps_set (i := 3) nd rfl (.inl rfl) (pe_op op_mod (pe_callTy call_int1 (by rfl) T.int boot_int (pa_cons (pe_op op_add (pe_ix ix_list (pv 0) pe_int (fun _ _ => rfl)) (pe_op op_mul pe_int (pe_ix ix_list (pv 0) pe_int (fun _ _ => rfl)))) pa_nil)) pe_int))
      (pss_cons (ps_set (i := 4) nd rfl (.inl rfl) (pe_op op_add (pe_op op_mul (pe_op op_mod (pe_callTy call_int1 (by rfl) T.int boot_int (pa_cons (pe_op op_add (pe_op op_mul (pv 3) (pv 3)) (pe_op op_mul pe_int (pe_ix ix_list (pv 0) pe_int (fun _ _ => rfl)))) pa_nil)) pe_int) pe_int) (pv 3)))
      (pss_one (ps_ret (pe_op op_mod (pe_callTy call_int1 (by rfl) T.int boot_int (pa_cons (pe_op op_fdiv (pv 4) pe_int) pa_nil)) (pv 1))))))), ?_⟩
    have hn : (0 : Int) < n := by omega
    have kr : ∀ (x : Int) (H' : Hp), Fr p H H' → Q (.int (x % n)) H' := fun x H' f => by
      obtain ⟨r, e1, e2⟩ := mod_r (x := x) h0
      rw [e1]
      exact k H' r f e2
    refine ⟨_, rfl, p, _, 0, .int d0, rfl, rfl, SqL.of hd, rfl, _, _, rfl, rfl, ?_⟩
    refine ⟨_, rfl, iteB (fun e => ?_) (fun e => ?_)⟩
    · refine ⟨_, rfl, p, _, 0, .int d0, rfl, rfl, SqL.of hd, rfl, .inl ⟨_, rfl, _, rfl, _, _, rfl, rfl, hn, ?_⟩⟩
      refine ⟨_, rfl, p, _, 0, .int d0, rfl, rfl, SqL.of hd, rfl, _, rfl, _, _, rfl, rfl, ⟨hn, by show (n : Int) < 1073741824; omega⟩, ?_⟩
      refine ⟨_, rfl, p, _, 0, 0, rfl, rfl, hd, rfl, ?_⟩
      exact ⟨_, rfl, kr _ _ fr_set⟩
    · have f1 : Fr p H (upd H p (.lst [.int d0, .int d1, .int (d2 + 1)])) := fr_set
      have h1' : upd H p (.lst [.int d0, .int d1, .int (d2 + 1)]) p = some (.lst [.int d0, .int d1, .int (d2 + 1)]) := upd_same
      refine ⟨_, rfl, p, _, 2, .int d2, rfl, rfl, SqL.of hd, rfl, _, _, rfl, rfl, ?_⟩
      refine ⟨_, rfl, p, _, 2, 2, rfl, rfl, hd, rfl, ?_⟩
      refine ⟨_, rfl, p, _, 1, .int d1, rfl, rfl, SqL.of h1', rfl, _, rfl, p, _, 2, .int (d2 + 1), rfl, rfl, SqL.of h1', rfl, _, _, rfl, rfl, .inl ⟨by decide, by decide⟩, _, _, rfl, rfl, .inl ⟨_, rfl, _, _, rfl, rfl, (by show (0 : Int) < 2305843009213693613; decide), ?_⟩⟩
      have g1 := Int.emod_nonneg (d1 + 104395301 * (d2 + 1)) (b := 2305843009213693613) (by decide)
      have g2 := Int.emod_lt_of_pos (d1 + 104395301 * (d2 + 1)) (b := 2305843009213693613) (by decide)
      refine ⟨_, rfl, _, rfl, _, _, rfl, rfl, .inl ⟨by omega, by omega⟩, _, rfl, p, _, 2, .int (d2 + 1), rfl, rfl, SqL.of h1', rfl, _, _, rfl, rfl, .inl ⟨by decide, by decide⟩, _, _, rfl, rfl, .inl ⟨_, rfl, _, _, rfl, rfl, (by show (0 : Int) < 2305843009213693519; decide), ?_⟩⟩
      refine ⟨_, _, rfl, rfl, .inr ⟨by decide, by decide⟩, _, rfl, _, _, rfl, rfl, ?_⟩
      refine ⟨_, rfl, _, _, rfl, rfl, ⟨by decide, by decide⟩, .inl ⟨_, rfl, _, rfl, _, _, rfl, rfl, hn, ?_⟩⟩
      exact kr _ _ f1
end
end K8
set_option Elab.async false
set_option linter.all false
set_option maxRecDepth 100000
set_option maxHeartbeats 4000000
namespace K8
open PySem L2 SlX K8S
open PyProof.Rows (boot_int boot_bool boot_str boot_isinstance boot_min boot_max boot_abs boot_enumerate boot_tuple boot_list)
section
theorem erase_perm {α : Type} : ∀ (l : List α) (i : Nat) (x : α), l[i]? = some x → (x :: l.eraseIdx i).Perm l
  | [], _, _, h => by cases h
  | a :: l, 0, x, h => by cases h; exact List.Perm.refl _
  | a :: l, i + 1, x, h => (List.Perm.swap a x _).trans ((erase_perm l i x h).cons a)
theorem erase_map {α β : Type} (f : α → β) : ∀ (l : List α) (i : Nat), (l.map f).eraseIdx i = (l.eraseIdx i).map f
  | [], _ => rfl
  | a :: l, 0 => rfl
  | a :: l, i + 1 => by
    show f a :: (l.map f).eraseIdx i = _
    rw [erase_map f l i]; rfl
theorem erase_len {α : Type} {l : List α} {i : Nat} {x : α} (h : l[i]? = some x) : (l.eraseIdx i).length + 1 = l.length := (erase_perm l i x h).length_eq
/-- a text of one sign -/
def one (c : Nat) : Str := ⟨#[c]⟩
theorem join_ones : ∀ cs : List Nat, cod (Txt.join Str.empty (cs.map one)) = cs := by
  intro cs
  rw [show Txt.join Str.empty (cs.map one) = Str.join Str.empty (cs.map one) from PySem.StrLaws.glued_eq_join _ _]
  induction cs with
  | nil => rfl
  | cons c cs ih =>
    cases cs with
    | nil => rfl
    | cons d ds =>
      show cod (one c ++ Str.empty ++ Str.join Str.empty ((d :: ds).map one)) = _
      rw [cod_add, cod_add, ih]; rfl
theorem Fr.upd {p x : Addr} {H H1 : Hp} {o : HO} (f : Fr p H H1) (h : H x = none) (n : x ≠ p) : Fr p H (upd H1 x o) := by
  obtain ⟨a, b, c, e⟩ := f.2
  refine ⟨fun c o e hc => ?_, a, b, c, ?_⟩
  · rw [upd_ne (ne_of_none e h)]
    exact f.1 c o e hc
  · rw [upd_ne n.symm]; exact e
theorem DiceAt.ne {p x : Addr} {H : Hp} (d : DiceAt H p) (h : H x = none) : x ≠ p := fun e => by
  obtain ⟨a, b, c, g⟩ := d
  rw [← e, h] at g; cases g
variable {P : Program} {w : World} {K : PySem.W.Frag} {mg : Str → Option Value} {base : Heap} {CS CW : Addr}
/-! ### mixed -/
def spMixed : Sp := fun vs H Q _ => ∃ (p l : Addr) (cs : List Nat), vs = [.ref p, .ref l] ∧ DiceAt H p ∧ H l = some (.lst (cs.map fun c => V.str (one c))) ∧ cs.length ≤ 1000 ∧
  ∀ (H' : Hp) (m : Addr) (ds : List Nat), Fr p H H' → ds.Perm cs → H' m = some (.lst (ds.map fun c => V.str (one c))) → Q (.ref m) H'
theorem sc_mixed : FnScope ["_law_dice_here", "_law_items", "_law_left", "_law_found", "_law_turn_here"] ["_law_dice_here", "_law_items"] (defScope d_mixed) := ⟨rfl, rfl, rfl, by decide +kernel, rfl, by decide +kernel, by decide +kernel⟩
theorem ok_mixed {f : Addr} {fd : FuncData} (D : Df K mg "_law_mixed" d_mixed f fd) (T : Nm mg) (C : Cal P w K mg base "_law_roll" 1 ["_law_dice_here", "_law_total"] spRoll) : Cal P w K mg base "_law_mixed" 2 ["_law_dice_here", "_law_items"] spMixed := by
  refine D.cal (D.F.ok sc_mixed (fun vs H Q E h => ?_) (fun cdv A outer s H vs Q E hr h => ?_)) fun _ _ _ _ _ _ us hl => match us, hl with | [_, _], _ => rfl
  · obtain ⟨p, l, cs, rfl, _⟩ := h
    rfl
  · obtain ⟨p, l, cs, rfl, hd, hl, few, k⟩ := h
    have nd := sc_mixed.nd
    refine ⟨_, pss_cons (ps_par (i := 2) (j := 3) rfl nd rfl rfl (by decide) rfl rfl (pa_cons (pe_callTy call_list_of (by rfl) T.list boot_list (pa_cons (pv 1) pa_nil)) (pa_cons (pe_lst pa_nil) pa_nil)) (by rfl))
      (pss_cons (ps_for PassesOwn.never rfl (pi_range1 (by rfl) T.range (pa_cons (pe_callB call_len_seq (by rfl) T.len PySem.boot_len (pa_cons (pv 1) pa_nil)) pa_nil)) (pg_name (i := 4) nd rfl (.inl rfl))
        (pss_one (ps_expr (pe_bm PySem.F.plainAttrs_list PySem.F.slot_list_append PySem.F.type_list_append mt_append (pv 3) (pa_cons
          (pe_bm PySem.F.plainAttrs_list PySem.F.slot_list_pop PySem.F.type_list_pop mt_popAt (pv 2) (pa_cons (pe_cal C hr (by rfl) (pa_cons (pv 0) (pa_cons (pe_callB call_len_seq (by rfl) T.len PySem.boot_len (pa_cons (pv 2) pa_nil)) pa_nil))) pa_nil)) pa_nil)))))
      (pss_one (ps_ret (pv 3)))), ?_⟩
    refine ⟨_, rfl, l, _, rfl, .inl (SqL.of hl), fun L hL => ⟨Nat.zero_le _, fun M hM => ⟨_, _, rfl, ?_⟩⟩⟩
    have nL := hd.ne hL
    have ML : M ≠ L := fun e => by rw [e, upd_same] at hM; cases hM
    have hM' : H M = none := by rw [upd_ne ML] at hM; exact hM
    have nM := hd.ne hM'
    have f0 : Fr p H (upd (upd H L (.lst (cs.map fun c => V.str (one c)))) M (.lst [])) := ((Fr.refl hd).upd hL nL).upd hM' nM
    have el : upd (upd H L (.lst (cs.map fun c => V.str (one c)))) M (.lst []) l = some (.lst (cs.map fun c => V.str (one c))) := Same.upd' (Same.upd hL) hM _ _ hl
    have elen : (cs.map fun c => V.str (one c)).length = cs.length := List.length_map _
    refine ⟨_, rfl, l, _, rfl, .inl (SqL.of el), _, rfl, by omega, by omega, for_it walk_range (fun i σ H' => ∃ (lc yc : List Nat) (v : Option V), σ = [some (.ref p), some (.ref l), some (.ref L), some (.ref M), v] ∧ Fr p H H' ∧
      H' L = some (.lst (lc.map fun c => V.str (one c))) ∧ H' M = some (.lst (yc.map fun c => V.str (one c))) ∧ (yc ++ lc).Perm cs ∧ lc.length + i = cs.length) ⟨cs, [], none, rfl, f0, by rw [upd_ne ML.symm, upd_same], upd_same, List.Perm.refl _, rfl⟩ (fun _ _ _ _ _ => trivial) ?_ ?_⟩
    · rintro i x σ H1 H2 hi ⟨lc, yc, v, rfl, fr, eL, eM, pm, ln⟩ ⟨rfl, rfl⟩
      have hi' : i < cs.length := by omega
      have eln : (lc.map fun c => V.str (one c)).length = lc.length := List.length_map _
      refine ⟨_, rfl, .inl ⟨rfl, _, SqL.of eM⟩, _, rfl, .inl ⟨rfl, _, SqL.of eL⟩, _, rfl, _, rfl, L, _, rfl, .inl (SqL.of eL), p, _, rfl, fr.2, by omega, by omega, fun H3 r f3 hr => ?_⟩
      have eL3 := f3.1 _ _ eL nL
      have eM3 := f3.1 _ _ eM nM
      have hr' : r < lc.length := by omega
      have gr : lc[r]? = some lc[r] := List.getElem?_eq_getElem hr'
      have gr' : (lc.map fun c => V.str (one c))[r]? = some (V.str (one lc[r])) := by rw [List.getElem?_map, gr]; rfl
      have pl := pm.length_eq
      rw [List.length_append] at pl
      refine ⟨L, _, _, r, _, rfl, rfl, eL3, by omega, by omega, by rw [PySem.seqIndex_of (by omega) (by omega)]; rfl, gr', ?_⟩
      refine ⟨M, _, _, rfl, rfl, by rw [upd_ne ML]; exact eM3, by rw [List.length_map, sizeLine_eq]; omega, ?_⟩
      refine ⟨lc.eraseIdx r, yc ++ [lc[r]], _, rfl, ((fr.trans f3).upd hL nL).upd hM' nM, ?_, ?_, ?_, ?_⟩
      · rw [upd_ne ML.symm, upd_same, erase_map]
      · rw [upd_same, List.map_append]; rfl
      · rw [List.append_assoc]
        exact ((erase_perm lc r _ gr).append_left yc).trans pm
      · have := erase_len gr
        omega
    · rintro σ H1 ⟨lc, yc, v, rfl, fr, eL, eM, pm, ln⟩
      have e0 : lc = [] := List.length_eq_zero_iff.mp (by omega)
      rw [e0, List.append_nil] at pm
      exact ⟨_, rfl, k _ M yc fr pm eM⟩
end
end K8
set_option Elab.async false
set_option linter.all false
set_option maxRecDepth 100000
set_option maxHeartbeats 4000000
namespace K8
open PySem L2 SlX K8S
open PyProof.Rows (boot_int boot_bool boot_str boot_isinstance boot_min boot_max boot_abs boot_enumerate boot_tuple boot_list)
section
variable {P : Program} {w : World} {K : PySem.W.Frag} {mg : Str → Option Value} {base : Heap} {CS CW : Addr}
/-! ### _law_levels -/
def spLevelsL : Sp := fun vs H Q _ => ∃ (a b : Nat) (z : Str), vs = [.int a, .int b, .str z] ∧ z.length ≤ 1000 ∧
  ∀ (H' : Hp) (l : Addr), Same H H' → H l = none → H' l = some (.lst ((levels a b (cod z)).map V.int)) → Q (.ref l) H'
theorem sc_levelsL : FnScope ["_law_rises", "_law_steps", "_law_text", "_law_found", "_law_level", "_law_sign"] ["_law_rises", "_law_steps", "_law_text"] (defScope d_levels) := ⟨rfl, rfl, rfl, by decide +kernel, rfl, by decide +kernel, by decide +kernel⟩
theorem ok_levelsL {f : Addr} {fd : FuncData} (D : Df K mg "_law_levels" d_levels f fd) (T : Nm mg) : Cal P w K mg base "_law_levels" 1 ["_law_rises", "_law_steps", "_law_text"] spLevelsL := by
  refine D.cal (D.F.ok sc_levelsL (fun vs H Q E h => ?_) (fun cdv A outer s H vs Q E hr h => ?_)) fun _ _ _ _ _ _ us hl => match us, hl with | [_, _, _], _ => rfl
  · obtain ⟨a, b, z, rfl, _⟩ := h
    rfl
  · obtain ⟨a, b, z, rfl, hz, k⟩ := h
    have nd := sc_levelsL.nd
    refine ⟨_, pss_cons (ps_par (i := 3) (j := 4) rfl nd rfl rfl (by decide) rfl rfl (pa_cons (pe_lst pa_nil) (pa_cons pe_int pa_nil)) (by rfl))
      (pss_cons (ps_for PassesOwn.never rfl (pi_str (pv 2)) (pg_name (i := 5) nd rfl (.inl rfl))
        (pss_cons (ps_expr (pe_bm PySem.F.plainAttrs_list PySem.F.slot_list_append PySem.F.type_list_append mt_append (pv 3) (pa_cons (pv 4) pa_nil)))
          (pss_one (ps_set (i := 4) nd rfl (.inl rfl) (pe_op op_add (pv 4) (pe_ifExp (pt_cmpR op_eq (pv 5) pe_str (nomark _)) (pv 1) (pe_un un_neg (pv 0))))))))
      (pss_one (ps_ret (pv 3)))), ?_⟩
    refine ⟨Nat.zero_le _, fun l hl => ⟨_, _, rfl, ?_⟩⟩
    refine ⟨_, rfl, z, rfl, for_it walk_str (fun i σ H' => ∃ v : Option V, σ = [some (.int a), some (.int b), some (.str z), some (.ref l), some (.int (ht a b ((cod z).take i))), v] ∧ CI H l (((levels a b (cod z)).take i).map V.int) H')
      ⟨none, rfl, CI.start hl⟩ (fun _ _ _ _ _ => trivial) ?_ ?_⟩
    · rintro i x σ H1 H2 hi ⟨v, rfl, ci⟩ ⟨rfl, c, hc, rfl⟩
      have hi' : i < (cod z).length := by rw [Array.length_toList]; exact hi
      have hc' : (cod z)[i]? = some c := by rw [Array.getElem?_toList]; exact hc
      obtain ⟨e1, e2, c2⟩ := ci.push (y := .int (ht a b ((cod z).take i))) hl (Same.refl _) (by rw [List.length_map, List.length_take]; rw [cod_len] at hz; omega)
      refine ⟨_, rfl, .inl ⟨rfl, _, SqL.of e1⟩, _, rfl, l, _, _, rfl, rfl, e1, e2, ?_⟩
      have nx := ht_next (a := (a : Int)) (b := (b : Int)) hc'
      have lx := levels_next (a := (a : Int)) (b := (b : Int)) hi'
      have ci' : CI H l (((levels a b (cod z)).take (i + 1)).map V.int) (upd H2 l (.lst (((levels a b (cod z)).take i).map V.int ++ [V.int (ht a b ((cod z).take i))]))) := by
        rw [lx, List.map_append]; exact c2
      refine ⟨_, rfl, _, rfl, rfl, _, rfl, iteB (fun e => ?_) (fun e => ?_)⟩
      · have ec : c = 114 := sign_r.mp e
        have es : stp (a : Int) (b : Int) c = b := by rw [ec]; rfl
        rw [es] at nx
        refine ⟨_, rfl, _, _, rfl, rfl, ?_⟩
        exact ⟨some (.str ⟨#[c]⟩), by rw [nx]; rfl, ci'⟩
      · have ec : ¬ c = 114 := fun q => e (sign_r.mpr q)
        have es : stp (a : Int) (b : Int) c = -(a : Int) := if_neg ec
        rw [es] at nx
        refine ⟨_, rfl, _, rfl, _, _, rfl, rfl, ?_⟩
        exact ⟨some (.str ⟨#[c]⟩), by rw [nx]; rfl, ci'⟩
    · rintro σ H1 ⟨v, rfl, ci⟩
      have el : (levels a b (cod z)).take z.cps.size = levels a b (cod z) := by
        have := levels_all a b (cod z)
        rw [Array.length_toList] at this; exact this
      rw [el] at ci
      exact ⟨_, rfl, k _ l ci.1 hl ci.2⟩
/-! ### _law_sides -/
def spSides : Sp := fun vs H Q _ => ∃ (p : Addr) (m : Nat), vs = [.ref p, .int m] ∧ DiceAt H p ∧ 0 < m ∧ m ≤ 9 ∧
  ∀ (H' : Hp) (t : Addr) (a b : Nat), Fr p H H' → 0 < a → a ≤ m + 3 → 0 < b → b ≤ m + 3 → H' t = some (.tup [.int a, .int b]) → Q (.ref t) H'
theorem sc_sides : FnScope ["_law_dice_here", "_law_most", "_law_rises", "_law_steps", "_law_times"] ["_law_dice_here", "_law_most"] (defScope d_sides) := ⟨rfl, rfl, rfl, by decide +kernel, rfl, by decide +kernel, by decide +kernel⟩
theorem side_up {x t m : Nat} (h : x ≤ m) (t0 : 2 ≤ t) (t1 : t ≤ 3) : 0 < (x / t + 1) * t ∧ (x / t + 1) * t ≤ m + 3 := by
  have h1 := Nat.div_mul_le_self x t
  rw [Nat.add_mul, Nat.one_mul]
  omega
theorem ok_sides {f : Addr} {fd : FuncData} (D : Df K mg "_law_sides" d_sides f fd) (C : Cal P w K mg base "_law_roll" 1 ["_law_dice_here", "_law_total"] spRoll) : Cal P w K mg base "_law_sides" 2 ["_law_dice_here", "_law_most"] spSides := by
  refine D.cal (D.F.ok sc_sides (fun vs H Q E h => ?_) (fun cdv A outer s H vs Q E hr h => ?_)) fun _ _ _ _ _ _ us hl => match us, hl with | [_, _], _ => rfl
  · obtain ⟨p, m, rfl, _⟩ := h
    rfl
  · obtain ⟨p, m, rfl, hd, m0, m1, k⟩ := h
    have nd := sc_sides.nd
    refine ⟨_, pss_cons (ps_par (i := 2) (j := 3) rfl nd rfl rfl (by decide) rfl rfl (pa_cons (pe_op op_add pe_int (pe_cal C hr (by rfl) (pa_cons (pv 0) (pa_cons (pv 1) pa_nil)))) (pa_cons (pe_op op_add pe_int (pe_cal C hr (by rfl) (pa_cons (pv 0) (pa_cons (pv 1) pa_nil)))) pa_nil)) (by rfl))
      (pss_cons (ps_if (pt_cmpR op_eq (pe_cal C hr (by rfl) (pa_cons (pv 0) (pa_cons pe_int pa_nil))) pe_int (nomark _))
        (pss_cons (ps_set (i := 4) nd rfl (.inl rfl) (pe_op op_add pe_int (pe_cal C hr (by rfl) (pa_cons (pv 0) (pa_cons pe_int pa_nil)))))
          (pss_one (ps_ret (pe_tup (pa_cons (pe_op op_mul (pe_op op_add (pe_op op_fdiv (pv 2) (pv 4)) pe_int) (pv 4)) (pa_cons (pe_op op_mul (pe_op op_add (pe_op op_fdiv (pv 3) (pv 4)) pe_int) (pv 4)) pa_nil)))))) pss_nil)
      (pss_one (ps_ret (pe_tup (pa_cons (pv 2) (pa_cons (pv 3) pa_nil)))))), ?_⟩
    refine ⟨_, rfl, _, rfl, p, m, rfl, hd, m0, by omega, fun H1 x f1 hx => ?_⟩
    refine ⟨_, _, rfl, rfl, _, rfl, _, rfl, p, m, rfl, f1.2, m0, by omega, fun H2 y f2 hy => ?_⟩
    refine ⟨_, _, rfl, rfl, _, _, rfl, ?_⟩
    refine ⟨_, rfl, p, 3, rfl, f2.2, by decide, by decide, fun H3 u f3 hu => ?_⟩
    have f13 := (f1.trans f2).trans f3
    refine ⟨rfl, _, rfl, iteB (fun e => ?_) (fun e => ?_)⟩
    · refine ⟨_, rfl, p, 2, rfl, f3.2, by decide, by decide, fun H4 v f4 hv => ?_⟩
      refine ⟨_, _, rfl, rfl, ?_⟩
      have f14 := f13.trans f4
      have d1 : CDiv (1 + (x : Int)) (2 + (v : Int)) := ⟨by omega, by omega⟩
      have d2 : CDiv (1 + (y : Int)) (2 + (v : Int)) := ⟨by omega, by omega⟩
      refine ⟨_, rfl, _, rfl, _, _, rfl, rfl, d1, _, _, rfl, rfl, _, rfl, _, _, rfl, rfl, .inr ⟨by omega, by omega⟩, ?_⟩
      refine ⟨_, rfl, _, rfl, _, _, rfl, rfl, d2, _, _, rfl, rfl, _, rfl, _, _, rfl, rfl, .inr ⟨by omega, by omega⟩, ?_⟩
      refine ⟨by show 2 ≤ sizeLine; decide, fun t ht => ?_⟩
      have g1 := side_up (x := 1 + x) (t := 2 + v) (m := m) (by omega) (by omega) (by omega)
      have g2 := side_up (x := 1 + y) (t := 2 + v) (m := m) (by omega) (by omega) (by omega)
      refine k _ t ((1 + x) / (2 + v) + 1 |>.mul (2 + v)) ((1 + y) / (2 + v) + 1 |>.mul (2 + v)) (f14.same (Same.upd ht)) g1.1 g1.2 g2.1 g2.2 ?_
      rw [upd_same]
      have ca : ∀ x v : Nat, ((1 + (x : Int)) / (2 + (v : Int)) + 1) * (2 + (v : Int)) = ((((1 + x) / (2 + v) + 1).mul (2 + v) : Nat) : Int) := fun x v => by
        show _ = ((((1 + x) / (2 + v) + 1) * (2 + v) : Nat) : Int)
        push_cast
        rfl
      rw [← ca, ← ca]
    · refine ⟨_, rfl, _, rfl, by show 2 ≤ sizeLine; decide, fun t ht => ?_⟩
      exact k _ t (1 + x) (1 + y) (f13.same (Same.upd ht)) (by omega) (by omega) (by omega) (by omega) (by rw [upd_same, Int.natCast_add, Int.natCast_add]; rfl)
/-! ### _law_word -/
theorem wd_perm {a b : Nat} {u v : List Nat} (h : Wd a b u) (p : v.Perm u) : Wd a b v := ⟨by rw [p.count_eq]; exact h.r, by rw [p.count_eq]; exact h.s, by rw [p.length_eq]; exact h.n⟩
theorem wd_plain (a b : Nat) : Wd a b (List.replicate a 114 ++ List.replicate b 115) := by
  constructor
  · rw [List.count_append, List.count_replicate, List.count_replicate]; simp
  · rw [List.count_append, List.count_replicate, List.count_replicate]; simp
  · rw [List.length_append, List.length_replicate, List.length_replicate]
theorem ones_len : ∀ ds : List Nat, ((ds.map one).map (·.length)).sum = ds.length
  | [] => rfl
  | d :: ds => by
    rw [List.map_cons, List.map_cons, List.sum_cons, ones_len ds, List.length_cons, Nat.add_comm]; rfl
def spWord : Sp := fun vs H Q _ => ∃ (p : Addr) (a b : Nat), vs = [.ref p, .int a, .int b] ∧ DiceAt H p ∧ a ≤ 100 ∧ b ≤ 100 ∧
  ∀ (H' : Hp) (z : Str), Fr p H H' → Wd a b (cod z) → Q (.str z) H'
theorem sc_word : FnScope ["_law_dice_here", "_law_rises", "_law_steps"] ["_law_dice_here", "_law_rises", "_law_steps"] (defScope d_word) := ⟨rfl, rfl, rfl, by decide +kernel, rfl, by decide +kernel, by decide +kernel⟩
theorem ok_word {f : Addr} {fd : FuncData} (D : Df K mg "_law_word" d_word f fd) (T : Nm mg) (C : Cal P w K mg base "_law_mixed" 2 ["_law_dice_here", "_law_items"] spMixed) : Cal P w K mg base "_law_word" 3 ["_law_dice_here", "_law_rises", "_law_steps"] spWord := by
  refine D.cal (D.F.ok sc_word (fun vs H Q E h => ?_) (fun cdv A outer s H vs Q E hr h => ?_)) fun _ _ _ _ _ _ us hl => match us, hl with | [_, _, _], _ => rfl
  · obtain ⟨p, a, b, rfl, _⟩ := h
    rfl
  · obtain ⟨p, a, b, rfl, hd, ha, hb, k⟩ := h
    refine ⟨_, pss_one (ps_ret (pe_join pe_str (pe_cal C hr (by rfl) (pa_cons (pv 0) (pa_cons (pe_callTy (K8R.cr_listS rfl) (by rfl) T.list boot_list (pa_cons (pe_op op_add_str (pe_op K8R.op_mulS pe_str (pv 1)) (pe_op K8R.op_mulS pe_str (pv 2))) pa_nil)) pa_nil))))), ?_⟩
    refine ⟨⟨_, rfl⟩, _, rfl, _, rfl, _, a, rfl, rfl, by decide, by omega, fun za ea => ?_⟩
    refine ⟨_, rfl, _, b, rfl, rfl, by decide, by omega, fun zb eb => ?_⟩
    have ca : cod za = List.replicate a 114 := by
      show za.cps.toList = _
      rw [ea, str_r]
      exact List.flatten_replicate_singleton
    have cb : cod zb = List.replicate b 115 := by
      show zb.cps.toList = _
      rw [eb, str_s]
      exact List.flatten_replicate_singleton
    have la : za.length = a := by rw [cod_len, ca, List.length_replicate]
    have lb : zb.length = b := by rw [cod_len, cb, List.length_replicate]
    refine ⟨za, zb, rfl, rfl, by rw [sizeLine_eq]; omega, za ++ zb, rfl, by rw [cod_len, cod_add, List.length_append, ← cod_len, ← cod_len]; omega, fun L hL => ?_⟩
    refine ⟨p, L, cod (za ++ zb), rfl, ?_, upd_same, by rw [cod_add, List.length_append, ← cod_len, ← cod_len]; omega, fun H2 m ds f pm em => ?_⟩
    · obtain ⟨x, y, z, e⟩ := hd
      exact ⟨x, y, z, Same.upd hL _ _ e⟩
    · have wd : Wd a b ds := wd_perm (by rw [cod_add, ca, cb]; exact wd_plain a b) pm
      refine ⟨_, m, ds.map one, rfl, rfl, .inl (by rw [List.map_map]; exact SqL.of em), ?_, ?_⟩
      · have l0 : ("" : Str).length = 0 := by decide +kernel
        have ld := wd.n
        rw [l0, ones_len]
        omega
      · refine k H2 _ (Fr.trans ((Fr.refl hd).upd hL (hd.ne hL)) f) ?_
        rw [show ("" : Str) = Str.empty by decide +kernel, join_ones]
        exact wd
/-! ### _law_turn -/
theorem sc_turnL : FnScope ["_law_text", "_law_times"] ["_law_text", "_law_times"] (defScope d_turn) := ⟨rfl, rfl, rfl, by decide +kernel, rfl, by decide +kernel, by decide +kernel⟩
theorem ok_turnL {f : Addr} {fd : FuncData} (D : Df K mg "_law_turn" d_turn f fd) : Cal P w K mg base "_law_turn" 1 ["_law_text", "_law_times"] spTurn := by
  refine D.cal (D.F.ok sc_turnL (fun vs H Q E h => ?_) (fun cdv A outer s H vs Q E hr h => ?_)) fun _ _ _ _ _ _ us hl => match us, hl with | [_, _], _ => rfl
  · obtain ⟨z, n, rfl, _⟩ := h
    rfl
  · obtain ⟨z, n, rfl, hz, k⟩ := h
    refine ⟨_, pss_one (ps_ret (pe_op op_add_str (pe_slice sl_str (pv 0) (po_some (pv 1)) po_none) (pe_slice sl_str (pv 0) po_none (po_some (pv 1))))), ?_⟩
    have c1 := cutS_length z (some (n : Int)) none
    have c2 := cutS_length z none (some (n : Int))
    have hz' : z.length ≤ sizeLine := by rw [sizeLine_eq]; omega
    refine ⟨_, rfl, _, rfl, _, rfl, z, rfl, hz', _, rfl, _, rfl, _, rfl, z, rfl, hz', _, _, rfl, rfl, by rw [sizeLine_eq]; omega, ?_⟩
    rw [tur_eq]
    exact k
/-! ### _law_period -/
def spPeriod : Sp := fun vs H Q _ => ∃ z : Str, vs = [.str z] ∧ cod z ≠ [] ∧ z.length ≤ 1000 ∧ ∀ (H' : Hp) (p : Nat), Same H H' → Per (cod z) p → Q (.int p) H'
theorem sc_period : FnScope ["_law_text", "_law_times"] ["_law_text"] (defScope d_period) := ⟨rfl, rfl, rfl, by decide +kernel, rfl, by decide +kernel, by decide +kernel⟩
theorem str_dec {x y : Str} : V.str x = V.str y ↔ cod x = cod y := ⟨fun h => by injection h with h; rw [h], fun h => by rw [cod_ext h]⟩
theorem ok_period {f : Addr} {fd : FuncData} (D : Df K mg "_law_period" d_period f fd) (T : Nm mg) (C : Cal P w K mg base "_law_turn" 1 ["_law_text", "_law_times"] spTurn) : Cal P w K mg base "_law_period" 2 ["_law_text"] spPeriod := by
  refine D.cal (D.F.ok sc_period (fun vs H Q E h => ?_) (fun cdv A outer s H vs Q E hr h => ?_)) fun _ _ _ _ _ _ us hl => match us, hl with | [_], _ => rfl
  · obtain ⟨z, rfl, _⟩ := h
    rfl
  · obtain ⟨z, rfl, nz, hz, k⟩ := h
    have nd := sc_period.nd
    refine ⟨_, pss_one (ps_ret (pe_callB (cr_min rfl) (by rfl) T.min boot_min (pa_cons
      (pe_lc (own := [("_law_times", 1)]) (g := gName 1) (tt := tTest (tOp rEq (tCall spTurn [] E0 (tCons (tVar 0) (tCons (tVar 1) tNil))) (tVar 0))) (te := tVar 1) rfl nd
        (pi_range2 (by rfl) T.range (pa_cons pe_int (pa_cons (pe_op op_add (pe_callB call_len_str (by rfl) T.len PySem.boot_len (pa_cons (pv 0) pa_nil)) pe_int) pa_nil)))
          (blkOk_by (N := ["_law_text", "_law_times"]) (own := [("_law_times", 1)]) (sc := defScope d_period) (by decide +kernel))
          (fun _ _ _ _ _ => pg_name (i := 1) nd rfl (Or.inl rfl)) (fun _ _ _ _ _ => pts_one (pt_cmpR op_eq (pe_cal C hr (by rfl) (pa_cons (pv 0) (pa_cons (pv 1) pa_nil))) (pv 0) (nomark _))) (fun _ _ _ _ _ => pv 1)) pa_nil))), ?_⟩
    refine ⟨_, rfl, z, rfl, by rw [sizeLine_eq]; omega, _, _, rfl, rfl, _, _, rfl, ⟨by decide, by decide, by omega, by omega⟩, fun L hL => ?_⟩
    have l0 : 0 < (cod z).length := List.length_pos_iff.mpr nz
    have lz : z.length = (cod z).length := cod_len z
    refine lc_it walk_range (fun i H' => CI H L (((List.range i).filter fun j => decide (turn (cod z) (j + 1) = cod z)).map fun j => V.int (((j + 1 : Nat) : Int))) H') (CI.start hL) (fun _ _ _ _ => trivial) ?_ ?_
    · rintro i x H2 H3 hi ci ⟨rfl, rfl⟩
      have en : (1 : Int) + (i : Nat) = ((i + 1 : Nat) : Int) := by omega
      refine ⟨rfl, _, rfl, _, rfl, z, i + 1, by show [V.str z, V.int (1 + (i : Nat))] = _; rw [en], hz, _, rfl, rfl, _, rfl, iteB (fun e => ?_) (fun e => ?_)⟩
      · have e' : turn (cod z) (i + 1) = cod z := str_dec.mp e
        obtain ⟨p1, p2, p3⟩ := ci.push (y := .int (1 + (i : Nat))) hL (Same.refl _) (by
          rw [List.length_map]; have := List.length_filter_le (fun j => decide (turn (cod z) (j + 1) = cod z)) (List.range i)
          rw [List.length_range] at this; omega)
        refine ⟨_, rfl, _, p1, p2, ?_⟩
        rw [filt_next, if_pos (decide_eq_true e'), List.map_append, List.map_cons, List.map_nil, ← en]
        exact p3
      · have e' : ¬ turn (cod z) (i + 1) = cod z := fun q => e (str_dec.mpr q)
        rw [filt_next, if_neg (by rw [decide_eq_false e']; exact Bool.false_ne_true), List.append_nil]
        exact ci
    · intro H2 ci
      have en : ((z.length : Int) + 1 - 1).toNat = z.length := by omega
      rw [en] at ci
      have hm : ∀ m : Int, m ∈ ((List.range z.length).filter fun j => decide (turn (cod z) (j + 1) = cod z)).map (fun j => ((j + 1 : Nat) : Int)) ↔ ∃ j, j < z.length ∧ turn (cod z) (j + 1) = cod z ∧ m = ((j + 1 : Nat) : Int) := fun m => by
        rw [List.mem_map]
        constructor
        · rintro ⟨j, hj, rfl⟩
          rw [List.mem_filter, List.mem_range] at hj
          exact ⟨j, hj.1, of_decide_eq_true hj.2, rfl⟩
        · rintro ⟨j, h1, h2, rfl⟩
          exact ⟨j, List.mem_filter.mpr ⟨List.mem_range.mpr h1, decide_eq_true h2⟩, rfl⟩
      have last : ((z.length - 1 + 1 : Nat) : Int) ∈ ((List.range z.length).filter fun j => decide (turn (cod z) (j + 1) = cod z)).map (fun j => ((j + 1 : Nat) : Int)) :=
        (hm _).mpr ⟨z.length - 1, by omega, by rw [show z.length - 1 + 1 = (cod z).length by omega]; exact turn_all _, rfl⟩
      refine ⟨L, ((List.range z.length).filter fun j => decide (turn (cod z) (j + 1) = cod z)).map (fun j => ((j + 1 : Nat) : Int)), rfl, ?_, List.length_pos_of_mem last, fun m h1 h2 => ?_⟩
      · rw [List.map_map]; exact SqL.of ci.2
      · obtain ⟨j, j1, j2, rfl⟩ := (hm m).mp h1
        refine k H2 (j + 1) ci.1 ⟨by omega, by omega, j2, fun t t0 tj q => ?_⟩
        have := h2 ((t - 1 + 1 : Nat) : Int) ((hm _).mpr ⟨t - 1, by omega, by rw [show t - 1 + 1 = t by omega]; exact q, rfl⟩)
        omega
/-! ### _law_way_turns -/
def spWayTurns : Sp := fun vs H Q _ => ∃ (a b : Nat) (z : Str), vs = [.int a, .int b, .str z] ∧ z.length ≤ 1000 ∧
  ∀ (H' : Hp) (l : Addr), Same H H' → H l = none → H' l = some (.lst (lowV a b z)) → Q (.ref l) H'
theorem sc_wayTurns : FnScope ["_law_rises", "_law_steps", "_law_text", "_law_found", "_law_times"] ["_law_rises", "_law_steps", "_law_text"] (defScope d_wayTurns) := ⟨rfl, rfl, rfl, by decide +kernel, rfl, by decide +kernel, by decide +kernel⟩
theorem ok_wayTurns {f : Addr} {fd : FuncData} (D : Df K mg "_law_way_turns" d_wayTurns f fd) (T : Nm mg) (C1 : Cal P w K mg base "_law_turn" 1 ["_law_text", "_law_times"] spTurn) (C2 : Cal P w K mg base "_law_levels" 1 ["_law_rises", "_law_steps", "_law_text"] spLevelsL) :
    Cal P w K mg base "_law_way_turns" 2 ["_law_rises", "_law_steps", "_law_text"] spWayTurns := by
  refine D.cal (D.F.ok sc_wayTurns (fun vs H Q E h => ?_) (fun cdv A outer s H vs Q E hr h => ?_)) fun _ _ _ _ _ _ us hl => match us, hl with | [_, _, _], _ => rfl
  · obtain ⟨a, b, z, rfl, _⟩ := h
    rfl
  · obtain ⟨a, b, z, rfl, hz, k⟩ := h
    have nd := sc_wayTurns.nd
    refine ⟨_, pss_cons (ps_set (i := 3) nd rfl (.inl rfl) (pe_lst pa_nil))
      (pss_cons (ps_for PassesOwn.never rfl (pi_range1 (by rfl) T.range (pa_cons (pe_callB call_len_str (by rfl) T.len PySem.boot_len (pa_cons (pv 2) pa_nil)) pa_nil)) (pg_name (i := 4) nd rfl (.inl rfl))
        (pss_one (ps_if (pt_cmp (pc_ge (pe_callB (cr_min rfl) (by rfl) T.min boot_min (pa_cons (pe_cal C2 hr (by rfl) (pa_cons (pv 0) (pa_cons (pv 1) (pa_cons (pe_cal C1 hr (by rfl) (pa_cons (pv 2) (pa_cons (pv 4) pa_nil))) pa_nil)))) pa_nil)) pe_int))
          (pss_one (ps_expr (pe_bm PySem.F.plainAttrs_list PySem.F.slot_list_append PySem.F.type_list_append mt_append (pv 3) (pa_cons (pv 4) pa_nil)))) pss_nil)))
      (pss_one (ps_ret (pv 3)))), ?_⟩
    refine ⟨Nat.zero_le _, fun L hL => ?_⟩
    have lz : z.length = (cod z).length := cod_len z
    refine ⟨_, rfl, z, rfl, by rw [sizeLine_eq]; omega, _, rfl, by omega, by omega, for_it walk_range (fun i σ H' => ∃ v : Option V, σ = [some (.int a), some (.int b), some (.str z), some (.ref L), v] ∧
      CI H L (((List.range i).filter fun j => decide (Up a b (turn (cod z) j))).map fun j => V.int (j : Nat)) H') ⟨none, rfl, CI.start hL⟩ (fun _ _ _ _ _ => trivial) ?_ ?_⟩
    · rintro i x σ H1 H2 hi ⟨v, rfl, ci⟩ ⟨rfl, rfl⟩
      have en : (0 : Int) + (i : Nat) = (i : Nat) := by omega
      refine ⟨_, rfl, _, rfl, _, rfl, _, rfl, z, i, by show [V.str z, V.int (0 + (i : Nat))] = _; rw [en], hz, ?_⟩
      refine ⟨a, b, tur z i, rfl, by rw [tur_len]; exact hz, fun H3 l s3 hl h3 => ?_⟩
      refine ⟨l, _, rfl, SqL.of h3, ?_, fun m h1 h2 => ?_⟩
      · rw [levels_len, cod_tur, turn_len]; omega
      · refine ⟨_, _, rfl, rfl, ?_⟩
        have iff : Up a b (turn (cod z) i) ↔ m ≥ 0 := ⟨fun u => u m h1, fun h y hy => by
          have := h2 y hy
          omega⟩
        refine ⟨_, rfl, iteB (fun e => ?_) (fun e => ?_)⟩
        · obtain ⟨p1, p2, p3⟩ := ci.push (y := .int (0 + (i : Nat))) hL s3 (by
            rw [List.length_map]; have := List.length_filter_le (fun j => decide (Up a b (turn (cod z) j))) (List.range i)
            rw [List.length_range] at this; omega)
          refine ⟨_, rfl, .inl ⟨rfl, _, SqL.of p1⟩, _, rfl, L, _, _, rfl, rfl, p1, p2, _, rfl, ?_⟩
          rw [filt_next, if_pos (decide_eq_true (iff.mpr e)), List.map_append, List.map_cons, List.map_nil, ← en]
          exact p3
        · refine ⟨_, rfl, ?_⟩
          rw [filt_next, if_neg (by rw [decide_eq_false (fun q => e (iff.mp q))]; exact Bool.false_ne_true), List.append_nil]
          exact ci.keep s3
    · rintro σ H1 ⟨v, rfl, ci⟩
      rw [show ((z.length : Int)).toNat = (cod z).length by omega] at ci
      exact ⟨_, rfl, k H1 L ci.1 hL ci.2⟩
end
end K8
set_option Elab.async false
set_option linter.all false
set_option maxRecDepth 100000
set_option maxHeartbeats 4000000
namespace K8
open PySem L2 SlX K8S
open PyProof.Rows (boot_int boot_bool boot_str boot_isinstance boot_min boot_max boot_abs boot_enumerate boot_tuple boot_list)
section
/-! ### flat values as data -/
def okD : V → Prop
  | .non => True
  | .int _ => True
  | .str x => PyData.strOk x = true
  | _ => False
def toD : V → PyData
  | .int i => .int i
  | .str x => .str x
  | _ => .none
theorem dp_of {K : PySem.W.Frag} {H : Hp} : ∀ {v : V}, okD v → Dp K H v (toD v)
  | .non, _ => .non
  | .int _, _ => .int _
  | .str _, _ => .str _
theorem dp_all {K : PySem.W.Frag} {H : Hp} : ∀ {xs : List V}, (∀ x ∈ xs, okD x) → DpAll K H xs (xs.map toD)
  | [], _ => .nil
  | x :: xs, h => .cons (dp_of (h x List.mem_cons_self)) (dp_all fun y hy => h y (List.mem_cons_of_mem _ hy))
theorem lay_one : ∀ {v : V}, okD v → (toD v).canLay0 = true
  | .non, _ => rfl
  | .int _, _ => rfl
  | .str _, h => h
theorem depth_one : ∀ v : V, (toD v).depth = 0 := fun v => by cases v <;> rfl
theorem lay_all : ∀ {xs : List V}, (∀ x ∈ xs, okD x) → PyData.canLayAll0 (xs.map toD) = true
  | [], _ => rfl
  | x :: xs, h => by
    show ((toD x).canLay0 && PyData.canLayAll0 (xs.map toD)) = true
    rw [lay_one (h x List.mem_cons_self), lay_all fun y hy => h y (List.mem_cons_of_mem _ hy)]; rfl
theorem depth_all : ∀ xs : List V, PyData.depthAll (xs.map toD) = 0
  | [] => rfl
  | x :: xs => by
    show max (toD x).depth (PyData.depthAll (xs.map toD)) = 0
    rw [depth_one, depth_all xs]; rfl
theorem shaped_l {xs : List V} (h : ∀ x ∈ xs, okD x) : SeqAt.shaped (.list (xs.map toD)) = true := by
  show (PyData.canLayAll0 (xs.map toD) && decide (PyData.depthAll (xs.map toD) + 1 ≤ 64)) = true
  rw [lay_all h, depth_all]; rfl
theorem shaped_t {xs : List V} (h : ∀ x ∈ xs, okD x) : SeqAt.shaped (.tuple (xs.map toD)) = true := by
  show (PyData.canLayAll0 (xs.map toD) && decide (PyData.depthAll (xs.map toD) + 1 ≤ 64)) = true
  rw [lay_all h, depth_all]; rfl
theorem dp_l {K : PySem.W.Frag} {H : Hp} {a : Addr} {xs : List V} (e : SqL K H a xs) (h : ∀ x ∈ xs, okD x) : Dp K H (.ref a) (.list (xs.map toD)) := .lst e (dp_all h)
theorem dp_t {K : PySem.W.Frag} {H : Hp} {a : Addr} {xs : List V} (e : SqT K H a xs) (h : ∀ x ∈ xs, okD x) : Dp K H (.ref a) (.tuple (xs.map toD)) := .tup e (dp_all h)
theorem eq_ll {xs : List V} (h : ∀ x ∈ xs, okD x) : PyData.eqv (.list (xs.map toD)) (.list (xs.map toD)) = true := SeqAt.eqv_refl _ (SeqAt.canLay_of_shaped (shaped_l h))
theorem eq_tt {xs : List V} (h : ∀ x ∈ xs, okD x) : PyData.eqv (.tuple (xs.map toD)) (.tuple (xs.map toD)) = true := SeqAt.eqv_refl _ (SeqAt.canLay_of_shaped (shaped_t h))
theorem ok_ints {l : List Nat} : ∀ x ∈ (l.map fun i => V.int (i : Nat)), okD x := fun x h => by
  obtain ⟨i, _, rfl⟩ := List.mem_map.mp h
  trivial
theorem two_count : ∀ w : List Nat, w.count 114 + w.count 115 + (w.filter fun c => decide (c ≠ 114) && decide (c ≠ 115)).length = w.length
  | [] => rfl
  | c :: w => by
    have ih := two_count w
    by_cases h1 : c = 114
    · subst h1
      rw [List.count_cons_self, List.count_cons_of_ne (by decide), List.filter_cons_of_neg (by decide), List.length_cons]; omega
    · by_cases h2 : c = 115
      · subst h2
        rw [List.count_cons_self, List.count_cons_of_ne (by decide), List.filter_cons_of_neg (by decide), List.length_cons]; omega
      · rw [List.count_cons_of_ne h1, List.count_cons_of_ne h2, List.filter_cons_of_pos (by simp [h1, h2]), List.length_cons, List.length_cons]; omega
theorem Wd.two {a b : Nat} {w : List Nat} (h : Wd a b w) : ∀ c ∈ w, c = 114 ∨ c = 115 := fun c hc => by
  have t := two_count w
  rw [h.r, h.s, h.n] at t
  have e : (w.filter fun c => decide (c ≠ 114) && decide (c ≠ 115)) = [] := List.length_eq_zero_iff.mp (by omega)
  have := List.filter_eq_nil_iff.mp e c hc
  simp only [ne_eq, decide_not, Bool.and_eq_true, Bool.not_eq_true', decide_eq_false_iff_not, not_and, Decidable.not_not] at this
  by_cases h1 : c = 114
  · exact .inl h1
  · exact .inr (this h1)
theorem Wd.ok {a b : Nat} {z : Str} (h : Wd a b (cod z)) : PyData.strOk z = true := by
  unfold PyData.strOk
  rw [Array.all_eq_true']
  intro c hc
  rcases h.two c (by simpa using hc) with e | e <;> rw [e] <;> decide
theorem ok_strs {a b : Nat} {z : Str} {l : List Nat} {ys : List Str} (h : Wd a b (cod z)) (u : Up1 (turs z l) ys) : ∀ x ∈ ys.map V.str, okD x := fun x hx => by
  obtain ⟨y, hy, rfl⟩ := List.mem_map.mp hx
  obtain ⟨k, _, e⟩ := List.mem_map.mp ((u.mem y).mp hy)
  show PyData.strOk y = true
  rw [← e]
  exact Wd.ok (a := a) (b := b) (h.turn k)
end
end K8
set_option Elab.async false
set_option linter.all false
set_option maxRecDepth 100000
set_option maxHeartbeats 4000000
namespace K8
open PySem L2 SlX K8S
open PyProof.Rows (boot_int boot_bool boot_str boot_isinstance boot_min boot_max boot_abs boot_enumerate boot_tuple boot_list)
section
theorem iteNot {b : Bool} {A B : Prop} (h : b = true) (k : B) : if (!b) = true then A else B := by rw [h]; exact k
theorem ok_first : ∀ l : List Nat, okD (firstV l)
  | [] => trivial
  | _ :: _ => trivial
theorem first_if {K : PySem.W.Frag} {H : Hp} {l : Addr} {hs : List Nat} {Q : VK} {σ : L2.St} {j : Nat} (hσ : σ[j]? = some (some (V.ref l))) (e : H l = some (.lst (hs.map fun i => V.int (i : Nat)))) (k : Q (firstV hs) H) :
    if (!PyData.eqv (.list ((hs.map fun i => V.int (i : Nat)).map toD)) (.list (([] : List V).map toD))) = true then tOp (rIxL K) (tVar j) (tC (.int 0)) σ H Q else tC .non σ H Q := by
  cases hs with
  | nil => exact k
  | cons i r => exact ⟨_, hσ, l, _, 0, _, rfl, rfl, SqL.of e, atI_nat (j := 0) rfl, k⟩
theorem hits_next {t z : Str} {i : Nat} : ((List.range (i + 1)).filter fun k => decide (turn (cod t) k = cod z)) = ((List.range i).filter fun k => decide (turn (cod t) k = cod z)) ++ if decide (turn (cod t) i = cod z) = true then [i] else [] := filt_next
variable {P : Program} {w : World} {K : PySem.W.Frag} {mg : Str → Option Value} {base : Heap} {CS CW : Addr}
def spIsWay (CS CW : Addr) : Sp := fun vs H Q _ => ∃ (p q : Addr) (a b : Nat) (t z : Str), vs = [.ref p, .str t, .ref q] ∧ SlopeAt CS H p a b ∧ WayAt CW H q p z ∧ Wd a b (cod t) ∧ Wd a b (cod z) ∧ cod t ≠ [] ∧ t.length < 64 ∧
  ∀ H' : Hp, Same H H' → Q (.bl true) H'
abbrev NW : List Str := ["_law_slope", "_law_text", "_law_way", "_law_rises", "_law_steps", "_law_size", "_law_words", "_law_due", "_law_other", "_law_far", "_law_times"]
theorem sc_isWay : FnScope NW ["_law_slope", "_law_text", "_law_way"] (defScope d_isWayRight) := ⟨rfl, rfl, rfl, by decide +kernel, rfl, by decide +kernel, by decide +kernel⟩
theorem ok_isWay {f : Addr} {fd : FuncData} (D : Df K mg "_law_is_way_right" d_isWayRight f fd) (T : Nm mg) (SS : SlopeK K mg CS) (S : WayK K mg CW)
    (R1 : Prp P w K mg base CS "rises" (spRises CS)) (R2 : Prp P w K mg base CS "steps" (spSteps CS)) (R3 : Prp P w K mg base CW "text" (spWayText CW))
    (C1 : Cal P w K mg base "_law_turn" 1 ["_law_text", "_law_times"] spTurn) (C2 : Cal P w K mg base "_law_levels" 1 ["_law_rises", "_law_steps", "_law_text"] spLevelsL)
    (C3 : Cal P w K mg base "words_of" 2 ["way"] (spWords CW)) (C4 : Cal P w K mg base "touch_count" 2 ["way"] (spTouch CS CW)) (C5 : Cal P w K mg base "turn_to" 3 ["way", "text"] (spTurnTo CS CW)) :
    Cal P w K mg base "_law_is_way_right" 4 ["_law_slope", "_law_text", "_law_way"] (spIsWay CS CW) := by
  refine D.cal (D.F.ok sc_isWay (fun vs H Q E h => ?_) (fun cdv A outer s H vs Q E hr h => ?_)) fun _ _ _ _ _ _ us hl => match us, hl with | [_, _, _], _ => rfl
  · obtain ⟨p, q, a, b, t, z, rfl, _⟩ := h
    rfl
  · obtain ⟨p, q, a, b, t, z, rfl, hs, hw, wt, wz, nz, h64, k⟩ := h
    have nd := sc_isWay.nd
    refine ⟨_, pss_cons (ps_par3 (i := 3) (j := 4) (l := 5) rfl nd rfl rfl rfl (by decide) (by decide) (by decide) rfl rfl rfl (pa_cons (pe_prp (pv 0) SS.cls R1 hr) (pa_cons (pe_prp (pv 0) SS.cls R2 hr)
        (pa_cons (pe_callB call_len_str (by rfl) T.len PySem.boot_len (pa_cons (pe_prp (pv 2) S.cls R3 hr) pa_nil)) pa_nil))) (by rfl))
      (pss_cons (ps_setLc (i := 6) (own := [("_law_times", 10)]) (g := gName 10) (tt := tYes) (te := tCall spTurn [] E0 (tCons (tPropSl CW (spWayText CW) E0 (tVar 2)) (tCons (tVar 10) tNil))) rfl nd rfl rfl (by rfl)
        (pi_range1 (by rfl) T.range (pa_cons (pv 5) pa_nil)) (blkOk_by (N := NW) (own := [("_law_times", 10)]) (sc := defScope d_isWayRight) (by decide +kernel))
        (fun _ _ _ _ _ => pg_name (i := 10) nd rfl (Or.inl rfl)) (fun _ _ _ _ _ => pts_nil) (fun _ _ _ _ _ => pe_cal C1 hr (by rfl) (pa_cons (pe_prp (pv 2) S.cls R3 hr) (pa_cons (pv 10) pa_nil))))
      (pss_cons (ps_if (pt_cmpR (op_neD hr.units) (pe_cal C3 hr (by rfl) (pa_cons (pv 2) pa_nil))
          (pe_callTy call_tuple_of (by rfl) T.tuple boot_tuple (pa_cons (pe_callB (cr_sortedSS rfl) (by rfl) T.sorted PyProof.Rows.boot_sorted (pa_cons (pe_callTy (cr_setS rfl) (by rfl) T.set PyProof.Rows.boot_set (pa_cons (pv 6) pa_nil)) pa_nil)) pa_nil)) (nomark _))
        (pss_one (ps_ret pe_bl)) pss_nil)
      (pss_cons (ps_if (pt_cmpR op_ne (pe_cal C4 hr (by rfl) (pa_cons (pv 2) pa_nil))
          (pe_bm PySem.F.plainAttrs_list PySem.F.slot_list_count PySem.F.type_list_count mt_lcount (pe_cal C2 hr (by rfl) (pa_cons (pv 3) (pa_cons (pv 4) (pa_cons (pe_prp (pv 2) S.cls R3 hr) pa_nil)))) (pa_cons pe_int pa_nil)) (nomark _))
        (pss_one (ps_ret pe_bl)) pss_nil)
      (pss_cons (ps_setLc (i := 7) (own := [("_law_times", 10)]) (g := gName 10) (tt := tTest (tOp rEq (tCall spTurn [] E0 (tCons (tVar 1) (tCons (tVar 10) tNil))) (tPropSl CW (spWayText CW) E0 (tVar 2)))) (te := tVar 10) rfl nd rfl rfl (by rfl)
        (pi_range1 (by rfl) T.range (pa_cons (pv 5) pa_nil)) (blkOk_by (N := NW) (own := [("_law_times", 10)]) (sc := defScope d_isWayRight) (by decide +kernel))
        (fun _ _ _ _ _ => pg_name (i := 10) nd rfl (Or.inl rfl)) (fun _ _ _ _ _ => pts_one (pt_cmpR op_eq (pe_cal C1 hr (by rfl) (pa_cons (pv 1) (pa_cons (pv 10) pa_nil))) (pe_prp (pv 2) S.cls R3 hr) (nomark _))) (fun _ _ _ _ _ => pv 10))
      (pss_cons (ps_set (i := 8) nd rfl (.inr rfl) (K8R.pe_revS (pv 1)))
      (pss_cons (ps_setLc (i := 9) (own := [("_law_times", 10)]) (g := gName 10) (tt := tTest (tOp rEq (tCall spTurn [] E0 (tCons (tVar 8) (tCons (tVar 10) tNil))) (tPropSl CW (spWayText CW) E0 (tVar 2)))) (te := tVar 10) rfl nd rfl rfl (by rfl)
        (pi_range1 (by rfl) T.range (pa_cons (pv 5) pa_nil)) (blkOk_by (N := NW) (own := [("_law_times", 10)]) (sc := defScope d_isWayRight) (by decide +kernel))
        (fun _ _ _ _ _ => pg_name (i := 10) nd rfl (Or.inl rfl)) (fun _ _ _ _ _ => pts_one (pt_cmpR op_eq (pe_cal C1 hr (by rfl) (pa_cons (pv 8) (pa_cons (pv 10) pa_nil))) (pe_prp (pv 2) S.cls R3 hr) (nomark _))) (fun _ _ _ _ _ => pv 10))
      (pss_one (ps_ret (pe_cmpR (op_eqD hr.units) (pe_lst (pa_cons (pe_cal C5 hr (by rfl) (pa_cons (pv 2) (pa_cons (pv 1) pa_nil))) (pa_cons (pe_cal C5 hr (by rfl) (pa_cons (pv 2) (pa_cons (pv 8) pa_nil))) pa_nil))) (pe_lst (pa_cons (pe_ifExp (pt_cmpR (op_neD hr.units) (pv 7) (pe_lst pa_nil) (nomark _)) (pe_ix ix_list (pv 7) pe_int (fun _ _ => rfl)) pe_non) (pa_cons (pe_ifExp (pt_cmpR (op_neD hr.units) (pv 9) (pe_lst pa_nil) (nomark _)) (pe_ix ix_list (pv 9) pe_int (fun _ _ => rfl)) pe_non) pa_nil))) (nomark _)))))))))), ?_⟩
    obtain ⟨dx, g, sl⟩ := hs.slt
    obtain ⟨dw, ky, slw⟩ := hw.slt
    have lz : z.length = t.length := by rw [cod_len, cod_len, wt.n, wz.n]
    have hz : z.length ≤ 1000 := by omega
    have ht : t.length ≤ 1000 := by omega
    refine ⟨_, rfl, p, _, _, rfl, sl, p, a, b, rfl, hs, _, rfl, p, _, _, rfl, sl, p, a, b, rfl, hs, _, rfl, q, _, _, rfl, slw, q, p, z, rfl, hw, z, rfl, by rw [sizeLine_eq]; omega, _, _, _, rfl, ?_⟩
    refine ⟨_, rfl, _, rfl, by omega, by omega, fun L hL => ?_⟩
    refine lc_it walk_range (fun i H' => CI H L ((turs z ((List.range z.length).take i)).map V.str) H') (CI.start hL) (fun _ _ _ _ => trivial) ?_ ?_
    · rintro i x H2 H3 hi ci ⟨rfl, rfl⟩
      have hi' : i < z.length := by omega
      have ge : (List.range z.length)[i]? = some i := List.getElem?_range hi'
      have hw' := hw.same ci.1
      obtain ⟨dw', ky', slw'⟩ := hw'.slt
      refine ⟨rfl, _, rfl, q, _, _, rfl, slw', q, p, z, rfl, hw', _, rfl, z, i, by show [V.str z, V.int (0 + (i : Int))] = _; rw [Int.zero_add], hz, ?_⟩
      obtain ⟨p1, p2, p3⟩ := ci.push (y := .str (tur z i)) hL (Same.refl _) (by
        rw [List.length_map, turs_len, List.length_take, List.length_range]; omega)
      refine ⟨_, p1, p2, ?_⟩
      rw [take_next ge]
      unfold turs
      rw [List.map_append, List.map_append]
      exact p3
    · intro H2 ci
      have e0 : (List.range z.length).take ((z.length : Int) : Int).toNat = List.range z.length := by
        rw [Int.toNat_natCast]
        exact List.take_of_length_le (by rw [List.length_range]; exact Nat.le_refl _)
      rw [e0] at ci
      have few : (turs z (List.range z.length)).length < 64 := by rw [turs_len, List.length_range]; omega
      refine ⟨_, rfl, q, p, z, rfl, hw.same ci.1, by omega, fun H3 T1 ys s3 up e1 => ?_⟩
      have c3 := ci.keep s3
      refine ⟨_, rfl, L, _, rfl, SqL.of c3.2, few, fun sp hsp => ?_⟩
      refine ⟨sp, _, rfl, upd_same, few, fun ys2 l2 up2 hl2 => ?_⟩
      refine ⟨l2, _, rfl, .inl ⟨SqL.of upd_same, fun t2 ht2 => ?_⟩⟩
      have ee : ys2 = ys := up2.uniq up fun _ => Iff.rfl
      subst ee
      have s4 := Same.upd' (o := .tup (ys2.map V.str)) (Same.upd' (o := .lst (ys2.map V.str)) (Same.upd (o := SetS P w (turs z (List.range z.length)) sp) hsp) hl2) ht2
      have oks := ok_strs wz up
      refine ⟨_, _, dp_t (SqT.of (s4 _ _ e1)) oks, dp_t (SqT.of upd_same) oks, shaped_t oks, shaped_t oks, _, rfl, iteNot (eq_tt oks) ?_⟩
      have s04 : Same H _ := L2.Same.trans c3.1 s4
      refine ⟨_, rfl, q, p, a, b, z, rfl, hw.same s04, hs.same s04, hz, fun H5 s5 => ?_⟩
      have s05 := L2.Same.trans s04 s5
      have hw5 := hw.same s05
      obtain ⟨dw5, ky5, slw5⟩ := hw5.slt
      refine ⟨_, rfl, _, rfl, _, rfl, q, _, _, rfl, slw5, q, p, z, rfl, hw5, a, b, z, rfl, hz, fun H6 l6 s6 hl6 h6 => ?_⟩
      refine ⟨.inl ⟨rfl, _, SqL.of h6⟩, l6, _, 0, rfl, rfl, SqL.of h6, rfl, _, rfl, iteNS rfl ?_⟩
      have s06 := L2.Same.trans s05 s6
      refine ⟨_, rfl, _, rfl, by omega, by omega, fun D1 hD1 => ?_⟩
      refine lc_it walk_range (fun i H' => CI H6 D1 (((List.range i).filter fun k => decide (turn (cod t) k = cod z)).map fun i => V.int (i : Nat)) H') (CI.start hD1) (fun _ _ _ _ => trivial) ?_ ?_
      · rintro i x Ha Hb hi ci ⟨rfl, rfl⟩
        have hi' : i < z.length := by omega
        have hwa := hw.same (L2.Same.trans s06 ci.1)
        obtain ⟨dwa, kya, slwa⟩ := hwa.slt
        have en : (0 : Int) + (i : Nat) = (i : Nat) := by omega
        refine ⟨rfl, _, rfl, _, rfl, t, i, by show [V.str t, V.int (0 + (i : Int))] = _; rw [en], ht, _, rfl, q, _, _, rfl, slwa, q, p, z, rfl, hwa, rfl, _, rfl, iteB (fun e => ?_) (fun e => ?_)⟩
        · have e' : turn (cod t) i = cod z := str_dec.mp e
          obtain ⟨p1, p2, p3⟩ := ci.push (y := .int (0 + (i : Nat))) hD1 (Same.refl _) (by
            rw [List.length_map]; have := List.length_filter_le (fun k => decide (turn (cod t) k = cod z)) (List.range i)
            rw [List.length_range] at this; omega)
          refine ⟨_, rfl, _, p1, p2, ?_⟩
          rw [hits_next, if_pos (decide_eq_true e'), List.map_append, List.map_cons, List.map_nil, ← en]
          exact p3
        · have e' : ¬ turn (cod t) i = cod z := fun q => e (str_dec.mpr q)
          rw [hits_next, if_neg (by rw [decide_eq_false e']; exact Bool.false_ne_true), List.append_nil]
          exact ci
      · intro H7 c7
        rw [show ((z.length : Int)).toNat = t.length by omega] at c7
        refine ⟨_, rfl, t, rfl, ht, fun r er => ?_⟩
        have wr : Wd a b (cod r) := by
          show Wd a b r.cps.toList
          rw [er]; exact wt.rev
        have lr : r.length = t.length := by rw [cod_len, cod_len, wr.n, wt.n]
        have nzr : cod r ≠ [] := fun e => nz (List.length_eq_zero_iff.mp (by rw [wt.n, ← wr.n, e]; rfl))
        have s07 := L2.Same.trans s06 c7.1
        refine ⟨_, rfl, _, rfl, by omega, by omega, fun D2 hD2 => ?_⟩
        refine lc_it walk_range (fun i H' => CI H7 D2 (((List.range i).filter fun k => decide (turn (cod r) k = cod z)).map fun i => V.int (i : Nat)) H') (CI.start hD2) (fun _ _ _ _ => trivial) ?_ ?_
        · rintro i x Ha Hb hi ci ⟨rfl, rfl⟩
          have hi' : i < z.length := by omega
          have hwa := hw.same (L2.Same.trans s07 ci.1)
          obtain ⟨dwa, kya, slwa⟩ := hwa.slt
          have en : (0 : Int) + (i : Nat) = (i : Nat) := by omega
          refine ⟨rfl, _, rfl, _, rfl, r, i, by show [V.str r, V.int (0 + (i : Int))] = _; rw [en], by omega, _, rfl, q, _, _, rfl, slwa, q, p, z, rfl, hwa, rfl, _, rfl, iteB (fun e => ?_) (fun e => ?_)⟩
          · have e' : turn (cod r) i = cod z := str_dec.mp e
            obtain ⟨p1, p2, p3⟩ := ci.push (y := .int (0 + (i : Nat))) hD2 (Same.refl _) (by
              rw [List.length_map]; have := List.length_filter_le (fun k => decide (turn (cod r) k = cod z)) (List.range i)
              rw [List.length_range] at this; omega)
            refine ⟨_, rfl, _, p1, p2, ?_⟩
            rw [hits_next, if_pos (decide_eq_true e'), List.map_append, List.map_cons, List.map_nil, ← en]
            exact p3
          · have e' : ¬ turn (cod r) i = cod z := fun q => e (str_dec.mpr q)
            rw [hits_next, if_neg (by rw [decide_eq_false e']; exact Bool.false_ne_true), List.append_nil]
            exact ci
        · intro H8 c8
          rw [show ((z.length : Int)).toNat = r.length by omega] at c8
          have s08 := L2.Same.trans s07 c8.1
          have hw8 := hw.same s08
          have hs8 := hs.same s08
          refine ⟨_, rfl, _, rfl, q, p, a, b, z, t, rfl, hw8, hs8, wt, nz, lz, ht, _, rfl, _, rfl, q, p, a, b, z, r, rfl, hw8, hs8, wr, nzr, by omega, by omega, (by show 2 ≤ sizeLine; decide), fun M1 hM1 => ?_⟩
          have t1 : Same H8 (upd H8 M1 (.lst [firstV (hits t z), firstV (hits r z)])) := Same.upd hM1
          refine ⟨_, rfl, Nat.zero_le _, fun N1 hN1 => ?_⟩
          have t2 : Same H8 (upd (upd H8 M1 (.lst [firstV (hits t z), firstV (hits r z)])) N1 (.lst [])) := Same.upd' t1 hN1
          refine ⟨_, _, dp_l (SqL.of (t2 _ _ (c8.1 _ _ c7.2))) ok_ints, dp_l (xs := []) (SqL.of upd_same) (fun _ h => by cases h), shaped_l ok_ints, shaped_l (xs := []) (fun _ h => by cases h), _, rfl, ?_⟩
          refine first_if (j := 7) rfl (t2 _ _ (c8.1 _ _ c7.2)) ?_
          refine ⟨_, rfl, Nat.zero_le _, fun N2 hN2 => ?_⟩
          have t3 := Same.upd' (o := .lst []) t2 hN2
          refine ⟨_, _, dp_l (SqL.of (t3 _ _ c8.2)) ok_ints, dp_l (xs := []) (SqL.of upd_same) (fun _ h => by cases h), shaped_l ok_ints, shaped_l (xs := []) (fun _ h => by cases h), _, rfl, ?_⟩
          refine first_if (j := 9) rfl (t3 _ _ c8.2) ?_
          refine ⟨(by show 2 ≤ sizeLine; decide), fun M2 hM2 => ?_⟩
          have t4 := Same.upd' (o := .lst [firstV (hits t z), firstV (hits r z)]) t3 hM2
          have okf : ∀ x ∈ [firstV (hits t z), firstV (hits r z)], okD x := fun x hx => by
            rcases List.mem_cons.mp hx with e | hx
            · rw [e]; exact ok_first _
            · rcases List.mem_cons.mp hx with e | hx
              · rw [e]; exact ok_first _
              · cases hx
          have m1 : Same (upd H8 M1 (.lst [firstV (hits t z), firstV (hits r z)])) _ := Same.upd' (o := .lst [firstV (hits t z), firstV (hits r z)]) (Same.upd' (o := .lst []) (Same.upd (o := .lst []) hN1) hN2) hM2
          refine ⟨_, _, dp_l (SqL.of (m1 _ _ upd_same)) okf, dp_l (SqL.of upd_same) okf, shaped_l okf, shaped_l okf, ?_⟩
          have fin := k _ (L2.Same.trans s08 t4)
          rw [← eq_ll okf] at fin
          exact fin
end
end K8
set_option Elab.async false
set_option linter.all false
set_option maxRecDepth 100000
set_option maxHeartbeats 4000000
namespace K8
open PySem L2 SlX K8S
open PyProof.Rows (boot_int boot_bool boot_str boot_isinstance boot_min boot_max boot_abs boot_enumerate boot_tuple boot_list)
section
variable {P : Program} {w : World} {K : PySem.W.Frag} {mg : Str → Option Value} {base : Heap} {CS CW : Addr}
/-- != of two slopes -/
structure NeK (P : Program) (w : World) (K : PySem.W.Frag) (mg : Str → Option Value) (base : Heap) (CS g : Addr) : Prop where
  ne : PySem.W.findIn K (.ref CS) "__ne__" = some (some (.builtin "object.__ne__"))
  ob : PySem.W.mroIn K CS (.type "object") = some true
  eq : PySem.W.findIn K (.ref CS) "__eq__" = some (some (.ref g))
  fn : PySem.W.isFn K (.ref g) = true
  run : FnR P w K mg base CX0 1 g (spSlopeEq CS)
theorem NeK.op {X : Cx} {CS g : Addr} {j : Nat} (N : NeK X.prog X.w X.K X.mg X.base CS g) (hr : Room j X.A) (h : 2 ≤ j := by decide) : OpR X (compareOp .NotEq) (rNeSl CS (spSlopeEq CS) E0) :=
  op_neSl N.ne N.ob N.eq N.fn N.run (hr.mono h) (fun _ _ _ _ z => z)
theorem ne_slopes {H : Hp} {p q : Addr} {a b : Nat} {Q : VK} (h1 : SlopeAt CS H p a b) (h2 : SlopeAt CS H q a b) (k : Q (.bl false) H) : rNeSl CS (spSlopeEq CS) E0 (.ref p) (.ref q) H Q := by
  obtain ⟨dx, g, s1⟩ := h1.slt
  obtain ⟨dy, g', s2⟩ := h2.slt
  exact ⟨p, dx, _, q, dy, _, rfl, rfl, s1, s2, p, q, a, b, rfl, h1, h2, true, rfl, k⟩
/-- the ways' count is what the period asks -/
theorem among_count {a b : Nat} {z : Str} {ys : List Str} {p : Nat} (P : Per (cod z) p) (u : Up1 (turs z (ups a b (cod z))) ys) : ys.length * z.length = (ups a b (cod z)).length * p := by
  have h := count_turns P (fun v => decide (Up a b v)) (ys.map cod) ?_ ?_
  · rw [List.length_map] at h
    rw [cod_len]; exact h
  · rw [List.nodup_iff_pairwise_ne, List.pairwise_map]
    exact u.nd.imp fun h e => h (cod_ext e)
  · intro x
    rw [List.mem_map]
    constructor
    · rintro ⟨y, hy, rfl⟩
      obtain ⟨k, hk, rfl⟩ := List.mem_map.mp ((u.mem y).mp hy)
      have := ups_get hk
      exact ⟨k, this.1, decide_eq_true this.2, rfl⟩
    · rintro ⟨k, h1, h2, rfl⟩
      refine ⟨tur z k, (u.mem _).mpr (List.mem_map.mpr ⟨k, ?_, rfl⟩), rfl⟩
      unfold ups
      exact List.mem_filter.mpr ⟨List.mem_range.mpr h1, h2⟩
def spWordRight : Sp := fun vs H Q _ => ∃ (a b : Nat) (z : Str), vs = [.int a, .int b, .str z] ∧ 1 ≤ a ∧ a ≤ 60 ∧ 1 ≤ b ∧ b ≤ 60 ∧ Wd a b (cod z) ∧ z.length < 64 ∧ ∀ H' : Hp, Same H H' → Q (.bl true) H'
abbrev NR : List Str := ["_law_rises", "_law_steps", "_law_text", "_law_slope", "_law_turns", "_law_place", "_law_way", "_law_found", "_law_touches", "_law_one", "_law_times"]
theorem sc_wordRight : FnScope NR ["_law_rises", "_law_steps", "_law_text"] (defScope d_wordRight) := ⟨rfl, rfl, rfl, by decide +kernel, rfl, by decide +kernel, by decide +kernel⟩
theorem ok_wordRight {f g : Addr} {fd : FuncData} (D : Df K mg "_law_word_right" d_wordRight f fd) (T : Nm mg) (SS : SlopeK K mg CS) (S : WayK K mg CW)
    (M : Mkr P w K mg base "Slope" CS 4 ["self", "rises", "steps"] (spSlopeInit CS)) (N : NeK P w K mg base CS g)
    (R3 : Prp P w K mg base CW "text" (spWayText CW)) (R4 : Prp P w K mg base CW "slope" (spWaySlope CW))
    (C1 : Cal P w K mg base "_law_turn" 1 ["_law_text", "_law_times"] spTurn) (C2 : Cal P w K mg base "_law_way_turns" 2 ["_law_rises", "_law_steps", "_law_text"] spWayTurns)
    (C3 : Cal P w K mg base "way_of" 5 ["slope", "text"] (spWayOf CS CW)) (C4 : Cal P w K mg base "ways_among" 5 ["slope", "text"] (spAmong CS CW)) (C5 : Cal P w K mg base "_law_period" 2 ["_law_text"] spPeriod)
    (C6 : Cal P w K mg base "lowest_places" 4 ["slope", "text"] (spPlaces CS)) (C7 : Cal P w K mg base "touch_count" 2 ["way"] (spTouch CS CW)) (C8 : Cal P w K mg base "_law_is_way_right" 4 ["_law_slope", "_law_text", "_law_way"] (spIsWay CS CW)) :
    Cal P w K mg base "_law_word_right" 6 ["_law_rises", "_law_steps", "_law_text"] spWordRight := by
  refine D.cal (D.F.ok sc_wordRight (fun vs H Q E h => ?_) (fun cdv A outer s H vs Q E hr h => ?_)) fun _ _ _ _ _ _ us hl => match us, hl with | [_, _, _], _ => rfl
  · obtain ⟨a, b, z, rfl, _⟩ := h
    rfl
  · obtain ⟨a, b, z, rfl, a0, a1, b0, b1, wd, h64, k⟩ := h
    have nd := sc_wordRight.nd
    refine ⟨_, pss_cons (ps_asg (pe_tup (pa_cons (pe_mkr M hr (by rfl) (pa_cons (pv 0) (pa_cons (pv 1) pa_nil))) (pa_cons (pe_cal C2 hr (by rfl) (pa_cons (pv 0) (pa_cons (pv 1) (pa_cons (pv 2) pa_nil)))) pa_nil)))
        (pg_tup (n := 2) (by rfl) (pgs_cons (pg_name (i := 3) nd rfl (.inr rfl)) (pgs_cons (pg_name (i := 4) nd rfl (.inl rfl)) pgs_nil))))
      (pss_cons (ps_asg (pe_cal C3 hr (by rfl) (pa_cons (pv 3) (pa_cons (pv 2) pa_nil))) (pg_tup (n := 2) (by rfl) (pgs_cons (pg_name (i := 5) nd rfl (.inl rfl)) (pgs_cons (pg_name (i := 6) nd rfl (.inl rfl)) pgs_nil))))
      (pss_cons (ps_if (PW.pt (pw_or (pt_cmpR op_ne (pv 5) (pe_ix ix_list (pv 4) pe_int (fun _ _ => rfl)) (nomark _)) (pw_or (pt_cmpR op_ne (pe_prp (pv 6) S.cls R3 hr) (pe_cal C1 hr (by rfl) (pa_cons (pv 2) (pa_cons (pv 5) pa_nil))) (nomark _))
          (pw_or1 (pt_cmpR (N.op hr) (pe_prp (pv 6) S.cls R4 hr) (pv 3) (nomark _)))))) (pss_one (ps_ret pe_bl)) pss_nil)
      (pss_cons (ps_set (i := 7) nd rfl (.inl rfl) (pe_cal C4 hr (by rfl) (pa_cons (pv 3) (pa_cons (pv 2) pa_nil))))
      (pss_cons (ps_if (pt_cmpR (op_neD hr.units)
          (pe_lc (own := [("_law_one", 9)]) (g := gName 9) (tt := tYes) (te := tPropSl CW (spWayText CW) E0 (tVar 9)) rfl nd (pi_tup (pv 7)) (blkOk_by (N := NR) (own := [("_law_one", 9)]) (sc := defScope d_wordRight) (by decide +kernel))
            (fun _ _ _ _ _ => pg_name (i := 9) nd rfl (Or.inl rfl)) (fun _ _ _ _ _ => pts_nil) (fun _ _ _ _ _ => pe_prp (pv 9) S.cls R3 hr))
          (pe_callB (cr_sortedSS rfl) (by rfl) T.sorted PyProof.Rows.boot_sorted (pa_cons (pe_callTy (cr_setS rfl) (by rfl) T.set PyProof.Rows.boot_set (pa_cons
            (pe_lc (own := [("_law_times", 10)]) (g := gName 10) (tt := tYes) (te := tCall spTurn [] E0 (tCons (tVar 2) (tCons (tVar 10) tNil))) rfl nd (pi_list (pv 4)) (blkOk_by (N := NR) (own := [("_law_times", 10)]) (sc := defScope d_wordRight) (by decide +kernel))
              (fun _ _ _ _ _ => pg_name (i := 10) nd rfl (Or.inl rfl)) (fun _ _ _ _ _ => pts_nil) (fun _ _ _ _ _ => pe_cal C1 hr (by rfl) (pa_cons (pv 2) (pa_cons (pv 10) pa_nil)))) pa_nil)) pa_nil)) (nomark _))
        (pss_one (ps_ret pe_bl)) pss_nil)
      (pss_cons (ps_if (PW.pt (pw_or (pt_cmpR op_ne (pe_op op_mul (pe_callB call_len_seq (by rfl) T.len PySem.boot_len (pa_cons (pv 7) pa_nil)) (pe_callB call_len_str (by rfl) T.len PySem.boot_len (pa_cons (pv 2) pa_nil)))
            (pe_op op_mul (pe_callB call_len_seq (by rfl) T.len PySem.boot_len (pa_cons (pv 4) pa_nil)) (pe_cal C5 hr (by rfl) (pa_cons (pv 2) pa_nil))) (nomark _))
          (pw_or1 (pt_cmpR (op_neD hr.units) (pe_cal C6 hr (by rfl) (pa_cons (pv 3) (pa_cons (pv 2) pa_nil))) (pe_callTy call_tuple_of (by rfl) T.tuple boot_tuple (pa_cons (pv 4) pa_nil)) (nomark _))))) (pss_one (ps_ret pe_bl)) pss_nil)
      (pss_cons (ps_setLc (i := 8) (own := [("_law_one", 9)]) (g := gName 9) (tt := tYes) (te := tCall (spTouch CS CW) [] E0 (tCons (tVar 9) tNil)) rfl nd rfl rfl (by rfl)
          (pi_tup (pv 7)) (blkOk_by (N := NR) (own := [("_law_one", 9)]) (sc := defScope d_wordRight) (by decide +kernel))
          (fun _ _ _ _ _ => pg_name (i := 9) nd rfl (Or.inl rfl)) (fun _ _ _ _ _ => pts_nil) (fun _ _ _ _ _ => pe_cal C7 hr (by rfl) (pa_cons (pv 9) pa_nil)))
      (pss_cons (ps_if (pt_cmpR (op_neD hr.units) (pv 8) (pe_op op_rep (pe_lst (pa_cons (pe_callB call_len_seq (by rfl) T.len PySem.boot_len (pa_cons (pv 4) pa_nil)) pa_nil)) (pe_callB call_len_seq (by rfl) T.len PySem.boot_len (pa_cons (pv 7) pa_nil))) (nomark _))
        (pss_one (ps_ret pe_bl)) pss_nil)
      (pss_one (ps_ret (pe_cmpR (op_eqD hr.units)
        (pe_lc (own := [("_law_one", 9)]) (g := gName 9) (tt := tOr (tTest (tOp (rNeSl CS (spSlopeEq CS) E0) (tPropSl CW (spWaySlope CW) E0 (tVar 9)) (tVar 3))) (tNot (tB (tCall (spIsWay CS CW) [] E0 (tCons (tVar 3) (tCons (tVar 2) (tCons (tVar 9) tNil))))))) (te := tVar 9) rfl nd (pi_tup (pv 7))
          (blkOk_by (N := NR) (own := [("_law_one", 9)]) (sc := defScope d_wordRight) (by decide +kernel))
          (fun _ _ _ _ _ => pg_name (i := 9) nd rfl (Or.inl rfl))
          (fun _ _ _ _ _ => pts_one (PW.pt (pw_or (pt_cmpR (N.op hr) (pe_prp (pv 9) S.cls R4 hr) (pv 3) (nomark _)) (pw_or1 (pt_not (pt_val (pe_cal C8 hr (by rfl) (pa_cons (pv 3) (pa_cons (pv 2) (pa_cons (pv 9) pa_nil)))))))))) (fun _ _ _ _ _ => pv 9))
        (pe_lst pa_nil) (nomark _))))))))))), ?_⟩
    have hz : z.length ≤ 1000 := by omega
    have lz : z.length = (cod z).length := cod_len z
    have nz : cod z ≠ [] := fun e => by
      have := wd.n
      rw [e] at this
      simp only [List.length_nil] at this
      omega
    have few : (ups a b (cod z)).length ≤ z.length := by
      rw [cod_len]
      have := List.length_filter_le (fun k => decide (Up a b (turn (cod z) k))) (List.range (cod z).length)
      rw [List.length_range] at this
      exact this
    have ll : (lowV a b z).length = (ups a b (cod z)).length := List.length_map _
    refine ⟨_, rfl, _, rfl, ?_⟩
    intro x dx nx ndx ne
    refine ⟨x, dx, a, b, rfl, upd_same, ne, a0, a1, b0, b1, fun gc => ⟨rfl, ?_⟩⟩
    obtain ⟨s1, e1, e2⟩ := made_new (C := CS) (vs := [some (.int gc), some (.int a), some (.int b)]) nx ndx ne
    have hs1 : SlopeAt CS (slH (upd (upd H dx (.own x)) x (.ins CS dx [])) x CS dx [some (.int gc), some (.int a), some (.int b)]) x a b := ⟨dx, gc, e1, e2⟩
    refine ⟨_, rfl, _, rfl, _, rfl, a, b, z, rfl, hz, fun H2 lt s2 hlt e2 => ?_⟩
    refine ⟨(by show 2 ≤ sizeLine; decide), fun tp htp => ⟨tp, _, rfl, SqT.of upd_same, rfl, _, _, rfl, _, _, rfl, rfl, ?_⟩⟩
    have s3 := Same.upd' (o := .tup [.ref x, .ref lt]) s2 htp
    have hs3 := hs1.same s3
    have s03 := L2.Same.trans s1 s3
    have el3 := Same.upd (o := .tup [.ref x, .ref lt]) htp _ _ e2
    refine ⟨_, rfl, _, rfl, x, a, b, z, rfl, hs3, wd, nz, hz, fun H4 t4 q0 k0 s4 hk0 hw0 e4 => ⟨t4, _, rfl, SqT.of e4, rfl, _, _, rfl, _, _, rfl, rfl, ?_⟩⟩
    have hs4 := hs3.same s4
    have s04 := L2.Same.trans s03 s4
    have el4 := s4 _ _ el3
    obtain ⟨dw0, ky0, slw0⟩ := hw0.slt
    refine ⟨_, rfl, _, rfl, lt, _, 0, .int (k0 : Nat), rfl, rfl, SqL.of el4, atI_nat (j := 0) (by unfold lowV; rw [List.getElem?_map, hk0]; rfl), rfl, _, rfl, iteNS rfl ?_⟩
    refine ⟨_, rfl, q0, _, _, rfl, slw0, q0, x, tur z k0, rfl, hw0, _, rfl, _, rfl, z, k0, rfl, hz, rfl, _, rfl, iteNS rfl ?_⟩
    refine ⟨_, rfl, q0, _, _, rfl, slw0, q0, x, tur z k0, rfl, hw0, _, rfl, ?_⟩
    refine ne_slopes hs4 hs4 ⟨_, rfl, iteF ?_⟩
    refine ⟨_, rfl, _, rfl, x, a, b, z, rfl, hs4, wd, nz, h64, fun H5 tf qs ys s5 up ws e5 => ?_⟩
    have hs5 := hs4.same s5
    have s05 := L2.Same.trans s04 s5
    have el5 := s5 _ _ el4
    have yl : ys.length ≤ z.length := by have := up.len; rw [turs_len] at this; omega
    have ql : (qs.map V.ref).length = ys.length := by rw [List.length_map]; exact ws.1
    have oks := ok_strs wd up
    refine ⟨_, rfl, tf, rfl, ⟨_, SqT.of e5⟩, fun L1 hL1 => ?_⟩
    refine lc_it (walk_tup (xs := qs.map V.ref)) (fun i H' => CI H5 L1 ((ys.take i).map V.str) H') (CI.start hL1) (fun i H' _ c => Same.tup c.1 (SqT.of e5)) ?_ ?_
    · rintro i v Ha Hb hi ci ⟨rfl, ev⟩
      rw [ql] at hi
      have gq : qs[i]? = some (qs[i]'(by rw [ws.1]; exact hi)) := List.getElem?_eq_getElem _
      have gy : ys[i]? = some ys[i] := List.getElem?_eq_getElem hi
      rw [List.getElem?_map, gq] at ev
      obtain rfl : v = .ref (qs[i]'(by rw [ws.1]; exact hi)) := (Option.some.inj ev).symm
      have hwi := (ws.2 i _ _ gq gy).same ci.1
      obtain ⟨dwi, kyi, slwi⟩ := hwi.slt
      obtain ⟨p1, p2, p3⟩ := ci.push (y := .str ys[i]) hL1 (Same.refl _) (by rw [List.length_map, List.length_take]; omega)
      refine ⟨rfl, _, rfl, _, _, _, rfl, slwi, _, x, ys[i], rfl, hwi, _, p1, p2, ?_⟩
      rw [take_next gy, List.map_append]
      exact p3
    · intro H6 c6
      rw [ql, List.take_length] at c6
      have s06 := L2.Same.trans s05 c6.1
      have el6 := c6.1 _ _ el5
      refine ⟨_, rfl, lt, rfl, ⟨_, SqL.of el6⟩, fun LB hLB => ?_⟩
      refine lc_it (walk_list (xs := lowV a b z)) (fun i H' => CI H6 LB ((turs z ((ups a b (cod z)).take i)).map V.str) H') (CI.start hLB) (fun i H' _ c => Same.seq c.1 (SqL.of el6)) ?_ ?_
      · rintro i v Ha Hb hi ci ⟨rfl, ev⟩
        rw [ll] at hi
        unfold lowV at ev
        have ge : (ups a b (cod z))[i]? = some ((ups a b (cod z))[i]) := List.getElem?_eq_getElem hi
        rw [List.getElem?_map, ge] at ev
        obtain rfl : v = .int (((ups a b (cod z))[i] : Nat)) := (Option.some.inj ev).symm
        obtain ⟨p1, p2, p3⟩ := ci.push (y := .str (tur z ((ups a b (cod z))[i]))) hLB (Same.refl _) (by
          rw [List.length_map, turs_len, List.length_take]; omega)
        refine ⟨rfl, _, rfl, _, rfl, z, _, rfl, hz, _, p1, p2, ?_⟩
        rw [take_next ge]
        unfold turs
        rw [List.map_append, List.map_append]
        exact p3
      · intro H7 c7
        rw [ll, List.take_length] at c7
        have few2 : (turs z (ups a b (cod z))).length < 64 := by rw [turs_len]; omega
        refine ⟨LB, _, rfl, SqL.of c7.2, few2, fun sp hsp => ?_⟩
        refine ⟨sp, _, rfl, upd_same, few2, fun ys2 l2 up2 hl2 => ?_⟩
        have ee : ys2 = ys := up2.uniq up fun _ => Iff.rfl
        subst ee
        have t8 := Same.upd' (o := .lst (ys2.map V.str)) (Same.upd (o := SetS P w (turs z (ups a b (cod z))) sp) hsp) hl2
        have t78 := L2.Same.trans c7.1 t8
        have s08 := L2.Same.trans s06 t78
        refine ⟨_, _, dp_l (SqL.of (t78 _ _ c6.2)) oks, dp_l (SqL.of upd_same) oks, shaped_l oks, shaped_l oks, _, rfl, iteNot (eq_ll oks) ?_⟩
        have u58 := L2.Same.trans c6.1 t78
        have ef8 := u58 _ _ e5
        have el8 := u58 _ _ el5
        refine ⟨_, rfl, tf, _, rfl, .inr (SqT.of ef8), _, rfl, z, rfl, by rw [sizeLine_eq]; omega, _, _, rfl, rfl, .inl ⟨by omega, by omega⟩, _, rfl, lt, _, rfl, .inl (SqL.of el8), _, rfl, z, rfl, nz, hz, fun H9 pe s9 per => ?_⟩
        have cnt := among_count per up
        have cnt' : (((qs.map V.ref).length : Nat) : Int) * ((z.length : Nat) : Int) = (((lowV a b z).length : Nat) : Int) * ((pe : Nat) : Int) := by rw [ql, ll]; exact_mod_cast cnt
        refine ⟨_, _, rfl, rfl, .inl ⟨by omega, by omega⟩, rfl, _, rfl, iteNS (congrArg V.int cnt') ?_⟩
        have u59 := L2.Same.trans u58 s9
        refine ⟨_, rfl, _, rfl, x, a, b, z, rfl, hs5.same u59, wd, nz, hz, fun HA tA sA hA eA => ?_⟩
        have u5A := L2.Same.trans u59 sA
        refine ⟨_, rfl, lt, _, rfl, .inl ⟨SqL.of (u5A _ _ el5), fun tB hB => ?_⟩⟩
        have u5B := Same.upd' (o := .tup (lowV a b z)) u5A hB
        refine ⟨_, _, dp_t (SqT.of (Same.upd hB _ _ eA)) ok_ints, dp_t (SqT.of upd_same) ok_ints, shaped_t ok_ints, shaped_t ok_ints, _, rfl, iteNot (eq_tt ok_ints) ?_⟩
        refine ⟨_, rfl, tf, rfl, ⟨_, SqT.of (u5B _ _ e5)⟩, fun L3 hL3 => ?_⟩
        refine lc_it (walk_tup (xs := qs.map V.ref)) (fun i H' => CI (upd HA tB (.tup (lowV a b z))) L3 (List.replicate i (V.int ((ups a b (cod z)).length : Nat))) H') (CI.start hL3) (fun i H' _ c => Same.tup c.1 (SqT.of (u5B _ _ e5))) ?_ ?_
        · rintro i v Ha Hb hi ci ⟨rfl, ev⟩
          rw [ql] at hi
          have gq : qs[i]? = some (qs[i]'(by rw [ws.1]; exact hi)) := List.getElem?_eq_getElem _
          have gy : ys2[i]? = some ys2[i] := List.getElem?_eq_getElem hi
          rw [List.getElem?_map, gq] at ev
          obtain rfl : v = .ref (qs[i]'(by rw [ws.1]; exact hi)) := (Option.some.inj ev).symm
          have u5a := L2.Same.trans u5B ci.1
          have hwi := (ws.2 i _ _ gq gy).same u5a
          obtain ⟨j, hj, ej⟩ := List.mem_map.mp ((up.mem _).mp (List.getElem_mem hi))
          have tc := touches wd.zero hj
          rw [← cod_tur, ej] at tc
          refine ⟨rfl, _, rfl, _, x, a, b, ys2[i], rfl, hwi, hs5.same u5a, by rw [← ej, tur_len]; exact hz, fun Hc sc => ?_⟩
          obtain ⟨p1, p2, p3⟩ := ci.push (y := .int ((ups a b (cod z)).length : Nat)) hL3 sc (by rw [List.length_replicate]; omega)
          refine ⟨_, p1, p2, ?_⟩
          rw [tc, List.replicate_succ']
          exact p3
        · intro HC cC
          rw [ql] at cC
          have u5C := L2.Same.trans u5B cC.1
          have okr : ∀ y ∈ List.replicate ys2.length (V.int ((ups a b (cod z)).length : Nat)), okD y := fun y hy => by
            rw [List.eq_of_mem_replicate hy]; trivial
          refine ⟨_, rfl, _, rfl, lt, _, rfl, .inl (SqL.of (u5C _ _ el5)), (by show 1 ≤ sizeLine; decide), fun M hM => ?_⟩
          have tM := Same.upd (o := .lst [V.int ((lowV a b z).length : Nat)]) hM
          refine ⟨_, rfl, tf, _, rfl, .inr (SqT.of (tM _ _ (u5C _ _ e5))), M, _, _, rfl, rfl, upd_same, by omega, by omega, by show 1 * (((qs.map V.ref).length : Nat) : Int).toNat ≤ sizeLine; rw [sizeLine_eq]; omega, fun Nn hN => ?_⟩
          have rep : (List.replicate (((qs.map V.ref).length : Nat) : Int).toNat [V.int ((lowV a b z).length : Nat)]).flatten = List.replicate ys2.length (V.int ((ups a b (cod z)).length : Nat)) := by
            rw [List.flatten_replicate_singleton, Int.toNat_natCast, ql, ll]
          have tN := Same.upd' (o := .lst (List.replicate (((qs.map V.ref).length : Nat) : Int).toNat [V.int ((lowV a b z).length : Nat)]).flatten) tM hN
          have u5N := L2.Same.trans u5C tN
          refine ⟨_, _, dp_l (SqL.of (tN _ _ cC.2)) okr, dp_l (xs := List.replicate ys2.length (V.int ((ups a b (cod z)).length : Nat))) (SqL.of (by rw [← rep]; exact upd_same)) okr, shaped_l okr, shaped_l okr, _, rfl, iteNot (eq_ll okr) ?_⟩
          refine ⟨_, rfl, tf, rfl, ⟨_, SqT.of (u5N _ _ e5)⟩, fun L4 hL4 => ?_⟩
          refine lc_it (walk_tup (xs := qs.map V.ref)) (fun i H' => CI _ L4 [] H') (CI.start hL4) (fun i H' _ c => Same.tup c.1 (SqT.of (u5N _ _ e5))) ?_ ?_
          · rintro i v Ha Hb hi ci ⟨rfl, ev⟩
            rw [ql] at hi
            have gq : qs[i]? = some (qs[i]'(by rw [ws.1]; exact hi)) := List.getElem?_eq_getElem _
            have gy : ys2[i]? = some ys2[i] := List.getElem?_eq_getElem hi
            rw [List.getElem?_map, gq] at ev
            obtain rfl : v = .ref (qs[i]'(by rw [ws.1]; exact hi)) := (Option.some.inj ev).symm
            have u5a := L2.Same.trans u5N ci.1
            have hwi := (ws.2 i _ _ gq gy).same u5a
            obtain ⟨dwi, kyi, slwi⟩ := hwi.slt
            obtain ⟨j, hj, ej⟩ := List.mem_map.mp ((up.mem _).mp (List.getElem_mem hi))
            have wy : Wd a b (cod ys2[i]) := by rw [← ej]; exact wd.turn j
            refine ⟨rfl, _, rfl, _, _, _, rfl, slwi, _, x, ys2[i], rfl, hwi, _, rfl, ?_⟩
            refine ne_slopes (hs5.same u5a) (hs5.same u5a) ⟨_, rfl, iteF ?_⟩
            refine ⟨_, rfl, _, rfl, _, rfl, x, _, a, b, z, ys2[i], rfl, hs5.same u5a, hwi, wd, wy, nz, h64, fun Hc sc => ?_⟩
            exact ⟨_, rfl, iteF (ci.keep sc)⟩
          · intro HD cD
            refine ⟨Nat.zero_le _, fun M2 hM2 => ?_⟩
            refine ⟨_, _, dp_l (xs := []) (SqL.of (Same.upd hM2 _ _ cD.2)) (fun _ h => by cases h), dp_l (xs := []) (SqL.of upd_same) (fun _ h => by cases h), shaped_l (xs := []) (fun _ h => by cases h), shaped_l (xs := []) (fun _ h => by cases h), ?_⟩
            exact k _ (L2.Same.trans s05 (L2.Same.trans u5N (Same.upd' cD.1 hM2)))
end
end K8
set_option Elab.async false
set_option linter.all false
set_option maxRecDepth 100000
set_option maxHeartbeats 4000000
namespace K8
open PySem L2 SlX K8S
open PyProof.Rows (boot_int boot_bool boot_str boot_isinstance boot_min boot_max boot_abs boot_enumerate boot_tuple boot_list)
section
variable {P : Program} {w : World} {K : PySem.W.Frag} {mg : Str → Option Value} {base : Heap} {CS CW : Addr}
theorem wd_app {a b a' b' : Nat} {u v : List Nat} (h : Wd a b u) (h' : Wd a' b' v) : Wd (a + a') (b + b') (u ++ v) :=
  ⟨by rw [List.count_append, h.r, h'.r], by rw [List.count_append, h.s, h'.s], by rw [List.length_append, h.n, h'.n]; omega⟩
theorem wd_rep {a b : Nat} {u : List Nat} (h : Wd a b u) : ∀ t : Nat, Wd (a * t) (b * t) (List.replicate t u).flatten
  | 0 => ⟨rfl, rfl, rfl⟩
  | t + 1 => by
    rw [List.replicate_succ, List.flatten_cons, Nat.mul_succ, Nat.mul_succ, Nat.add_comm, Nat.add_comm (b * t)]
    exact wd_app h (wd_rep h t)
theorem mm_bound (m : Int) (h0 : 0 ≤ m) (h : m ≤ 63) : -(2 ^ 62) ≤ (if (if m < 4 then m else 4) > 1 then (if m < 4 then m else 4) else 1) ∧ (if (if m < 4 then m else 4) > 1 then (if m < 4 then m else 4) else 1) < 2 ^ 62 := by
  by_cases h1 : m < 4
  · rw [if_pos h1]
    by_cases h2 : m > 1
    · rw [if_pos h2]; omega
    · rw [if_neg h2]; omega
  · rw [if_neg h1, if_pos (by decide)]; omega
def spLaw (K : PySem.W.Frag) : Sp := fun vs H Q _ => ∃ (a : Addr) (ns : List Int), vs = [.ref a] ∧ SqL K H a (ns.map V.int) ∧ ns.length ≤ 63 ∧ ∀ H', Q (.bl true) H'
abbrev NL : List Str := ["_law_script", "_law_spot", "_law_dice_here", "_law_turn_here", "_law_rises", "_law_steps", "_law_times"]
theorem sc_law : FnScope NL ["_law_script"] (defScope d_law) := ⟨rfl, rfl, rfl, by decide +kernel, rfl, by decide +kernel, by decide +kernel⟩
theorem ok_law {f : Addr} {fd : FuncData} (F : Fun K "law" "law" d_law f fd) (T : Nm mg)
    (C0 : Cal P w K mg base "_law_dice" 1 ["_law_script", "_law_spot"] (spDice K)) (C1 : Cal P w K mg base "_law_roll" 1 ["_law_dice_here", "_law_total"] spRoll)
    (C2 : Cal P w K mg base "_law_sides" 2 ["_law_dice_here", "_law_most"] spSides) (C3 : Cal P w K mg base "_law_word" 3 ["_law_dice_here", "_law_rises", "_law_steps"] spWord)
    (C4 : Cal P w K mg base "_law_word_right" 6 ["_law_rises", "_law_steps", "_law_text"] spWordRight) :
    FnOk P w K mg base CX0 9 f fd ["_law_script"] (spLaw K) := by
  refine F.ok sc_law (fun vs H Q E h => ?_) (fun cdv A outer s H vs Q E hr h => ?_)
  · obtain ⟨a, ns, rfl, _⟩ := h
    rfl
  · obtain ⟨a, ns, rfl, hq, few, k⟩ := h
    have nd := sc_law.nd
    refine ⟨_, pss_cons (ps_for PassesOwn.never rfl (pi_range1 (by rfl) T.range (pa_cons (pe_callB (call_max2 rfl) (by rfl) T.max boot_max (pa_cons pe_int (pa_cons (pe_callB (call_min2 rfl) (by rfl) T.min boot_min (pa_cons pe_int (pa_cons (pe_callB call_len_seq (by rfl) T.len PySem.boot_len (pa_cons (pv 0) pa_nil)) pa_nil))) pa_nil))) pa_nil)) (pg_name (i := 1) nd rfl (.inl rfl))
        (pss_cons (ps_set (i := 2) nd rfl (.inl rfl) (pe_cal C0 hr (by rfl) (pa_cons (pv 0) (pa_cons (pv 1) pa_nil))))
        (pss_cons (ps_for PassesOwn.never rfl (pi_range1 (by rfl) T.range (pa_cons pe_int pa_nil)) (pg_name (i := 3) nd rfl (.inl rfl))
          (pss_cons (ps_asg (pe_cal C2 hr (by rfl) (pa_cons (pv 2) (pa_cons pe_int pa_nil))) (pg_tup (n := 2) (by rfl) (pgs_cons (pg_name (i := 4) nd rfl (.inl rfl)) (pgs_cons (pg_name (i := 5) nd rfl (.inl rfl)) pgs_nil))))
          (pss_one (ps_if (pt_not (pt_val (pe_cal C4 hr (by rfl) (pa_cons (pv 4) (pa_cons (pv 5) (pa_cons (pe_cal C3 hr (by rfl) (pa_cons (pv 2) (pa_cons (pv 4) (pa_cons (pv 5) pa_nil)))) pa_nil)))))) (pss_one (ps_ret pe_bl)) pss_nil))))
        (pss_cons (ps_asg (pe_cal C2 hr (by rfl) (pa_cons (pv 2) (pa_cons pe_int pa_nil))) (pg_tup (n := 2) (by rfl) (pgs_cons (pg_name (i := 4) nd rfl (.inl rfl)) (pgs_cons (pg_name (i := 5) nd rfl (.inl rfl)) pgs_nil))))
        (pss_cons (ps_set (i := 6) nd rfl (.inl rfl) (pe_op op_add pe_int (pe_cal C1 hr (by rfl) (pa_cons (pv 2) (pa_cons pe_int pa_nil)))))
        (pss_one (ps_if (pt_not (pt_val (pe_cal C4 hr (by rfl) (pa_cons (pe_op op_mul (pv 4) (pv 6)) (pa_cons (pe_op op_mul (pv 5) (pv 6)) (pa_cons (pe_op K8R.op_mulS (pe_cal C3 hr (by rfl) (pa_cons (pv 2) (pa_cons (pv 4) (pa_cons (pv 5) pa_nil)))) (pv 6)) pa_nil)))))) (pss_one (ps_ret pe_bl)) pss_nil)))))))
      (pss_one (ps_ret (pe_and (pe_cal C4 hr (by rfl) (pa_cons pe_int (pa_cons pe_int (pa_cons pe_str pa_nil)))) (pe_and (pe_cal C4 hr (by rfl) (pa_cons pe_int (pa_cons pe_int (pa_cons pe_str pa_nil)))) (pe_one (pe_cal C4 hr (by rfl) (pa_cons pe_int (pa_cons pe_int (pa_cons pe_str pa_nil))))))))), ?_⟩
    have lm : (ns.map V.int).length = ns.length := List.length_map _
    obtain ⟨mb1, mb2⟩ := mm_bound ((ns.map V.int).length : Nat) (by omega) (by omega)
    refine ⟨_, rfl, a, _, rfl, .inl hq, _, _, rfl, _, _, rfl, _, rfl, mb1, mb2, for_it walk_range (fun i σ H' => ∃ v1 v2 v3 v4 v5 v6 : Option V, σ = [some (.ref a), v1, v2, v3, v4, v5, v6] ∧ Same H H')
      ⟨none, none, none, none, none, none, rfl, Same.refl _⟩ (fun _ _ _ _ _ => trivial) ?_ ?_⟩
    · rintro i v σ H1 H1' hi ⟨v1, v2, v3, v4, v5, v6, rfl, s1⟩ ⟨rfl, rfl⟩
      have en : (0 : Int) + (i : Nat) = (i : Nat) := by omega
      refine ⟨_, rfl, _, rfl, a, ns, i, by show [V.ref a, V.int (0 + (i : Int))] = _; rw [en], Same.seq s1 hq, few, fun H2 p s2 hp1 hd2 => ?_⟩
      have hp : H p = none := s1.free hp1
      have s02 := L2.Same.trans s1 s2
      refine ⟨_, rfl, (by decide), (by decide), for_it walk_range (fun j σ H' => ∃ v3 v4 v5 : Option V, σ = [some (.ref a), some (.int (0 + (i : Int))), some (.ref p), v3, v4, v5, v6] ∧ Same H H' ∧ DiceAt H' p)
        ⟨v3, v4, v5, rfl, s02, hd2⟩ (fun _ _ _ _ _ => trivial) ?_ ?_⟩
      · rintro j u σ H3 H3' hj ⟨w3, w4, w5, rfl, s3, hd3⟩ ⟨rfl, rfl⟩
        refine ⟨_, rfl, p, 9, rfl, hd3, by decide, by decide, fun H4 t ra sb f4 ra0 ra1 sb0 sb1 e4 => ⟨t, _, rfl, SqT.of e4, rfl, _, _, rfl, _, _, rfl, rfl, ?_⟩⟩
        refine ⟨_, rfl, _, rfl, _, rfl, _, rfl, _, rfl, p, ra, sb, rfl, f4.2, by omega, by omega, fun H5 z f5 wd => ?_⟩
        have lz : z.length = ra + sb := by rw [cod_len]; exact wd.n
        refine ⟨ra, sb, z, rfl, by omega, by omega, by omega, by omega, wd, by omega, fun H6 s6 => ⟨_, rfl, iteF ?_⟩⟩
        have f46 := (f4.trans f5).same s6
        exact ⟨_, _, _, rfl, f46.up s3 hp, f46.2⟩
      · rintro σ H3 ⟨w3, w4, w5, rfl, s3, hd3⟩
        refine ⟨_, rfl, p, 3, rfl, hd3, by decide, by decide, fun H4 t ra sb f4 ra0 ra1 sb0 sb1 e4 => ⟨t, _, rfl, SqT.of e4, rfl, _, _, rfl, _, _, rfl, rfl, ?_⟩⟩
        refine ⟨_, rfl, p, 3, rfl, f4.2, by decide, by decide, fun H5 r f5 hr3 => ?_⟩
        refine ⟨_, _, rfl, rfl, ?_⟩
        have e2r : (2 : Int) + (r : Nat) = ((2 + r : Nat) : Int) := by omega
        refine ⟨_, rfl, _, rfl, _, _, rfl, rfl, .inl ⟨by omega, by omega⟩, _, rfl, _, rfl, _, _, rfl, rfl, .inl ⟨by omega, by omega⟩, ?_⟩
        refine ⟨_, rfl, _, rfl, _, rfl, p, ra, sb, rfl, f5.2, by omega, by omega, fun H6 z f6 wd => ?_⟩
        have lz : z.length = ra + sb := by rw [cod_len]; exact wd.n
        refine ⟨_, rfl, z, 2 + r, rfl, congrArg V.int e2r, by omega, by omega, fun zz ez => ?_⟩
        have wz : Wd (ra * (2 + r)) (sb * (2 + r)) (cod zz) := by
          show Wd _ _ zz.cps.toList
          rw [ez]; exact wd_rep wd _
        have b1 : ra * (2 + r) ≤ 6 * 4 := Nat.mul_le_mul (by omega) (by omega)
        have b2 : sb * (2 + r) ≤ 6 * 4 := Nat.mul_le_mul (by omega) (by omega)
        have c1 : 1 * 2 ≤ ra * (2 + r) := Nat.mul_le_mul (by omega) (by omega)
        have c2 : 1 * 2 ≤ sb * (2 + r) := Nat.mul_le_mul (by omega) (by omega)
        have lzz : zz.length = ra * (2 + r) + sb * (2 + r) := by rw [cod_len]; exact wz.n
        refine ⟨ra * (2 + r), sb * (2 + r), zz, ?_, by omega, by omega, by omega, by omega, wz, by omega, fun H7 s7 => ⟨_, rfl, iteF ?_⟩⟩
        · show [V.int ((ra : Int) * (2 + (r : Int))), V.int ((sb : Int) * (2 + (r : Int))), V.str zz] = _
          rw [e2r, ← Int.natCast_mul, ← Int.natCast_mul]
        · have f47 := ((f4.trans f5).trans f6).same s7
          exact ⟨_, _, _, _, _, _, rfl, f47.up s3 hp⟩
    · rintro σ H1 ⟨v1, v2, v3, v4, v5, v6, rfl, s1⟩
      refine ⟨2, 2, _, rfl, by decide, by decide, by decide, by decide, ⟨by decide +kernel, by decide +kernel, by decide +kernel⟩, by decide +kernel, fun H2 s2 => ⟨_, rfl, iteT ?_⟩⟩
      refine ⟨3, 3, _, rfl, by decide, by decide, by decide, by decide, ⟨by decide +kernel, by decide +kernel, by decide +kernel⟩, by decide +kernel, fun H3 s3 => ⟨_, rfl, iteT ?_⟩⟩
      exact ⟨1, 1, _, rfl, by decide, by decide, by decide, by decide, ⟨by decide +kernel, by decide +kernel, by decide +kernel⟩, by decide +kernel, fun H4 s4 => k _⟩
end
end K8
set_option Elab.async false
set_option linter.all false
set_option maxRecDepth 100000
set_option maxHeartbeats 4000000
namespace K8
open PySem L2 SlX
section
variable {P : Program} {w : World} {K : PySem.W.Frag} {mg : Str → Option Value} {base h : Heap} {CS CW : Addr}
/-! ### what the top has made -/
def DfK (K : PySem.W.Frag) (x : Str) (st : Stmt) : Prop := ∃ (f : Addr) (fd : FuncData), PySem.W.nsIn K mainGlobals x = some (some (.ref f)) ∧ Fun K x x st f fd
theorem dfk_mk {x : Str} {st : Stmt} {f : Addr} {oc : Value} {od an : Option Addr} {osl : Array (Option Value)} {kV doc pm cdv ct : Value} (n : PySem.W.nsIn K mainGlobals x = some (some (.ref f)))
    (l : K.lookup f = some ⟨oc, od, .func (PySem.W.fnOf x x (defArgs st) (defBody st) (defScope st) .none kV doc pm an cdv ct), osl⟩) (c : PySem.W.codeIn K cdv x = true) (k : PySem.W.keepIn K (.ref f) = true) : DfK K x st := ⟨f, _, n, fun_mk l c k⟩
theorem DfK.df {x : Str} {st : Stmt} (d : DfK K x st) (X : K.In h) (G : h.Ns mainGlobals mg) : ∃ (f : Addr) (fd : FuncData), Df K mg x st f fd :=
  let ⟨f, fd, n, F⟩ := d
  ⟨f, fd, F, PySem.W.mg_of X G n⟩
def MtK (K : PySem.W.Frag) (C : Addr) (x qual : Str) (st : Stmt) : Prop := ∃ (f : Addr) (fd : FuncData), PySem.W.findIn K (.ref C) x = some (some (.ref f)) ∧ PySem.W.isFn K (.ref f) = true ∧ Fun K x qual st f fd
theorem mtk_mk {C : Addr} {x qual : Str} {st : Stmt} {f : Addr} {oc : Value} {od an : Option Addr} {osl : Array (Option Value)} {kV doc pm cdv ct : Value} (n : PySem.W.findIn K (.ref C) x = some (some (.ref f))) (i : PySem.W.isFn K (.ref f) = true)
    (l : K.lookup f = some ⟨oc, od, .func (PySem.W.fnOf x qual (defArgs st) (defBody st) (defScope st) .none kV doc pm an cdv ct), osl⟩) (c : PySem.W.codeIn K cdv qual = true) (k : PySem.W.keepIn K (.ref f) = true) : MtK K C x qual st := ⟨f, _, n, i, fun_mk l c k⟩
def PrK (K : PySem.W.Frag) (C : Addr) (x qual : Str) (st : Stmt) : Prop := ∃ (p g : Addr) (fd : FuncData), PySem.W.findIn K (.ref C) x = some (some (.ref p)) ∧ PySem.W.specialIn K (.ref p) "__get__" = some (some (.builtin "property.__get__")) ∧
  PySem.W.takesIn K (.ref p) = some true ∧ (∃ rest, PySem.W.recIn K p "property" = some (.ref g :: rest)) ∧ Fun K x qual st g fd
theorem prk_mk {C p : Addr} {x qual : Str} {st : Stmt} {f : Addr} {rest : List Value} {oc : Value} {od an : Option Addr} {osl : Array (Option Value)} {kV doc pm cdv ct : Value} (n : PySem.W.findIn K (.ref C) x = some (some (.ref p)))
    (s : PySem.W.specialIn K (.ref p) "__get__" = some (some (.builtin "property.__get__"))) (t : PySem.W.takesIn K (.ref p) = some true) (r : PySem.W.recIn K p "property" = some (.ref f :: rest))
    (l : K.lookup f = some ⟨oc, od, .func (PySem.W.fnOf x qual (defArgs st) (defBody st) (defScope st) .none kV doc pm an cdv ct), osl⟩) (c : PySem.W.codeIn K cdv qual = true) (k : PySem.W.keepIn K (.ref f) = true) : PrK K C x qual st := ⟨p, f, _, n, s, t, ⟨rest, r⟩, fun_mk l c k⟩
def S1K (K : PySem.W.Frag) (C : Addr) (x : Str) (i : Nat) : Prop := ∃ p, Slot1 K C x p i
theorem s1k_mk {C p : Addr} {x : Str} {i : Nat} (a : PySem.W.findIn K (.ref C) x = some (some (.ref p))) (b : PySem.W.specialIn K (.ref p) "__get__" = some (some (.builtin "member_descriptor.__get__"))) (c : PySem.W.takesIn K (.ref p) = some true)
    (d : PySem.W.typeIn K (.ref p) = some (.type "member_descriptor")) (e : PySem.W.slotIn K p C = some i) (l : i < 1000) : S1K K C x i := ⟨p, a, b, c, d, e, l⟩
/-- a class with slots -/
structure ClK (K : PySem.W.Frag) (x : Str) (C : Addr) : Prop where
  n : PySem.W.nsIn K mainGlobals x = some (some (.ref C))
  cls : SCls K C
  isi : SIsi K C
  mks : PySem.W.makesIn K C = true
  kp : PySem.W.keepIn K (.ref C) = true
theorem clk_mk {x : Str} {C : Addr} (n : PySem.W.nsIn K mainGlobals x = some (some (.ref C))) (a : PySem.W.plainGet K C Str.empty = true) (b : PySem.W.isClsIn K C = true) (c : PySem.W.plainOver K C = true)
    (d : PySem.W.findIn K (.ref C) "__setattr__" = some (some (.builtin "object.__setattr__"))) (e : PySem.W.findIn K (.ref C) "__class__" = some (some (.builtin "object.__class__")))
    (f : PySem.W.specialIn K (.builtin "object.__class__") "__get__" = some (some (.builtin "getset_descriptor.__get__"))) (g : PySem.W.takesIn K (.builtin "object.__class__") = some true) (i : PySem.W.mroIn K C (.type "object") = some true)
    (j : PySem.W.makesIn K C = true) (k : PySem.W.keepIn K (.ref C) = true) : ClK K x C := ⟨n, ⟨a, b, c, d⟩, ⟨e, f, g, i⟩, j, k⟩
/-- Slope -/
def SlK (K : PySem.W.Frag) : Prop := ∃ C, ClK K "Slope" C ∧ S1K K C "own_common" 0 ∧ S1K K C "own_rises" 1 ∧ S1K K C "own_steps" 2 ∧ MtK K C "__init__" "Slope.__init__" d_slopeInit ∧ PrK K C "rises" "Slope.rises" d_rises ∧ PrK K C "steps" "Slope.steps" d_steps ∧
  MtK K C "__eq__" "Slope.__eq__" d_slopeEq ∧ PySem.W.findIn K (.ref C) "__ne__" = some (some (.builtin "object.__ne__"))
/-- Way -/
def WyK (K : PySem.W.Frag) : Prop := ∃ C, ClK K "Way" C ∧ S1K K C "own_key" 0 ∧ S1K K C "own_slope" 1 ∧ S1K K C "own_text" 2 ∧ MtK K C "__init__" "Way.__init__" d_wayInit ∧ PrK K C "slope" "Way.slope" d_waySlope ∧ PrK K C "text" "Way.text" d_wayText
/-- the names of the module -/
structure NmK (K : PySem.W.Frag) : Prop where
  isinstance_ : PySem.W.nsIn K mainGlobals "isinstance" = some none
  int_ : PySem.W.nsIn K mainGlobals "int" = some none
  bool_ : PySem.W.nsIn K mainGlobals "bool" = some none
  str_ : PySem.W.nsIn K mainGlobals "str" = some none
  len_ : PySem.W.nsIn K mainGlobals "len" = some none
  min_ : PySem.W.nsIn K mainGlobals "min" = some none
  max_ : PySem.W.nsIn K mainGlobals "max" = some none
  abs_ : PySem.W.nsIn K mainGlobals "abs" = some none
  tuple_ : PySem.W.nsIn K mainGlobals "tuple" = some none
  list_ : PySem.W.nsIn K mainGlobals "list" = some none
  set_ : PySem.W.nsIn K mainGlobals "set" = some none
  sorted_ : PySem.W.nsIn K mainGlobals "sorted" = some none
  range_ : PySem.W.nsIn K mainGlobals "range" = some none
  enumerate_ : PySem.W.nsIn K mainGlobals "enumerate" = some none
  gcd_ : PySem.W.nsIn K mainGlobals "gcd" = some (some (.builtin "math.gcd"))
  greatest_ : ∃ t, PySem.W.nsIn K mainGlobals "GREATEST" = some (some (.int (10 ^ 60) t))
  side_ : ∃ t, PySem.W.nsIn K mainGlobals "MAX_SIDE" = some (some (.int 60 t))
  rise_ : ∃ t, PySem.W.nsIn K mainGlobals "RISE" = some (some (.str "r" t))
  step_ : ∃ t, PySem.W.nsIn K mainGlobals "STEP" = some (some (.str "s" t))
theorem nmk_mk {t1 t2 t3 t4 : Tok} (z0 : PySem.W.nsIn K mainGlobals "isinstance" = some none) (z1 : PySem.W.nsIn K mainGlobals "int" = some none) (z2 : PySem.W.nsIn K mainGlobals "bool" = some none) (z3 : PySem.W.nsIn K mainGlobals "str" = some none) (z4 : PySem.W.nsIn K mainGlobals "len" = some none) (z5 : PySem.W.nsIn K mainGlobals "min" = some none) (z6 : PySem.W.nsIn K mainGlobals "max" = some none) (z7 : PySem.W.nsIn K mainGlobals "abs" = some none) (z8 : PySem.W.nsIn K mainGlobals "tuple" = some none) (z9 : PySem.W.nsIn K mainGlobals "list" = some none) (z10 : PySem.W.nsIn K mainGlobals "set" = some none) (z11 : PySem.W.nsIn K mainGlobals "sorted" = some none) (z12 : PySem.W.nsIn K mainGlobals "range" = some none) (z13 : PySem.W.nsIn K mainGlobals "enumerate" = some none) (y0 : PySem.W.nsIn K mainGlobals "gcd" = some (some (.builtin "math.gcd"))) (y1 : PySem.W.nsIn K mainGlobals "GREATEST" = some (some (.int (10 ^ 60) t1))) (y2 : PySem.W.nsIn K mainGlobals "MAX_SIDE" = some (some (.int 60 t2))) (y3 : PySem.W.nsIn K mainGlobals "RISE" = some (some (.str "r" t3))) (y4 : PySem.W.nsIn K mainGlobals "STEP" = some (some (.str "s" t4))) : NmK K := ⟨z0, z1, z2, z3, z4, z5, z6, z7, z8, z9, z10, z11, z12, z13, y0, ⟨_, y1⟩, ⟨_, y2⟩, ⟨_, y3⟩, ⟨_, y4⟩⟩
theorem slk_mk {C : Addr} (a : ClK K "Slope" C) (b : S1K K C "own_common" 0) (c : S1K K C "own_rises" 1) (d : S1K K C "own_steps" 2) (e : MtK K C "__init__" "Slope.__init__" d_slopeInit) (f : PrK K C "rises" "Slope.rises" d_rises) (g : PrK K C "steps" "Slope.steps" d_steps)
    (i : MtK K C "__eq__" "Slope.__eq__" d_slopeEq) (j : PySem.W.findIn K (.ref C) "__ne__" = some (some (.builtin "object.__ne__"))) : SlK K := ⟨C, a, b, c, d, e, f, g, i, j⟩
theorem wyk_mk {C : Addr} (a : ClK K "Way" C) (b : S1K K C "own_key" 0) (c : S1K K C "own_slope" 1) (d : S1K K C "own_text" 2) (e : MtK K C "__init__" "Way.__init__" d_wayInit) (f : PrK K C "slope" "Way.slope" d_waySlope) (g : PrK K C "text" "Way.text" d_wayText) : WyK K := ⟨C, a, b, c, d, e, f, g⟩
theorem gv_of {x : Str} {v : V} {u : Value} (X : K.In h) (G : h.Ns mainGlobals mg) (n : PySem.W.nsIn K mainGlobals x = some (some u)) (r : RelV v u) : Gv mg x v := ⟨u, PySem.W.mg_of X G n, r⟩
theorem NmK.nm (N : NmK K) (X : K.In h) (G : h.Ns mainGlobals mg) : Nm mg := by
  obtain ⟨t1, e1⟩ := N.greatest_
  obtain ⟨t2, e2⟩ := N.side_
  obtain ⟨t3, e3⟩ := N.rise_
  obtain ⟨t4, e4⟩ := N.step_
  exact ⟨PySem.W.mg_none_of X G N.isinstance_, PySem.W.mg_none_of X G N.int_, PySem.W.mg_none_of X G N.bool_, PySem.W.mg_none_of X G N.str_, PySem.W.mg_none_of X G N.len_, PySem.W.mg_none_of X G N.min_, PySem.W.mg_none_of X G N.max_, PySem.W.mg_none_of X G N.abs_, PySem.W.mg_none_of X G N.tuple_, PySem.W.mg_none_of X G N.list_, PySem.W.mg_none_of X G N.set_, PySem.W.mg_none_of X G N.sorted_, PySem.W.mg_none_of X G N.range_, PySem.W.mg_none_of X G N.enumerate_, PySem.W.mg_of X G N.gcd_, gv_of X G e1 ⟨_, rfl⟩, gv_of X G e2 ⟨_, rfl⟩, gv_of X G e3 ⟨_, rfl⟩, gv_of X G e4 ⟨_, rfl⟩⟩
theorem fnr_nil {k : Nat} {f : Addr} {fd : FuncData} {ps : List Str} {sp : Sp} (F : FnOk P w K mg base CX0 k f fd ps sp) (b : Binds K fd ps []) : FnR P w K mg base CX0 k f sp := by
  have r := F.raw b .nil
  have e : (fun (vs : List V) (H : Hp) (Q : VK) (E : XK) => sp (vs ++ []) H Q E) = sp := by
    funext vs H Q E
    rw [List.append_nil]
  rw [e] at r
  exact r
theorem binds1 {x qual : Str} {st : Stmt} {f : Addr} {fd : FuncData} {p : Str} (F : Fun K x qual st f fd)
    (e : ∀ (kV doc pm : Value) (an : Option Addr) (cdv ct u : Value), bindArgs (PySem.W.fnOf x qual (defArgs st) (defBody st) (defScope st) .none kV doc pm an cdv ct) ⟨[u], []⟩ = pure [(p, u)]) (s : Shared) (u : Value) : BindsTo s fd ⟨[u], []⟩ [(p, u)] := by
  obtain ⟨oc, od, kV, doc, pm, an, cdv, ct, osl, rfl, lk, hcd⟩ := F.ex
  exact BindsTo.of_eq (e kV doc pm an cdv ct u)
/-- all walks, joined -/
theorem all_law {fa : Addr} (X : K.In h) (G : h.Ns mainGlobals mg) (hmg : mg "law" = some (.ref fa)) (N : NmK K) (S : SlK K) (W : WyK K)
    (D_isInteger : DfK K "is_integer" d_isInteger)
    (D_isFrom : DfK K "is_from" d_isFrom)
    (D_requireFrom : DfK K "require_from" d_requireFrom)
    (D_levelsOf : DfK K "levels_of" d_levelsOf)
    (D_isTextOf : DfK K "is_text_of" d_isTextOf)
    (D_isWayText : DfK K "is_way_text" d_isWayText)
    (D_requireSlope : DfK K "require_slope" d_requireSlope)
    (D_requireWay : DfK K "require_way" d_requireWay)
    (D_requireWord : DfK K "require_word" d_requireWord)
    (D_requireSW : DfK K "require_slope_and_word" d_requireSW)
    (D_turnedBy : DfK K "turned_by" d_turnedBy)
    (D_lowestSpots : DfK K "lowest_spots" d_lowestSpots)
    (D_lowestPlaces : DfK K "lowest_places" d_lowestPlaces)
    (D_wayOf : DfK K "way_of" d_wayOf)
    (D_waysAmong : DfK K "ways_among" d_waysAmong)
    (D_touchCount : DfK K "touch_count" d_touchCount)
    (D_wordsOf : DfK K "words_of" d_wordsOf)
    (D_turnTo : DfK K "turn_to" d_turnTo)
    (D_dice : DfK K "_law_dice" d_dice)
    (D_roll : DfK K "_law_roll" d_roll)
    (D_mixed : DfK K "_law_mixed" d_mixed)
    (D_levels : DfK K "_law_levels" d_levels)
    (D_sides : DfK K "_law_sides" d_sides)
    (D_word : DfK K "_law_word" d_word)
    (D_turn : DfK K "_law_turn" d_turn)
    (D_period : DfK K "_law_period" d_period)
    (D_wayTurns : DfK K "_law_way_turns" d_wayTurns)
    (D_isWayRight : DfK K "_law_is_way_right" d_isWayRight)
    (D_wordRight : DfK K "_law_word_right" d_wordRight)
    (D_law : DfK K "law" d_law)
    : ∃ fd : FuncData, (∀ (s : Shared) (u : Value), BindsTo s fd ⟨[u], []⟩ [("_law_script", u)]) ∧ ∀ base : Heap, K.In base → base.Ns mainGlobals mg → FnOk P w K mg base CX0 9 fa fd ["_law_script"] (spLaw K) := by
  have T := N.nm X G
  obtain ⟨f_isInteger, g_isInteger, E_isInteger⟩ := D_isInteger.df X G
  obtain ⟨f_isFrom, g_isFrom, E_isFrom⟩ := D_isFrom.df X G
  obtain ⟨f_requireFrom, g_requireFrom, E_requireFrom⟩ := D_requireFrom.df X G
  obtain ⟨f_levelsOf, g_levelsOf, E_levelsOf⟩ := D_levelsOf.df X G
  obtain ⟨f_isTextOf, g_isTextOf, E_isTextOf⟩ := D_isTextOf.df X G
  obtain ⟨f_isWayText, g_isWayText, E_isWayText⟩ := D_isWayText.df X G
  obtain ⟨f_requireSlope, g_requireSlope, E_requireSlope⟩ := D_requireSlope.df X G
  obtain ⟨f_requireWay, g_requireWay, E_requireWay⟩ := D_requireWay.df X G
  obtain ⟨f_requireWord, g_requireWord, E_requireWord⟩ := D_requireWord.df X G
  obtain ⟨f_requireSW, g_requireSW, E_requireSW⟩ := D_requireSW.df X G
  obtain ⟨f_turnedBy, g_turnedBy, E_turnedBy⟩ := D_turnedBy.df X G
  obtain ⟨f_lowestSpots, g_lowestSpots, E_lowestSpots⟩ := D_lowestSpots.df X G
  obtain ⟨f_lowestPlaces, g_lowestPlaces, E_lowestPlaces⟩ := D_lowestPlaces.df X G
  obtain ⟨f_wayOf, g_wayOf, E_wayOf⟩ := D_wayOf.df X G
  obtain ⟨f_waysAmong, g_waysAmong, E_waysAmong⟩ := D_waysAmong.df X G
  obtain ⟨f_touchCount, g_touchCount, E_touchCount⟩ := D_touchCount.df X G
  obtain ⟨f_wordsOf, g_wordsOf, E_wordsOf⟩ := D_wordsOf.df X G
  obtain ⟨f_turnTo, g_turnTo, E_turnTo⟩ := D_turnTo.df X G
  obtain ⟨f_dice, g_dice, E_dice⟩ := D_dice.df X G
  obtain ⟨f_roll, g_roll, E_roll⟩ := D_roll.df X G
  obtain ⟨f_mixed, g_mixed, E_mixed⟩ := D_mixed.df X G
  obtain ⟨f_levels, g_levels, E_levels⟩ := D_levels.df X G
  obtain ⟨f_sides, g_sides, E_sides⟩ := D_sides.df X G
  obtain ⟨f_word, g_word, E_word⟩ := D_word.df X G
  obtain ⟨f_turn, g_turn, E_turn⟩ := D_turn.df X G
  obtain ⟨f_period, g_period, E_period⟩ := D_period.df X G
  obtain ⟨f_wayTurns, g_wayTurns, E_wayTurns⟩ := D_wayTurns.df X G
  obtain ⟨f_isWayRight, g_isWayRight, E_isWayRight⟩ := D_isWayRight.df X G
  obtain ⟨f_wordRight, g_wordRight, E_wordRight⟩ := D_wordRight.df X G
  obtain ⟨f_law, g_law, E_law⟩ := D_law.df X G
  obtain ⟨CS, c1, s0, s1, s2, ⟨fI, dI, i1, i2, FI⟩, ⟨pR, gR, dR, r1, r2, r3, r4, FR⟩, ⟨pS, gS, dS, t1, t2, t3, t4, FS⟩, ⟨fE, dE, q1, q2, FE⟩, ne⟩ := S
  obtain ⟨CW, c2, w0, w1, w2, ⟨fJ, dJ, j1, j2, FJ⟩, ⟨pL, gL, dL, u1, u2, u3, u4, FL⟩, ⟨pT, gT, dT, v1, v2, v3, v4, FT⟩⟩ := W
  have SS : SlopeK K mg CS := ⟨c1.cls, c1.isi, s0, s1, s2, PySem.W.mg_of X G c1.n⟩
  have SW : WayK K mg CW := ⟨c2.cls, c2.isi, w0, w1, w2, PySem.W.mg_of X G c2.n⟩
  have MS : Mk K CS fI := ⟨c1.mks, i1, i2, c1.kp⟩
  have MW : Mk K CW fJ := ⟨c2.mks, j1, j2, c2.kp⟩
  have el : fa = f_law := by
    have := E_law.g
    rw [hmg] at this
    injection this with this
    injection this
  subst el
  refine ⟨g_law, binds1 E_law.F fun _ _ _ _ _ _ _ => rfl, fun base _ _ => ?_⟩
  have cInt := ok_isInteger (P := P) (w := w) (base := base) E_isInteger T
  have cFrom := ok_isFrom E_isFrom cInt
  have cReq := ok_requireFrom E_requireFrom cFrom
  have mS := ok_slopeInit FI T SS MS cReq
  have pRises : Prp P w K mg base CS "rises" (spRises CS) := ⟨pR, gR, r1, r2, r3, r4, fnr_nil (ok_rises FR SS) (FR.binds fun _ _ _ _ _ _ us hl => match us, hl with | [_], _ => rfl)⟩
  have pSteps : Prp P w K mg base CS "steps" (spSteps CS) := ⟨pS, gS, t1, t2, t3, t4, fnr_nil (ok_steps FS SS) (FS.binds fun _ _ _ _ _ _ us hl => match us, hl with | [_], _ => rfl)⟩
  have pSlope : Prp P w K mg base CW "slope" (spWaySlope CW) := ⟨pL, gL, u1, u2, u3, u4, fnr_nil (ok_waySlope FL SW) (FL.binds fun _ _ _ _ _ _ us hl => match us, hl with | [_], _ => rfl)⟩
  have pText : Prp P w K mg base CW "text" (spWayText CW) := ⟨pT, gT, v1, v2, v3, v4, fnr_nil (ok_wayText FT SW) (FT.binds fun _ _ _ _ _ _ us hl => match us, hl with | [_], _ => rfl)⟩
  have nK : NeK P w K mg base CS fE := ⟨ne, c1.isi.cm, q1, q2, fnr_nil (ok_slopeEq FE T SS) (FE.binds fun _ _ _ _ _ _ us hl => match us, hl with | [_, _], _ => rfl)⟩
  have cLev := ok_levelsOf (P := P) (w := w) (base := base) E_levelsOf T SS
  have cTxt := ok_isTextOf (P := P) (w := w) (base := base) E_isTextOf T SS
  have cWt := ok_isWayText E_isWayText T cTxt cLev
  have cRs := ok_requireSlope (P := P) (w := w) (base := base) E_requireSlope T SS
  have cRw := ok_requireWay (P := P) (w := w) (base := base) E_requireWay T SW
  have cRd := ok_requireWord E_requireWord cTxt
  have cRsw := ok_requireSW E_requireSW cRs cRd
  have mW := ok_wayInit FJ SS SW MW cRs cWt
  have cTb := ok_turnedBy (P := P) (w := w) (base := base) E_turnedBy
  have cLs := ok_lowestSpots E_lowestSpots T cLev
  have cLp := ok_places E_lowestPlaces T cRsw cLs
  have cWo := ok_wayOf E_wayOf T cRsw cLs cTb mW
  have cWa := ok_among E_waysAmong T cRsw cLs cTb mW
  have cTc := ok_touch E_touchCount T SW cRw cLev
  have cWd := ok_words E_wordsOf T SW cRw cTb
  have cTt := ok_turnTo E_turnTo T SW cRw cRd
  have lD := ok_dice (P := P) (w := w) (base := base) E_dice T
  have lR := ok_roll (P := P) (w := w) (base := base) E_roll T
  have lM := ok_mixed E_mixed T lR
  have lL := ok_levelsL (P := P) (w := w) (base := base) E_levels T
  have lS := ok_sides E_sides lR
  have lW := ok_word E_word T lM
  have lT := ok_turnL (P := P) (w := w) (base := base) E_turn
  have lP := ok_period E_period T lT
  have lY := ok_wayTurns E_wayTurns T lT lL
  have lI := ok_isWay E_isWayRight T SS SW pRises pSteps pText lT lL cWd cTc cTt
  have lO := ok_wordRight E_wordRight T SS SW mS nK pText pSlope lT lY cWo cWa lP cLp cTc lI
  exact ok_law E_law.F T lD lR lS lW lO
end
end K8
set_option Elab.async false
set_option maxRecDepth 100000
set_option maxHeartbeats 0
open_top K8_head for PySem.Challenge.rw_slantways_k08_whole_ways_among_turned_wo
set_option Elab.async false
set_option linter.all false
set_option maxRecDepth 100000
set_option maxHeartbeats 0
namespace K8
open PySem L2
theorem walk {l : PySem.W.OpenLaw} {q : Program} {loose : List Str} {XP : (Str → Option Value) → Heap → Prop} {YP : World → Heap → Prop} {d : DefRec} {K : Params → PySem.W.Frag} (hn : l.most = some 63) (hdf : d.params.defaults = [])
    (hY : ∀ (w : World) (h : Heap), YP w h → (K w.params).In h)
    (F : ∀ (w : World) (mg : Str → Option Value) (fa : Addr) (h : Heap), (K w.params).In h → h.Ns mainGlobals mg → mg d.name = some (.ref fa) →
      ∃ fd : FuncData, (∀ (s : Shared) (u : Value), BindsTo s fd ⟨[u], []⟩ [("_law_script", u)]) ∧ ∀ base : Heap, (K w.params).In base → base.Ns mainGlobals mg → FnOk l.prog w (K w.params) mg base CX0 9 fa fd ["_law_script"] (spLaw (K w.params))) :
    PySem.W.WalkO q loose XP YP l.row.toRowW d [] (fun f vs => PySem.call f vs) :=
  L2.walk_of (n := 63) (k := 9) (x := "_law_script") (CX := fun _ => CX0) (sp := fun w => spLaw (K w.params)) hn (by decide) hdf ⟨rfl, by decide, by decide⟩ hY F (fun _ _ a ns hl _ hS => ⟨a, ns, rfl, hS, hl, fun _ => rfl⟩) fun _ _ _ _ _ z => z
end K8
open PySem PySem.W PyProof.Rows K8
theorem PySem.Challenge.cw_slantways_k08_whole_ways_among_turned_wo_holds : PySem.Challenge.rw_slantways_k08_whole_ways_among_turned_wo.Holds := by
  exact K8_head (by
  k_fill
  refine K8.walk (l := PySem.Challenge.rw_slantways_k08_whole_ways_among_turned_wo) rfl rfl (fun w h Y => PySem.W.kIn_of Y) ?F
  case F =>
    intro w mg fa h KX G hmg
    have D_isInteger : DfK (K8_head.heap_39 w.params) "is_integer" d_isInteger := by
      refine' dfk_mk ?z0 ?z1 ?z2 ?z3
      (case z0 => k_is)
      (case z1 => k_is)
      (case z2 => k_is)
      (case z3 => k_is)
    have D_isFrom : DfK (K8_head.heap_39 w.params) "is_from" d_isFrom := by
      refine' dfk_mk ?z0 ?z1 ?z2 ?z3
      (case z0 => k_is)
      (case z1 => k_is)
      (case z2 => k_is)
      (case z3 => k_is)
    have D_requireFrom : DfK (K8_head.heap_39 w.params) "require_from" d_requireFrom := by
      refine' dfk_mk ?z0 ?z1 ?z2 ?z3
      (case z0 => k_is)
      (case z1 => k_is)
      (case z2 => k_is)
      (case z3 => k_is)
    have D_levelsOf : DfK (K8_head.heap_39 w.params) "levels_of" d_levelsOf := by
      refine' dfk_mk ?z0 ?z1 ?z2 ?z3
      (case z0 => k_is)
      (case z1 => k_is)
      (case z2 => k_is)
      (case z3 => k_is)
    have D_isTextOf : DfK (K8_head.heap_39 w.params) "is_text_of" d_isTextOf := by
      refine' dfk_mk ?z0 ?z1 ?z2 ?z3
      (case z0 => k_is)
      (case z1 => k_is)
      (case z2 => k_is)
      (case z3 => k_is)
    have D_isWayText : DfK (K8_head.heap_39 w.params) "is_way_text" d_isWayText := by
      refine' dfk_mk ?z0 ?z1 ?z2 ?z3
      (case z0 => k_is)
      (case z1 => k_is)
      (case z2 => k_is)
      (case z3 => k_is)
    have D_requireSlope : DfK (K8_head.heap_39 w.params) "require_slope" d_requireSlope := by
      refine' dfk_mk ?z0 ?z1 ?z2 ?z3
      (case z0 => k_is)
      (case z1 => k_is)
      (case z2 => k_is)
      (case z3 => k_is)
    have D_requireWay : DfK (K8_head.heap_39 w.params) "require_way" d_requireWay := by
      refine' dfk_mk ?z0 ?z1 ?z2 ?z3
      (case z0 => k_is)
      (case z1 => k_is)
      (case z2 => k_is)
      (case z3 => k_is)
    have D_requireWord : DfK (K8_head.heap_39 w.params) "require_word" d_requireWord := by
      refine' dfk_mk ?z0 ?z1 ?z2 ?z3
      (case z0 => k_is)
      (case z1 => k_is)
      (case z2 => k_is)
      (case z3 => k_is)
    have D_requireSW : DfK (K8_head.heap_39 w.params) "require_slope_and_word" d_requireSW := by
      refine' dfk_mk ?z0 ?z1 ?z2 ?z3
      (case z0 => k_is)
      (case z1 => k_is)
      (case z2 => k_is)
      (case z3 => k_is)
    have D_turnedBy : DfK (K8_head.heap_39 w.params) "turned_by" d_turnedBy := by
      refine' dfk_mk ?z0 ?z1 ?z2 ?z3
      (case z0 => k_is)
      (case z1 => k_is)
      (case z2 => k_is)
      (case z3 => k_is)
    have D_lowestSpots : DfK (K8_head.heap_39 w.params) "lowest_spots" d_lowestSpots := by
      refine' dfk_mk ?z0 ?z1 ?z2 ?z3
      (case z0 => k_is)
      (case z1 => k_is)
      (case z2 => k_is)
      (case z3 => k_is)
    have D_lowestPlaces : DfK (K8_head.heap_39 w.params) "lowest_places" d_lowestPlaces := by
      refine' dfk_mk ?z0 ?z1 ?z2 ?z3
      (case z0 => k_is)
      (case z1 => k_is)
      (case z2 => k_is)
      (case z3 => k_is)
    have D_wayOf : DfK (K8_head.heap_39 w.params) "way_of" d_wayOf := by
      refine' dfk_mk ?z0 ?z1 ?z2 ?z3
      (case z0 => k_is)
      (case z1 => k_is)
      (case z2 => k_is)
      (case z3 => k_is)
    have D_waysAmong : DfK (K8_head.heap_39 w.params) "ways_among" d_waysAmong := by
      refine' dfk_mk ?z0 ?z1 ?z2 ?z3
      (case z0 => k_is)
      (case z1 => k_is)
      (case z2 => k_is)
      (case z3 => k_is)
    have D_touchCount : DfK (K8_head.heap_39 w.params) "touch_count" d_touchCount := by
      refine' dfk_mk ?z0 ?z1 ?z2 ?z3
      (case z0 => k_is)
      (case z1 => k_is)
      (case z2 => k_is)
      (case z3 => k_is)
    have D_wordsOf : DfK (K8_head.heap_39 w.params) "words_of" d_wordsOf := by
      refine' dfk_mk ?z0 ?z1 ?z2 ?z3
      (case z0 => k_is)
      (case z1 => k_is)
      (case z2 => k_is)
      (case z3 => k_is)
    have D_turnTo : DfK (K8_head.heap_39 w.params) "turn_to" d_turnTo := by
      refine' dfk_mk ?z0 ?z1 ?z2 ?z3
      (case z0 => k_is)
      (case z1 => k_is)
      (case z2 => k_is)
      (case z3 => k_is)
    have D_dice : DfK (K8_head.heap_39 w.params) "_law_dice" d_dice := by
      refine' dfk_mk ?z0 ?z1 ?z2 ?z3
      (case z0 => k_is)
      (case z1 => k_is)
      (case z2 => k_is)
      (case z3 => k_is)
    have D_roll : DfK (K8_head.heap_39 w.params) "_law_roll" d_roll := by
      refine' dfk_mk ?z0 ?z1 ?z2 ?z3
      (case z0 => k_is)
      (case z1 => k_is)
      (case z2 => k_is)
      (case z3 => k_is)
    have D_mixed : DfK (K8_head.heap_39 w.params) "_law_mixed" d_mixed := by
      refine' dfk_mk ?z0 ?z1 ?z2 ?z3
      (case z0 => k_is)
      (case z1 => k_is)
      (case z2 => k_is)
      (case z3 => k_is)
    have D_levels : DfK (K8_head.heap_39 w.params) "_law_levels" d_levels := by
      refine' dfk_mk ?z0 ?z1 ?z2 ?z3
      (case z0 => k_is)
      (case z1 => k_is)
      (case z2 => k_is)
      (case z3 => k_is)
    have D_sides : DfK (K8_head.heap_39 w.params) "_law_sides" d_sides := by
      refine' dfk_mk ?z0 ?z1 ?z2 ?z3
      (case z0 => k_is)
      (case z1 => k_is)
      (case z2 => k_is)
      (case z3 => k_is)
    have D_word : DfK (K8_head.heap_39 w.params) "_law_word" d_word := by
      refine' dfk_mk ?z0 ?z1 ?z2 ?z3
      (case z0 => k_is)
      (case z1 => k_is)
      (case z2 => k_is)
      (case z3 => k_is)
    have D_turn : DfK (K8_head.heap_39 w.params) "_law_turn" d_turn := by
      refine' dfk_mk ?z0 ?z1 ?z2 ?z3
      (case z0 => k_is)
      (case z1 => k_is)
      (case z2 => k_is)
      (case z3 => k_is)
    have D_period : DfK (K8_head.heap_39 w.params) "_law_period" d_period := by
      refine' dfk_mk ?z0 ?z1 ?z2 ?z3
      (case z0 => k_is)
      (case z1 => k_is)
      (case z2 => k_is)
      (case z3 => k_is)
    have D_wayTurns : DfK (K8_head.heap_39 w.params) "_law_way_turns" d_wayTurns := by
      refine' dfk_mk ?z0 ?z1 ?z2 ?z3
      (case z0 => k_is)
      (case z1 => k_is)
      (case z2 => k_is)
      (case z3 => k_is)
    have D_isWayRight : DfK (K8_head.heap_39 w.params) "_law_is_way_right" d_isWayRight := by
      refine' dfk_mk ?z0 ?z1 ?z2 ?z3
      (case z0 => k_is)
      (case z1 => k_is)
      (case z2 => k_is)
      (case z3 => k_is)
    have D_wordRight : DfK (K8_head.heap_39 w.params) "_law_word_right" d_wordRight := by
      refine' dfk_mk ?z0 ?z1 ?z2 ?z3
      (case z0 => k_is)
      (case z1 => k_is)
      (case z2 => k_is)
      (case z3 => k_is)
    have D_law : DfK (K8_head.heap_39 w.params) "law" d_law := by
      refine' dfk_mk ?z0 ?z1 ?z2 ?z3
      (case z0 => k_is)
      (case z1 => k_is)
      (case z2 => k_is)
      (case z3 => k_is)
    have N : NmK (K8_head.heap_39 w.params) := by
      refine' nmk_mk ?z0 ?z1 ?z2 ?z3 ?z4 ?z5 ?z6 ?z7 ?z8 ?z9 ?z10 ?z11 ?z12 ?z13 ?y0 ?y1 ?y2 ?y3 ?y4
      (case z0 => k_is)
      (case z1 => k_is)
      (case z2 => k_is)
      (case z3 => k_is)
      (case z4 => k_is)
      (case z5 => k_is)
      (case z6 => k_is)
      (case z7 => k_is)
      (case z8 => k_is)
      (case z9 => k_is)
      (case z10 => k_is)
      (case z11 => k_is)
      (case z12 => k_is)
      (case z13 => k_is)
      (case y0 => k_is)
      (case y1 => k_is)
      (case y2 => k_is)
      (case y3 => k_is)
      (case y4 => k_is)
    have S : SlK (K8_head.heap_39 w.params) := by
      refine' slk_mk (clk_mk ?a0 ?a1 ?a2 ?a3 ?a4 ?a5 ?a6 ?a7 ?a8 ?a9 ?a10) (s1k_mk ?b0_0 ?b0_1 ?b0_2 ?b0_3 ?b0_4 (by decide)) (s1k_mk ?b1_0 ?b1_1 ?b1_2 ?b1_3 ?b1_4 (by decide)) (s1k_mk ?b2_0 ?b2_1 ?b2_2 ?b2_3 ?b2_4 (by decide)) (mtk_mk ?b3_0 ?b3_1 ?b3_2 ?b3_3 ?b3_4) (prk_mk ?b4_0 ?b4_1 ?b4_2 ?b4_3 ?b4_4 ?b4_5 ?b4_6) (prk_mk ?b5_0 ?b5_1 ?b5_2 ?b5_3 ?b5_4 ?b5_5 ?b5_6) (mtk_mk ?b6_0 ?b6_1 ?b6_2 ?b6_3 ?b6_4) ?b7_0
      (case a0 => k_is)
      (case a1 => k_is)
      (case a2 => k_is)
      (case a3 => k_is)
      (case a4 => k_is)
      (case a5 => k_is)
      (case a6 => k_is)
      (case a7 => k_is)
      (case a8 => k_is)
      (case a9 => k_is)
      (case a10 => k_is)
      (case b0_0 => k_is)
      (case b0_1 => k_is)
      (case b0_2 => k_is)
      (case b0_3 => k_is)
      (case b0_4 => k_is)
      (case b1_0 => k_is)
      (case b1_1 => k_is)
      (case b1_2 => k_is)
      (case b1_3 => k_is)
      (case b1_4 => k_is)
      (case b2_0 => k_is)
      (case b2_1 => k_is)
      (case b2_2 => k_is)
      (case b2_3 => k_is)
      (case b2_4 => k_is)
      (case b3_0 => k_is)
      (case b3_1 => k_is)
      (case b3_2 => k_is)
      (case b3_3 => k_is)
      (case b3_4 => k_is)
      (case b4_0 => k_is)
      (case b4_1 => k_is)
      (case b4_2 => k_is)
      (case b4_3 => k_is)
      (case b4_4 => k_is)
      (case b4_5 => k_is)
      (case b4_6 => k_is)
      (case b5_0 => k_is)
      (case b5_1 => k_is)
      (case b5_2 => k_is)
      (case b5_3 => k_is)
      (case b5_4 => k_is)
      (case b5_5 => k_is)
      (case b5_6 => k_is)
      (case b6_0 => k_is)
      (case b6_1 => k_is)
      (case b6_2 => k_is)
      (case b6_3 => k_is)
      (case b6_4 => k_is)
      (case b7_0 => k_is)
    have W : WyK (K8_head.heap_39 w.params) := by
      refine' wyk_mk (clk_mk ?a0 ?a1 ?a2 ?a3 ?a4 ?a5 ?a6 ?a7 ?a8 ?a9 ?a10) (s1k_mk ?b0_0 ?b0_1 ?b0_2 ?b0_3 ?b0_4 (by decide)) (s1k_mk ?b1_0 ?b1_1 ?b1_2 ?b1_3 ?b1_4 (by decide)) (s1k_mk ?b2_0 ?b2_1 ?b2_2 ?b2_3 ?b2_4 (by decide)) (mtk_mk ?b3_0 ?b3_1 ?b3_2 ?b3_3 ?b3_4) (prk_mk ?b4_0 ?b4_1 ?b4_2 ?b4_3 ?b4_4 ?b4_5 ?b4_6) (prk_mk ?b5_0 ?b5_1 ?b5_2 ?b5_3 ?b5_4 ?b5_5 ?b5_6)
      (case a0 => k_is)
      (case a1 => k_is)
      (case a2 => k_is)
      (case a3 => k_is)
      (case a4 => k_is)
      (case a5 => k_is)
      (case a6 => k_is)
      (case a7 => k_is)
      (case a8 => k_is)
      (case a9 => k_is)
      (case a10 => k_is)
      (case b0_0 => k_is)
      (case b0_1 => k_is)
      (case b0_2 => k_is)
      (case b0_3 => k_is)
      (case b0_4 => k_is)
      (case b1_0 => k_is)
      (case b1_1 => k_is)
      (case b1_2 => k_is)
      (case b1_3 => k_is)
      (case b1_4 => k_is)
      (case b2_0 => k_is)
      (case b2_1 => k_is)
      (case b2_2 => k_is)
      (case b2_3 => k_is)
      (case b2_4 => k_is)
      (case b3_0 => k_is)
      (case b3_1 => k_is)
      (case b3_2 => k_is)
      (case b3_3 => k_is)
      (case b3_4 => k_is)
      (case b4_0 => k_is)
      (case b4_1 => k_is)
      (case b4_2 => k_is)
      (case b4_3 => k_is)
      (case b4_4 => k_is)
      (case b4_5 => k_is)
      (case b4_6 => k_is)
      (case b5_0 => k_is)
      (case b5_1 => k_is)
      (case b5_2 => k_is)
      (case b5_3 => k_is)
      (case b5_4 => k_is)
      (case b5_5 => k_is)
      (case b5_6 => k_is)
    exact K8.all_law KX G hmg N S W D_isInteger D_isFrom D_requireFrom D_levelsOf D_isTextOf D_isWayText D_requireSlope D_requireWay D_requireWord D_requireSW D_turnedBy D_lowestSpots D_lowestPlaces D_wayOf D_waysAmong D_touchCount D_wordsOf D_turnTo D_dice D_roll D_mixed D_levels D_sides D_word D_turn D_period D_wayTurns D_isWayRight D_wordRight D_law)
