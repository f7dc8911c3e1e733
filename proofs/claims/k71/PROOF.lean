import PyProof.Rows.All
import Wide.All
import OpenK.AllK
import Wide.FinOn
import HandS.ForMost
import HandS.ForExc
import HandS.IsInst
import HandS.Zip
import HandS.Deep
import HandS.TupAny
import HandS.TupMul
import HandS.TupSets
import HandS.SetKeys
import HandS.DictComp
import HandS.RaiseMore
import HandS.Small
import HandS.Strs
import HandS.Evl
import KE.KDictKeyed
import KE.SortData
import PySem.Challenge.RW_likeslips_k71_whole_hanging_and_counts
import HandS.Walk
import KE.KDictDisplayH
import HandS.DictTup
import HandS.Keys
import HandS.SetFor
import KE.OsSetLaws
import HandS.TryOnly
import HandS.TupLe
import HandS.Ends
/-! k71: the plain law. Rows are lists of whole numbers; opn: the places in which rows differ; part: the rows with a row's answer at a place. -/
namespace K71
abbrev Row := List Int
def ans (r : Row) (p : Nat) : Int := r.getD p 0
/-- do rows differ at a place -/
def opnAt (rs : List Row) (p : Nat) : Bool := rs.any fun a => rs.any fun b => ans a p != ans b p
def opn (n : Nat) (rs : List Row) : List Nat := (List.range n).filter (opnAt rs)
def partA (rs : List Row) (p : Nat) (a : Int) : List Row := rs.filter fun o => ans o p == a
def part (rs : List Row) (p : Nat) (r : Row) : List Row := partA rs p (ans r p)

theorem mem_partA {rs : List Row} {p : Nat} {a : Int} {o : Row} : o ∈ partA rs p a ↔ o ∈ rs ∧ ans o p = a := by
  unfold partA; rw [List.mem_filter]; simp
theorem mem_part {rs : List Row} {p : Nat} {r o : Row} : o ∈ part rs p r ↔ o ∈ rs ∧ ans o p = ans r p := mem_partA
theorem self_part {rs : List Row} {p : Nat} {r : Row} (h : r ∈ rs) : r ∈ part rs p r := mem_part.mpr ⟨h, rfl⟩
theorem opnAt_iff {rs : List Row} {p : Nat} : opnAt rs p = true ↔ ∃ a, a ∈ rs ∧ ∃ b, b ∈ rs ∧ ans a p ≠ ans b p := by
  unfold opnAt; simp [List.any_eq_true]
theorem opnAt_of {rs : List Row} {p : Nat} {r : Row} (hr : r ∈ rs) : opnAt rs p = true ↔ ∃ o, o ∈ rs ∧ ans o p ≠ ans r p := by
  rw [opnAt_iff]
  constructor
  · rintro ⟨a, ha, b, hb, e⟩
    by_cases h : ans a p = ans r p
    · exact ⟨b, hb, fun q => e (h.trans q.symm)⟩
    · exact ⟨a, ha, h⟩
  · rintro ⟨o, ho, e⟩
    exact ⟨o, ho, r, hr, e⟩
theorem shut_of {rs : List Row} {p : Nat} {r : Row} (hr : r ∈ rs) : opnAt rs p = false ↔ ∀ o, o ∈ rs → ans o p = ans r p := by
  rw [← Bool.not_eq_true, opnAt_of hr]
  constructor
  · intro h o ho
    exact Classical.byContradiction fun q => h ⟨o, ho, q⟩
  · rintro h ⟨o, ho, e⟩
    exact e (h o ho)
theorem opnAt_sub {rs rs' : List Row} {p : Nat} (hs : ∀ o, o ∈ rs' → o ∈ rs) (h : opnAt rs' p = true) : opnAt rs p = true := by
  obtain ⟨a, ha, b, hb, e⟩ := opnAt_iff.mp h
  exact opnAt_iff.mpr ⟨a, hs a ha, b, hs b hb, e⟩
theorem mem_opn {n : Nat} {rs : List Row} {p : Nat} : p ∈ opn n rs ↔ p < n ∧ opnAt rs p = true := by
  unfold opn; rw [List.mem_filter, List.mem_range]
theorem opn_nodup (n : Nat) (rs : List Row) : (opn n rs).Nodup := List.Pairwise.filter _ List.nodup_range
theorem part_sub {rs : List Row} {p : Nat} {r o : Row} (h : o ∈ part rs p r) : o ∈ rs := (mem_part.mp h).1
/-- behind an open place fewer places are open -/
theorem opn_part_sub {n : Nat} {rs : List Row} {p q : Nat} {r : Row} (h : q ∈ opn n (part rs p r)) : q ∈ opn n rs := by
  have ⟨h1, h2⟩ := mem_opn.mp h
  exact mem_opn.mpr ⟨h1, opnAt_sub (fun o ho => part_sub ho) h2⟩
theorem opn_part_ne {n : Nat} {rs : List Row} {p q : Nat} {r : Row} (h : q ∈ opn n (part rs p r)) : q ≠ p := by
  rintro rfl
  obtain ⟨a, ha, b, hb, e⟩ := opnAt_iff.mp (mem_opn.mp h).2
  exact e ((mem_part.mp ha).2.trans (mem_part.mp hb).2.symm)
theorem nodup_sub_len {α : Type} [BEq α] [LawfulBEq α] : ∀ (l m : List α), l.Nodup → (∀ x, x ∈ l → x ∈ m) → l.length ≤ m.length
  | [], _, _, _ => Nat.zero_le _
  | x :: l, m, hn, hs => by
    have hn' := List.nodup_cons.mp hn
    have hx : x ∈ m := hs x List.mem_cons_self
    have h1 := nodup_sub_len l (m.erase x) hn'.2 fun y hy => by
      have hne : y ≠ x := fun e => hn'.1 (e ▸ hy)
      exact (List.mem_erase_of_ne hne).mpr (hs y (List.mem_cons_of_mem _ hy))
    rw [List.length_erase_of_mem hx] at h1
    have h2 : 0 < m.length := List.length_pos_of_mem hx
    rw [List.length_cons]
    omega
theorem opn_part_lt {n : Nat} {rs : List Row} {p : Nat} {r : Row} (h : p ∈ opn n rs) : (opn n (part rs p r)).length < (opn n rs).length := by
  have h1 := nodup_sub_len (opn n (part rs p r)) ((opn n rs).erase p) (opn_nodup _ _) fun q hq => (List.mem_erase_of_ne (opn_part_ne hq)).mpr (opn_part_sub hq)
  rw [List.length_erase_of_mem h] at h1
  have h2 : 0 < (opn n rs).length := List.length_pos_of_mem h
  omega
theorem part_shut {rs : List Row} {p : Nat} {r : Row} (hr : r ∈ rs) (h : opnAt rs p = false) : part rs p r = rs := by
  unfold part partA
  rw [List.filter_eq_self]
  intro o ho
  simp [(shut_of hr).mp h o ho]
theorem part_comm (rs : List Row) (p q : Nat) (r : Row) : part (part rs p r) q r = part (part rs q r) p r := by
  unfold part partA
  rw [List.filter_filter, List.filter_filter]
  congr 1
  funext o
  rw [Bool.and_comm]

/-! ### least and greatest -/
def minI : List Int → Int
  | [] => 0
  | [x] => x
  | x :: y :: r => min x (minI (y :: r))
def maxI : List Int → Int
  | [] => 0
  | [x] => x
  | x :: y :: r => max x (maxI (y :: r))
theorem minI_spec : ∀ l : List Int, l ≠ [] → minI l ∈ l ∧ ∀ x, x ∈ l → minI l ≤ x
  | [], h => absurd rfl h
  | [x], _ => ⟨List.mem_singleton.mpr rfl, fun y hy => by rw [List.mem_singleton.mp hy]; exact Int.le_refl _⟩
  | x :: y :: r, _ => by
    have ⟨h1, h2⟩ := minI_spec (y :: r) (List.cons_ne_nil _ _)
    show min x (minI (y :: r)) ∈ _ ∧ ∀ z, z ∈ _ → min x (minI (y :: r)) ≤ z
    constructor
    · by_cases c : x ≤ minI (y :: r)
      · rw [Int.min_eq_left c]; exact List.mem_cons_self
      · rw [Int.min_eq_right (by omega)]; exact List.mem_cons_of_mem _ h1
    · intro z hz
      rcases List.mem_cons.mp hz with rfl | hz
      · exact Int.min_le_left _ _
      · exact Int.le_trans (Int.min_le_right _ _) (h2 z hz)
theorem maxI_spec : ∀ l : List Int, l ≠ [] → maxI l ∈ l ∧ ∀ x, x ∈ l → x ≤ maxI l
  | [], h => absurd rfl h
  | [x], _ => ⟨List.mem_singleton.mpr rfl, fun y hy => by rw [List.mem_singleton.mp hy]; exact Int.le_refl _⟩
  | x :: y :: r, _ => by
    have ⟨h1, h2⟩ := maxI_spec (y :: r) (List.cons_ne_nil _ _)
    show max x (maxI (y :: r)) ∈ _ ∧ ∀ z, z ∈ _ → z ≤ max x (maxI (y :: r))
    constructor
    · by_cases c : maxI (y :: r) ≤ x
      · rw [Int.max_eq_left c]; exact List.mem_cons_self
      · rw [Int.max_eq_right (by omega)]; exact List.mem_cons_of_mem _ h1
    · intro z hz
      rcases List.mem_cons.mp hz with rfl | hz
      · exact Int.le_max_left _ _
      · exact Int.le_trans (h2 z hz) (Int.le_max_right _ _)
theorem minI_eq {l : List Int} {m : Int} (h1 : m ∈ l) (h2 : ∀ x, x ∈ l → m ≤ x) : m = minI l := by
  have hn : l ≠ [] := List.ne_nil_of_mem h1
  have ⟨a, b⟩ := minI_spec l hn
  have := h2 _ a
  have := b _ h1
  omega
theorem maxI_eq {l : List Int} {m : Int} (h1 : m ∈ l) (h2 : ∀ x, x ∈ l → x ≤ m) : m = maxI l := by
  have hn : l ≠ [] := List.ne_nil_of_mem h1
  have ⟨a, b⟩ := maxI_spec l hn
  have := h2 _ a
  have := b _ h1
  omega

/-! ### counts -/
def cntF (n : Nat) : Nat → List Row → Row → Int × Int
  | 0, _, _ => (0, 0)
  | k + 1, rs, r => if opn n rs = [] then (0, 0) else
    (1 + minI ((opn n rs).map fun p => (cntF n k (part rs p r) r).1), 1 + maxI ((opn n rs).map fun p => (cntF n k (part rs p r) r).2))
theorem cntF_stable (n : Nat) : ∀ (k j : Nat) (rs : List Row) (r : Row), (opn n rs).length ≤ k → (opn n rs).length ≤ j → cntF n k rs r = cntF n j rs r := by
  intro k
  induction k with
  | zero =>
    intro j rs r h1 _
    have e : opn n rs = [] := List.length_eq_zero_iff.mp (Nat.le_zero.mp h1)
    cases j with
    | zero => rfl
    | succ j => show (0, 0) = _; unfold cntF; rw [if_pos e]
  | succ k ih =>
    intro j rs r h1 h2
    by_cases e : opn n rs = []
    · cases j with
      | zero => unfold cntF; rw [if_pos e]
      | succ j => unfold cntF; rw [if_pos e, if_pos e]
    · cases j with
      | zero => exact absurd (List.length_eq_zero_iff.mp (Nat.le_zero.mp h2)) e
      | succ j =>
        have step : ∀ p, p ∈ opn n rs → cntF n k (part rs p r) r = cntF n j (part rs p r) r := fun p hp => by
          have := opn_part_lt (r := r) hp
          exact ih j _ r (by omega) (by omega)
        unfold cntF
        rw [if_neg e, if_neg e]
        have e1 : (opn n rs).map (fun p => (cntF n k (part rs p r) r).1) = (opn n rs).map fun p => (cntF n j (part rs p r) r).1 := List.map_congr_left fun p hp => by rw [step p hp]
        have e2 : (opn n rs).map (fun p => (cntF n k (part rs p r) r).2) = (opn n rs).map fun p => (cntF n j (part rs p r) r).2 := List.map_congr_left fun p hp => by rw [step p hp]
        rw [e1, e2]
def cnt (n : Nat) (rs : List Row) (r : Row) : Int × Int := cntF n (opn n rs).length rs r
theorem cnt_nil {n : Nat} {rs : List Row} {r : Row} (h : opn n rs = []) : cnt n rs r = (0, 0) := by
  unfold cnt; rw [h]; rfl
theorem cnt_cons {n : Nat} {rs : List Row} {r : Row} (h : opn n rs ≠ []) : cnt n rs r =
    (1 + minI ((opn n rs).map fun p => (cnt n (part rs p r) r).1), 1 + maxI ((opn n rs).map fun p => (cnt n (part rs p r) r).2)) := by
  have h0 : (opn n rs).length ≠ 0 := fun e => h (List.length_eq_zero_iff.mp e)
  obtain ⟨k, hk⟩ : ∃ k, (opn n rs).length = k + 1 := ⟨(opn n rs).length - 1, by omega⟩
  have step : ∀ p, p ∈ opn n rs → cntF n k (part rs p r) r = cnt n (part rs p r) r := fun p hp => by
    have := opn_part_lt (r := r) hp
    exact cntF_stable n _ _ _ _ (by omega) (Nat.le_refl _)
  have e1 : (opn n rs).map (fun p => (cntF n k (part rs p r) r).1) = (opn n rs).map fun p => (cnt n (part rs p r) r).1 := List.map_congr_left fun p hp => by rw [step p hp]
  have e2 : (opn n rs).map (fun p => (cntF n k (part rs p r) r).2) = (opn n rs).map fun p => (cnt n (part rs p r) r).2 := List.map_congr_left fun p hp => by rw [step p hp]
  rw [← e1, ← e2]
  show cntF n (opn n rs).length rs r = _
  rw [hk]
  show (if opn n rs = [] then (0, 0) else _) = _
  rw [if_neg h]
/-- what one step says -/
theorem cnt_step {n : Nat} {rs : List Row} {r : Row} {p : Nat} (hp : p ∈ opn n rs) : (cnt n rs r).1 ≤ 1 + (cnt n (part rs p r) r).1 ∧ 1 + (cnt n (part rs p r) r).2 ≤ (cnt n rs r).2 := by
  have hne : opn n rs ≠ [] := List.ne_nil_of_mem hp
  rw [cnt_cons hne]
  have hm1 : (opn n rs).map (fun p => (cnt n (part rs p r) r).1) ≠ [] := fun e => hne (List.map_eq_nil_iff.mp e)
  have hm2 : (opn n rs).map (fun p => (cnt n (part rs p r) r).2) ≠ [] := fun e => hne (List.map_eq_nil_iff.mp e)
  have a := (minI_spec _ hm1).2 _ (List.mem_map.mpr ⟨p, hp, rfl⟩)
  have b := (maxI_spec _ hm2).2 _ (List.mem_map.mpr ⟨p, hp, rfl⟩)
  constructor
  · show 1 + minI _ ≤ _
    omega
  · show _ ≤ 1 + maxI _
    omega
theorem cnt_ways {n : Nat} {rs : List Row} {r : Row} (hne : opn n rs ≠ []) : (∃ p, p ∈ opn n rs ∧ (cnt n rs r).1 = 1 + (cnt n (part rs p r) r).1) ∧ ∃ p, p ∈ opn n rs ∧ (cnt n rs r).2 = 1 + (cnt n (part rs p r) r).2 := by
  have hm1 : (opn n rs).map (fun p => (cnt n (part rs p r) r).1) ≠ [] := fun e => hne (List.map_eq_nil_iff.mp e)
  have hm2 : (opn n rs).map (fun p => (cnt n (part rs p r) r).2) ≠ [] := fun e => hne (List.map_eq_nil_iff.mp e)
  rw [cnt_cons hne]
  obtain ⟨p, hp, e1⟩ := List.mem_map.mp (minI_spec _ hm1).1
  obtain ⟨q, hq, e2⟩ := List.mem_map.mp (maxI_spec _ hm2).1
  exact ⟨⟨p, hp, by show 1 + minI _ = _; rw [← e1]⟩, ⟨q, hq, by show 1 + maxI _ = _; rw [← e2]⟩⟩
theorem cnt_le (n : Nat) : ∀ (k : Nat) (rs : List Row) (r : Row), (opn n rs).length ≤ k → (cnt n rs r).1 ≤ (cnt n rs r).2 := by
  intro k
  induction k with
  | zero =>
    intro rs r h
    rw [cnt_nil (List.length_eq_zero_iff.mp (Nat.le_zero.mp h))]
    exact Int.le_refl _
  | succ k ih =>
    intro rs r h
    by_cases e : opn n rs = []
    · rw [cnt_nil e]; exact Int.le_refl _
    · obtain ⟨p, hp, e1⟩ := (cnt_ways (r := r) e).1
      have h1 := opn_part_lt (r := r) hp
      have h2 := ih (part rs p r) r (by omega)
      have h3 := (cnt_step (r := r) hp).2
      omega
theorem cnt_le' (n : Nat) (rs : List Row) (r : Row) : (cnt n rs r).1 ≤ (cnt n rs r).2 := cnt_le n _ rs r (Nat.le_refl _)

/-! ### the sixth fact: loose just if both counts are unlike for some row -/
/-- q hangs on p alone -/
def LooseAt (n : Nat) (rs : List Row) (r : Row) (p q : Nat) : Prop := r ∈ rs ∧ p ∈ opn n rs ∧ q ∈ opn n rs ∧ p ≠ q ∧ opnAt (part rs p r) q = false ∧ opnAt (part rs q r) p = true
/-- what is come to by a row's own answers at open places -/
inductive Down (n : Nat) (r : Row) : List Row → List Row → Prop
  | here (rs : List Row) : Down n r rs rs
  | step {rs rs' : List Row} {p : Nat} : p ∈ opn n rs → Down n r (part rs p r) rs' → Down n r rs rs'
theorem Down.mem {n : Nat} {r : Row} {rs rs' : List Row} (d : Down n r rs rs') (h : r ∈ rs) : r ∈ rs' := by
  induction d with
  | here => exact h
  | step _ _ ih => exact ih (self_part h)
theorem Down.snoc {n : Nat} {r : Row} {rs rs' : List Row} {p : Nat} (d : Down n r rs rs') (hp : p ∈ opn n rs') : Down n r rs (part rs' p r) := by
  induction d with
  | here rs => exact .step hp (.here _)
  | step h1 _ ih => exact .step h1 (ih hp)
theorem loose_unlike {n : Nat} {r : Row} {rs rs' : List Row} {p q : Nat} (d : Down n r rs rs') (h : LooseAt n rs' r p q) : (cnt n rs r).1 < (cnt n rs r).2 := by
  induction d with
  | here rs =>
    obtain ⟨hr, hp, hq, hne, h1, h2⟩ := h
    have a := (cnt_step (r := r) hp).1
    have b := (cnt_step (r := r) hq).2
    have hpq : p ∈ opn n (part rs q r) := mem_opn.mpr ⟨(mem_opn.mp hp).1, h2⟩
    have c := (cnt_step (r := r) hpq).2
    have e : part (part rs q r) p r = part rs p r := by
      rw [part_comm]
      exact part_shut (self_part hr) h1
    rw [e] at c
    have d := cnt_le' n (part rs p r) r
    omega
  | step hp _ ih =>
    have a := cnt_step (r := r) hp
    have b := ih h
    omega
theorem alike_of_tight {n : Nat} {r : Row} : ∀ (k : Nat) (rs : List Row), (opn n rs).length ≤ k → r ∈ rs → (∀ rs' p q, Down n r rs rs' → ¬ LooseAt n rs' r p q) → (cnt n rs r).1 = (cnt n rs r).2 := by
  intro k
  induction k with
  | zero =>
    intro rs h _ _
    rw [cnt_nil (List.length_eq_zero_iff.mp (Nat.le_zero.mp h))]
  | succ k ih =>
    intro rs h hr ht
    by_cases e : opn n rs = []
    · rw [cnt_nil e]
    · have sub : ∀ p, p ∈ opn n rs → (cnt n (part rs p r) r).1 = (cnt n (part rs p r) r).2 := fun p hp => by
        have := opn_part_lt (r := r) hp
        exact ih _ (by omega) (self_part hr) fun rs' a b d => ht rs' a b (.step hp d)
      -- all open places lead to one number
      have one : ∀ p q, p ∈ opn n rs → q ∈ opn n rs → (cnt n (part rs p r) r).1 = (cnt n (part rs q r) r).1 := by
        intro p q hp hq
        by_cases hpq : p = q
        · rw [hpq]
        · have t1 := ht rs p q (.here rs)
          have t2 := ht rs q p (.here rs)
          cases c1 : opnAt (part rs p r) q with
          | false =>
            cases c2 : opnAt (part rs q r) p with
            | true => exact absurd ⟨hr, hp, hq, hpq, c1, c2⟩ t1
            | false =>
              have e1 : part (part rs p r) q r = part rs p r := part_shut (self_part hr) c1
              have e2 : part (part rs q r) p r = part rs q r := part_shut (self_part hr) c2
              rw [← e1, part_comm, e2]
          | true =>
            cases c2 : opnAt (part rs q r) p with
            | false => exact absurd ⟨hr, hq, hp, fun z => hpq z.symm, c2, c1⟩ t2
            | true =>
              have m1 : q ∈ opn n (part rs p r) := mem_opn.mpr ⟨(mem_opn.mp hq).1, c1⟩
              have m2 : p ∈ opn n (part rs q r) := mem_opn.mpr ⟨(mem_opn.mp hp).1, c2⟩
              have s1 := cnt_step (r := r) m1
              have s2 := cnt_step (r := r) m2
              rw [part_comm] at s1
              have a1 := sub p hp
              have a2 := sub q hq
              have b := cnt_le' n (part (part rs q r) p r) r
              omega
      obtain ⟨⟨p, hp, e1⟩, q, hq, e2⟩ := cnt_ways (r := r) e
      have a := one p q hp hq
      have b := sub q hq
      omega
theorem unlike_iff {n : Nat} {rs : List Row} {r : Row} (hr : r ∈ rs) : (cnt n rs r).1 ≠ (cnt n rs r).2 ↔ ∃ rs' p q, Down n r rs rs' ∧ LooseAt n rs' r p q := by
  constructor
  · intro h
    refine Classical.byContradiction fun z => h (alike_of_tight _ rs (Nat.le_refl _) hr fun rs' p q d l => z ⟨rs', p, q, d, l⟩)
  · rintro ⟨rs', p, q, d, l⟩
    have := loose_unlike d l
    omega

/-! ### orders -/
def counted : List Row → List Nat → Row → Int
  | _, [], _ => 0
  | rs, p :: o, r => (if (part rs p r).length < rs.length then 1 else 0) + counted (part rs p r) o r
theorem part_len {rs : List Row} {p : Nat} {r : Row} (hr : r ∈ rs) : (part rs p r).length < rs.length ↔ opnAt rs p = true := by
  constructor
  · intro h
    cases c : opnAt rs p with
    | true => rfl
    | false => rw [part_shut hr c] at h; exact absurd h (Nat.lt_irrefl _)
  · intro h
    obtain ⟨o, ho, e⟩ := (opnAt_of hr).mp h
    have h1 : (part rs p r).length ≤ rs.length := List.length_filter_le _ _
    refine Nat.lt_of_le_of_ne h1 fun q => ?_
    have h2 : part rs p r = rs := by
      unfold part partA at q ⊢
      rw [List.filter_eq_self]
      exact List.length_filter_eq_length_iff.mp q
    rw [← h2] at ho
    exact e (mem_part.mp ho).2
theorem counted_cons {rs : List Row} {p : Nat} {o : List Nat} {r : Row} (hr : r ∈ rs) : counted rs (p :: o) r = if opnAt rs p = true then 1 + counted (part rs p r) o r else counted rs o r := by
  show (if (part rs p r).length < rs.length then 1 else 0) + counted (part rs p r) o r = _
  cases c : opnAt rs p with
  | true => rw [if_pos ((part_len hr).mpr c), if_pos rfl]
  | false =>
    have : ¬ (part rs p r).length < rs.length := fun z => by rw [(part_len hr).mp z] at c; cases c
    rw [if_neg this, if_neg Bool.false_ne_true, part_shut hr c]
    omega
theorem counted_between {n : Nat} {r : Row} : ∀ (o : List Nat) (rs : List Row), r ∈ rs → (∀ p, p ∈ o → p < n) → (∀ p, p ∈ opn n rs → p ∈ o) → (cnt n rs r).1 ≤ counted rs o r ∧ counted rs o r ≤ (cnt n rs r).2 := by
  intro o
  induction o with
  | nil =>
    intro rs hr _ hc
    have e : opn n rs = [] := List.eq_nil_iff_forall_not_mem.mpr fun p hp => by
      have := hc p hp
      cases this
    rw [cnt_nil e]
    exact ⟨Int.le_refl _, Int.le_refl _⟩
  | cons p o ih =>
    intro rs hr hb hc
    rw [counted_cons hr]
    cases c : opnAt rs p with
    | true =>
      rw [if_pos rfl]
      have hp : p ∈ opn n rs := mem_opn.mpr ⟨hb p List.mem_cons_self, c⟩
      have h1 := ih (part rs p r) (self_part hr) (fun q hq => hb q (List.mem_cons_of_mem _ hq)) fun q hq => by
        rcases List.mem_cons.mp (hc q (opn_part_sub hq)) with e | h
        · exact absurd e (opn_part_ne hq)
        · exact h
      have h2 := cnt_step (r := r) hp
      omega
    | false =>
      rw [if_neg Bool.false_ne_true]
      refine ih rs hr (fun q hq => hb q (List.mem_cons_of_mem _ hq)) fun q hq => ?_
      rcases List.mem_cons.mp (hc q hq) with e | h
      · have := (mem_opn.mp hq).2
        rw [e, c] at this
        cases this
      · exact h
theorem counted_none {n : Nat} {r : Row} {rs : List Row} (hr : r ∈ rs) (e : opn n rs = []) : ∀ o : List Nat, (∀ p, p ∈ o → p < n) → counted rs o r = 0
  | [], _ => rfl
  | p :: o, h => by
    have c : opnAt rs p = false := by
      cases c : opnAt rs p with
      | false => rfl
      | true =>
        have : p ∈ opn n rs := mem_opn.mpr ⟨h p List.mem_cons_self, c⟩
        rw [e] at this
        cases this
    rw [counted_cons hr, c, if_neg Bool.false_ne_true]
    exact counted_none hr e o fun q hq => h q (List.mem_cons_of_mem _ hq)
/-- a way down that picks an open place by a rule f, told as places -/
theorem way_down {n : Nat} {r : Row} (f : Int × Int → Int) (f0 : f (0, 0) = 0) (pick : ∀ rs : List Row, opn n rs ≠ [] → ∃ p, p ∈ opn n rs ∧ f (cnt n rs r) = 1 + f (cnt n (part rs p r) r)) : ∀ (k : Nat) (rs : List Row), (opn n rs).length ≤ k → r ∈ rs →
    ∃ o : List Nat, o.Nodup ∧ (∀ p, p ∈ o → p ∈ opn n rs) ∧ ∀ rest, (∀ p, p ∈ rest → p < n) → counted rs (o ++ rest) r = f (cnt n rs r) := by
  intro k
  induction k with
  | zero =>
    intro rs h hr
    have e : opn n rs = [] := List.length_eq_zero_iff.mp (Nat.le_zero.mp h)
    refine ⟨[], List.nodup_nil, (fun p hp => nomatch hp), fun rest hb => ?_⟩
    rw [List.nil_append, counted_none hr e rest hb, cnt_nil e, f0]
  | succ k ih =>
    intro rs h hr
    by_cases e : opn n rs = []
    · refine ⟨[], List.nodup_nil, (fun p hp => nomatch hp), fun rest hb => ?_⟩
      rw [List.nil_append, counted_none hr e rest hb, cnt_nil e, f0]
    · obtain ⟨p, hp, e1⟩ := pick rs e
      have hlt := opn_part_lt (r := r) hp
      obtain ⟨o, ho, hs, hc⟩ := ih (part rs p r) (by omega) (self_part hr)
      refine ⟨p :: o, List.nodup_cons.mpr ⟨fun hm => opn_part_ne (hs p hm) rfl, ho⟩, fun q hq => ?_, fun rest hb => ?_⟩
      · rcases List.mem_cons.mp hq with rfl | hq
        · exact hp
        · exact opn_part_sub (hs q hq)
      · rw [List.cons_append, counted_cons hr, (mem_opn.mp hp).2, if_pos rfl, hc rest hb, e1]
def orders (n : Nat) : Nat → List (List Nat)
  | 0 => [[]]
  | k + 1 => (orders n k).flatMap fun o => ((List.range n).filter fun p => !o.contains p).map fun p => o ++ [p]
theorem mem_orders {n : Nat} : ∀ {k : Nat} {o : List Nat}, o ∈ orders n k ↔ o.Nodup ∧ o.length = k ∧ ∀ p, p ∈ o → p < n := by
  intro k
  induction k with
  | zero =>
    intro o
    show o ∈ [[]] ↔ _
    rw [List.mem_singleton]
    constructor
    · rintro rfl; exact ⟨List.nodup_nil, rfl, fun p hp => nomatch hp⟩
    · rintro ⟨_, h, _⟩; exact List.length_eq_zero_iff.mp h
  | succ k ih =>
    intro o
    show o ∈ (orders n k).flatMap _ ↔ _
    rw [List.mem_flatMap]
    constructor
    · rintro ⟨u, hu, ho⟩
      obtain ⟨p, hp, rfl⟩ := List.mem_map.mp ho
      obtain ⟨h1, h2, h3⟩ := ih.mp hu
      have hp' := List.mem_filter.mp hp
      have hlt : p < n := List.mem_range.mp hp'.1
      have hni : p ∉ u := by have := hp'.2; simpa using this
      refine ⟨?_, by rw [List.length_append, h2]; rfl, fun q hq => ?_⟩
      · rw [List.nodup_append]
        refine ⟨h1, List.nodup_cons.mpr ⟨(fun z => nomatch z), List.nodup_nil⟩, fun a ha b hb e => ?_⟩
        rw [List.mem_singleton.mp hb] at e
        exact hni (e ▸ ha)
      · rcases List.mem_append.mp hq with h | h
        · exact h3 q h
        · rw [List.mem_singleton.mp h]; exact hlt
    · rintro ⟨h1, h2, h3⟩
      have hne : o ≠ [] := fun e => by rw [e] at h2; cases h2
      have e := List.dropLast_concat_getLast hne
      refine ⟨o.dropLast, ih.mpr ⟨?_, by rw [List.length_dropLast, h2]; rfl, fun q hq => h3 q (List.dropLast_subset o hq)⟩, List.mem_map.mpr ⟨o.getLast hne, List.mem_filter.mpr ⟨List.mem_range.mpr (h3 _ (List.getLast_mem hne)), ?_⟩, e⟩⟩
      · exact List.Nodup.sublist (List.dropLast_sublist o) h1
      · rw [← e, List.nodup_append] at h1
        have : o.getLast hne ∉ o.dropLast := fun z => h1.2.2 _ z _ (List.mem_singleton.mpr rfl) rfl
        simpa using this
theorem order_full {n : Nat} {o : List Nat} (h : o ∈ orders n n) {p : Nat} (hp : p < n) : p ∈ o := by
  obtain ⟨h1, h2, h3⟩ := mem_orders.mp h
  refine Classical.byContradiction fun z => ?_
  have := nodup_sub_len (p :: o) (List.range n) (List.nodup_cons.mpr ⟨z, h1⟩) fun q hq => by
    rcases List.mem_cons.mp hq with rfl | hq
    · exact List.mem_range.mpr hp
    · exact List.mem_range.mpr (h3 q hq)
  rw [List.length_cons, List.length_range] at this
  omega
/-- any nodup list of places can be led on to an order of all -/
theorem order_on {n : Nat} {o : List Nat} (h1 : o.Nodup) (h2 : ∀ p, p ∈ o → p < n) : ∃ rest, (∀ p, p ∈ rest → p < n) ∧ o ++ rest ∈ orders n n := by
  have hb : ∀ p, p ∈ (List.range n).filter (fun p => !o.contains p) → p < n ∧ p ∉ o := fun p hp => by
    have := List.mem_filter.mp hp
    exact ⟨List.mem_range.mp this.1, by simpa using this.2⟩
  have nd : (o ++ (List.range n).filter fun p => !o.contains p).Nodup := by
    rw [List.nodup_append]
    refine ⟨h1, List.Pairwise.filter _ List.nodup_range, fun a ha b hb' e => (hb b hb').2 (e ▸ ha)⟩
  have sub : ∀ p, p ∈ o ++ (List.range n).filter (fun p => !o.contains p) → p < n := fun p hp => by
    rcases List.mem_append.mp hp with h | h
    · exact h2 p h
    · exact (hb p h).1
  refine ⟨_, fun p hp => (hb p hp).1, mem_orders.mpr ⟨nd, Nat.le_antisymm ?_ ?_, sub⟩⟩
  · have := nodup_sub_len _ (List.range n) nd fun q hq => List.mem_range.mpr (sub q hq)
    rw [List.length_range] at this
    exact this
  · have := nodup_sub_len (List.range n) (o ++ (List.range n).filter fun p => !o.contains p) List.nodup_range fun q hq => by
      by_cases c : q ∈ o
      · exact List.mem_append_left _ c
      · exact List.mem_append_right _ (List.mem_filter.mpr ⟨hq, by simpa using c⟩)
    rw [List.length_range] at this
    exact this
theorem order_attains {n : Nat} {rs : List Row} {r : Row} (hr : r ∈ rs) : (∃ o, o ∈ orders n n ∧ counted rs o r = (cnt n rs r).1) ∧ ∃ o, o ∈ orders n n ∧ counted rs o r = (cnt n rs r).2 := by
  constructor
  · obtain ⟨o, h1, h2, h3⟩ := way_down (n := n) (r := r) (fun z => z.1) rfl (fun rs e => (cnt_ways e).1) _ rs (Nat.le_refl _) hr
    obtain ⟨rest, h4, h5⟩ := order_on (n := n) h1 fun p hp => (mem_opn.mp (h2 p hp)).1
    exact ⟨_, h5, h3 rest h4⟩
  · obtain ⟨o, h1, h2, h3⟩ := way_down (n := n) (r := r) (fun z => z.2) rfl (fun rs e => (cnt_ways e).2) _ rs (Nat.le_refl _) hr
    obtain ⟨rest, h4, h5⟩ := order_on (n := n) h1 fun p hp => (mem_opn.mp (h2 p hp)).1
    exact ⟨_, h5, h3 rest h4⟩
def numbers (n : Nat) (rs : List Row) (r : Row) : List Int := (orders n n).map fun o => counted rs o r
theorem numbers_min {n : Nat} {rs : List Row} {r : Row} (hr : r ∈ rs) {m : Int} (h1 : m ∈ numbers n rs r) (h2 : ∀ y, y ∈ numbers n rs r → m ≤ y) : m = (cnt n rs r).1 := by
  obtain ⟨o, ho, e⟩ := (order_attains (n := n) hr).1
  have a := h2 _ (List.mem_map.mpr ⟨o, ho, rfl⟩)
  obtain ⟨u, hu, eu⟩ := List.mem_map.mp h1
  have b := counted_between (n := n) u rs hr (mem_orders.mp hu).2.2 fun p hp => order_full hu (mem_opn.mp hp).1

  omega
theorem numbers_max {n : Nat} {rs : List Row} {r : Row} (hr : r ∈ rs) {m : Int} (h1 : m ∈ numbers n rs r) (h2 : ∀ y, y ∈ numbers n rs r → y ≤ m) : m = (cnt n rs r).2 := by
  obtain ⟨o, ho, e⟩ := (order_attains (n := n) hr).2
  have a := h2 _ (List.mem_map.mpr ⟨o, ho, rfl⟩)
  obtain ⟨u, hu, eu⟩ := List.mem_map.mp h1
  have b := counted_between (n := n) u rs hr (mem_orders.mp hu).2.2 fun p hp => order_full hu (mem_opn.mp hp).1

  omega
theorem numbers_pos {n : Nat} {rs : List Row} {r : Row} (hr : r ∈ rs) : 0 < (numbers n rs r).length := by
  obtain ⟨o, ho, _⟩ := (order_attains (n := n) hr).1
  exact List.length_pos_of_mem (List.mem_map.mpr ⟨o, ho, rfl⟩)
end K71
/-! k71: standings, what fits, what is reached. -/
namespace K71
abbrev Std := List (Option Int)
def fitsAt (o : Option Int) (v : Int) : Bool := match o with
  | none => true
  | some x => x == v
def tell (st : Std) (p : Nat) : Option Int := st.getD p none
def fits (st : Std) (r : Row) : Bool := (List.range st.length).all fun i => fitsAt (tell st i) (ans r i)
def fit (rs : List Row) (st : Std) : List Row := rs.filter (fits st)
theorem fits_iff {st : Std} {r : Row} : fits st r = true ↔ ∀ i, i < st.length → ∀ x, tell st i = some x → x = ans r i := by
  unfold fits
  rw [List.all_eq_true]
  constructor
  · intro h i hi x e
    have := h i (List.mem_range.mpr hi)
    rw [e] at this
    simpa [fitsAt] using this
  · intro h i hi
    have := h i (List.mem_range.mp hi)
    cases e : tell st i with
    | none => rfl
    | some x => rw [this x e]; simp [fitsAt]
theorem mem_fit {rs : List Row} {st : Std} {r : Row} : r ∈ fit rs st ↔ r ∈ rs ∧ fits st r = true := List.mem_filter
theorem tell_set {st : Std} {p : Nat} {o : Option Int} (hp : p < st.length) (i : Nat) : tell (st.set p o) i = if i = p then o else tell st i := by
  unfold tell
  rw [List.getD_eq_getElem?_getD, List.getD_eq_getElem?_getD, List.getElem?_set]
  by_cases h : p = i
  · subst h
    rw [if_pos rfl, if_pos hp, if_pos rfl]
    rfl
  · rw [if_neg h, if_neg fun z => h z.symm]
theorem fits_set {st : Std} {p : Nat} {a : Int} {r : Row} (hp : p < st.length) (h0 : tell st p = none) : fits (st.set p (some a)) r = (fits st r && (ans r p == a)) := by
  rw [Bool.eq_iff_iff, Bool.and_eq_true, fits_iff, fits_iff, List.length_set]
  constructor
  · intro h
    constructor
    · intro i hi x e
      refine h i hi x ?_
      rw [tell_set hp]
      by_cases c : i = p
      · subst c; rw [h0] at e; cases e
      · rw [if_neg c]; exact e
    · have := h p hp a (by rw [tell_set hp, if_pos rfl])
      rw [this]; simp
  · rintro ⟨h1, h2⟩ i hi x e
    rw [tell_set hp] at e
    by_cases c : i = p
    · subst c
      rw [if_pos rfl] at e
      cases e
      simpa using (beq_iff_eq.mp h2).symm
    · rw [if_neg c] at e
      exact h1 i hi x e
theorem fit_set {rs : List Row} {st : Std} {p : Nat} {a : Int} (hp : p < st.length) (h0 : tell st p = none) : fit rs (st.set p (some a)) = partA (fit rs st) p a := by
  unfold fit partA
  rw [List.filter_filter]
  congr 1
  funext r
  rw [fits_set hp h0, Bool.and_comm]
def begin_ (n : Nat) : Std := List.replicate n none
theorem tell_begin (n i : Nat) : tell (begin_ n) i = none := by
  unfold tell begin_
  rw [List.getD_eq_getElem?_getD, List.getElem?_replicate]
  by_cases h : i < n
  · rw [if_pos h]; rfl
  · rw [if_neg h]; rfl
theorem fit_begin (n : Nat) (rs : List Row) : fit rs (begin_ n) = rs := by
  unfold fit
  rw [List.filter_eq_self]
  intro r _
  rw [fits_iff]
  intro i _ x e
  rw [tell_begin] at e
  cases e
/-- a told place is shut -/
theorem told_shut {rs : List Row} {st : Std} {p : Nat} {x : Int} (hp : p < st.length) (h : tell st p = some x) : opnAt (fit rs st) p = false := by
  cases c : opnAt (fit rs st) p with
  | false => rfl
  | true =>
    obtain ⟨a, ha, b, hb, e⟩ := opnAt_iff.mp c
    have h1 := fits_iff.mp (mem_fit.mp ha).2 p hp x h
    have h2 := fits_iff.mp (mem_fit.mp hb).2 p hp x h
    exact absurd (h1.symm.trans h2) e
inductive Reached (n : Nat) (rs : List Row) : Std → Prop
  | start : Reached n rs (begin_ n)
  | step {st : Std} {p : Nat} {r : Row} : Reached n rs st → p ∈ opn n (fit rs st) → r ∈ fit rs st → Reached n rs (st.set p (some (ans r p)))
theorem Reached.len {n : Nat} {rs : List Row} {st : Std} (h : Reached n rs st) : st.length = n := by
  induction h with
  | start => exact List.length_replicate
  | step _ _ _ ih => rw [List.length_set, ih]
theorem open_untold {n : Nat} {rs : List Row} {st : Std} {p : Nat} (hl : st.length = n) (hp : p ∈ opn n (fit rs st)) : p < st.length ∧ tell st p = none := by
  have ⟨h1, h2⟩ := mem_opn.mp hp
  refine ⟨by omega, ?_⟩
  cases c : tell st p with
  | none => rfl
  | some x => rw [told_shut (by omega) c] at h2; cases h2
theorem Reached.down {n : Nat} {rs : List Row} {st : Std} {r : Row} (h : Reached n rs st) (hr : r ∈ fit rs st) : Down n r rs (fit rs st) := by
  induction h with
  | start => rw [fit_begin]; exact .here rs
  | @step st p r0 h0 hp h1 ih =>
    obtain ⟨q1, q2⟩ := open_untold h0.len hp
    rw [fit_set q1 q2] at hr ⊢
    obtain ⟨m1, m2⟩ := mem_partA.mp hr
    rw [← m2]
    exact (ih m1).snoc hp
theorem reached_of_down {n : Nat} {rs : List Row} {r : Row} (hr : r ∈ rs) : ∀ {A B : List Row}, Down n r A B → ∀ st, Reached n rs st → fit rs st = A → r ∈ A → ∃ st', Reached n rs st' ∧ fit rs st' = B := by
  intro A B d
  induction d with
  | here A => intro st h e _; exact ⟨st, h, e⟩
  | @step A B p hp _ ih =>
    intro st h e hA
    subst e
    obtain ⟨q1, q2⟩ := open_untold h.len hp
    refine ih (st.set p (some (ans r p))) (.step h hp hA) ?_ (self_part hA)
    rw [fit_set q1 q2]
    rfl
/-- unlike counts for some row just where something is loose at a reached standing -/
theorem unlike_reached {n : Nat} {rs : List Row} : (∃ r, r ∈ rs ∧ (cnt n rs r).1 ≠ (cnt n rs r).2) ↔ ∃ st r p q, Reached n rs st ∧ LooseAt n (fit rs st) r p q := by
  constructor
  · rintro ⟨r, hr, h⟩
    obtain ⟨rs', p, q, d, l⟩ := (unlike_iff hr).mp h
    obtain ⟨st, h1, h2⟩ := reached_of_down hr d (begin_ n) .start (fit_begin n rs) hr
    exact ⟨st, r, p, q, h1, by rw [h2]; exact l⟩
  · rintro ⟨st, r, p, q, h1, l⟩
    have hr : r ∈ fit rs st := l.1
    have hm : r ∈ rs := (mem_fit.mp hr).1
    exact ⟨r, hm, (unlike_iff hm).mpr ⟨_, p, q, h1.down hr, l⟩⟩
end K71
/-! k71: the answers in the order in which they are met. -/
namespace K71
def firstsOn (p : Nat) (acc : List Int) (r : Row) : List Int := if acc.contains (ans r p) then acc else acc ++ [ans r p]
def firsts (rs : List Row) (p : Nat) : List Int := rs.foldl (firstsOn p) []
theorem firsts_snoc (rs : List Row) (p : Nat) (r : Row) : firsts (rs ++ [r]) p = firstsOn p (firsts rs p) r := by
  unfold firsts
  rw [List.foldl_append]
  rfl
theorem snoc_ind {α : Type} {P : List α → Prop} (h0 : P []) (h1 : ∀ l x, P l → P (l ++ [x])) : ∀ l, P l := by
  intro l
  have : ∀ n (l : List α), l.length = n → P l := by
    intro n
    induction n with
    | zero => intro l e; rw [List.length_eq_zero_iff.mp e]; exact h0
    | succ n ih =>
      intro l e
      have hne : l ≠ [] := fun z => by rw [z] at e; cases e
      rw [← List.dropLast_concat_getLast hne]
      exact h1 _ _ (ih _ (by rw [List.length_dropLast, e]; rfl))
  exact this _ l rfl
theorem firsts_spec (p : Nat) (rs : List Row) : (firsts rs p).Nodup ∧ ∀ a, a ∈ firsts rs p ↔ ∃ r, r ∈ rs ∧ ans r p = a := by
  induction rs using snoc_ind with
  | h0 => exact ⟨List.nodup_nil, fun a => ⟨fun h => (by cases h), fun ⟨r, h, _⟩ => (by cases h)⟩⟩
  | h1 rs r ih =>
    obtain ⟨h1, h2⟩ := ih
    rw [firsts_snoc]
    unfold firstsOn
    by_cases c : (firsts rs p).contains (ans r p) = true
    · rw [if_pos c]
      refine ⟨h1, fun a => ?_⟩
      rw [h2]
      constructor
      · rintro ⟨q, hq, e⟩; exact ⟨q, List.mem_append_left _ hq, e⟩
      · rintro ⟨q, hq, e⟩
        rcases List.mem_append.mp hq with hq | hq
        · exact ⟨q, hq, e⟩
        · rw [List.mem_singleton.mp hq] at e
          exact (h2 a).mp (by rw [← e]; exact List.contains_iff_mem.mp c)
    · rw [if_neg c]
      have c' : ans r p ∉ firsts rs p := fun z => c (List.contains_iff_mem.mpr z)
      refine ⟨?_, fun a => ?_⟩
      · rw [List.nodup_append]
        refine ⟨h1, List.nodup_cons.mpr ⟨(fun z => nomatch z), List.nodup_nil⟩, fun a ha b hb e => ?_⟩
        rw [List.mem_singleton.mp hb] at e
        exact c' (e ▸ ha)
      · rw [List.mem_append, h2, List.mem_singleton]
        constructor
        · rintro (⟨q, hq, e⟩ | e)
          · exact ⟨q, List.mem_append_left _ hq, e⟩
          · exact ⟨r, List.mem_append_right _ (List.mem_singleton.mpr rfl), e.symm⟩
        · rintro ⟨q, hq, e⟩
          rcases List.mem_append.mp hq with hq | hq
          · exact .inl ⟨q, hq, e⟩
          · rw [List.mem_singleton.mp hq] at e
            exact .inr e.symm
theorem mem_firsts {p : Nat} {rs : List Row} {a : Int} : a ∈ firsts rs p ↔ ∃ r, r ∈ rs ∧ ans r p = a := (firsts_spec p rs).2 a
theorem firsts_nodup (p : Nat) (rs : List Row) : (firsts rs p).Nodup := (firsts_spec p rs).1
theorem firsts_len (p : Nat) (rs : List Row) : (firsts rs p).length ≤ rs.length := by
  have := nodup_sub_len (firsts rs p) (rs.map fun r => ans r p) (firsts_nodup p rs) fun a h => by
    obtain ⟨r, hr, e⟩ := mem_firsts.mp h
    exact List.mem_map.mpr ⟨r, hr, e⟩
  rwa [List.length_map] at this
end K71
set_option Elab.async false
set_option linter.all false
/-! k71: all standings that are reached, found in depth. -/
namespace K71
def push (s : List Std × List Std) (t : Std) : List Std × List Std := if t ∈ s.1 then s else (s.1 ++ [t], s.2 ++ [t])
def Kid (n : Nat) (rs : List Row) (t u : Std) : Prop := ∃ p, p ∈ opn n (fit rs t) ∧ ∃ r, r ∈ fit rs t ∧ u = t.set p (some (ans r p))
theorem Reached.kid {n : Nat} {rs : List Row} {t u : Std} (h : Reached n rs t) (k : Kid n rs t u) : Reached n rs u := by
  obtain ⟨p, hp, r, hr, rfl⟩ := k
  exact .step h hp hr
def masks : Row → List Std
  | [] => [[]]
  | a :: r => (masks r).flatMap fun m => [none :: m, some a :: m]
theorem masks_len : ∀ r : Row, (masks r).length = 2 ^ r.length
  | [] => rfl
  | a :: r => by
    show ((masks r).flatMap fun m => [none :: m, some a :: m]).length = 2 ^ (r.length + 1)
    rw [List.length_flatMap]
    have := masks_len r
    have e : ((masks r).map fun m => [none :: m, some a :: m].length).sum = (masks r).length * 2 := by
      generalize masks r = l
      induction l with
      | nil => rfl
      | cons x l ih =>
        rw [List.map_cons, List.sum_cons, ih, List.length_cons]
        show 2 + l.length * 2 = (l.length + 1) * 2
        omega
    rw [e, this, Nat.pow_succ]
theorem mem_masks : ∀ {r : Row} {t : Std}, t.length = r.length → (∀ i, i < t.length → ∀ x, tell t i = some x → x = ans r i) → t ∈ masks r
  | [], [], _, _ => List.mem_singleton.mpr rfl
  | [], _ :: _, h, _ => by cases h
  | _ :: _, [], h, _ => by cases h
  | a :: r, o :: t, h, q => by
    have ih : t ∈ masks r := mem_masks (by simpa using h) fun i hi x hx => q (i + 1) (by simpa using hi) x hx
    refine List.mem_flatMap.mpr ⟨t, ih, ?_⟩
    cases o with
    | none => exact List.mem_cons_self
    | some b =>
      have : b = a := q 0 (by simp) b rfl
      rw [this]
      exact List.mem_cons_of_mem _ List.mem_cons_self
theorem Reached.ne {n : Nat} {rs : List Row} {t : Std} (h : Reached n rs t) (hne : rs ≠ []) : ∃ r, r ∈ rs ∧ r ∈ fit rs t := by
  have : ∃ r, r ∈ fit rs t := by
    induction h with
    | start =>
      rw [fit_begin]
      cases rs with
      | nil => exact absurd rfl hne
      | cons r _ => exact ⟨r, List.mem_cons_self⟩
    | @step st p r h1 h2 h3 ih =>
      have o := open_untold h1.len h2
      refine ⟨r, ?_⟩
      rw [fit_set o.1 o.2]
      exact mem_partA.mpr ⟨h3, rfl⟩
  obtain ⟨r, hr⟩ := this
  exact ⟨r, (mem_fit.mp hr).1, hr⟩
/-- how many there can be -/
def most (n : Nat) (rs : List Row) : Nat := rs.length * 2 ^ n
theorem reached_few {n : Nat} {rs : List Row} (hw : ∀ r, r ∈ rs → r.length = n) (hne : rs ≠ []) {f : List Std} (nd : f.Nodup) (re : ∀ t, t ∈ f → Reached n rs t) : f.length ≤ most n rs := by
  have h1 := nodup_sub_len f (rs.flatMap masks) nd fun t ht => by
    obtain ⟨r, hr, hf⟩ := (re t ht).ne hne
    refine List.mem_flatMap.mpr ⟨r, hr, mem_masks ?_ (fits_iff.mp (mem_fit.mp hf).2)⟩
    rw [(re t ht).len, hw r hr]
  refine Nat.le_trans h1 ?_
  rw [List.length_flatMap]
  unfold most
  clear h1 nd re hne
  induction rs with
  | nil => exact Nat.zero_le _
  | cons x l ih =>
    rw [List.map_cons, List.sum_cons, List.length_cons, masks_len, hw x List.mem_cons_self, Nat.add_mul, Nat.one_mul]
    have := ih fun r hr => hw r (List.mem_cons_of_mem _ hr)
    omega
/-- what holds of what is found, what waits -/
structure DInv (n : Nat) (rs : List Row) (s : List Std × List Std) : Prop where
  nd : s.1.Nodup
  re : ∀ t, t ∈ s.1 → Reached n rs t
  sub : ∀ t, t ∈ s.2 → t ∈ s.1
  beg : begin_ n ∈ s.1
  le : s.2.length ≤ s.1.length
theorem push_len (s : List Std × List Std) (t : Std) : (push s t).2.length + s.1.length = (push s t).1.length + s.2.length := by
  unfold push
  by_cases h : t ∈ s.1
  · rw [if_pos h]; omega
  · rw [if_neg h]; simp only [List.length_append, List.length_singleton]; omega
theorem push_le (s : List Std × List Std) (t : Std) : s.1.length ≤ (push s t).1.length := by
  unfold push
  by_cases h : t ∈ s.1
  · rw [if_pos h]; exact Nat.le_refl _
  · rw [if_neg h]; simp only [List.length_append, List.length_singleton]; omega
theorem push_sub (s : List Std × List Std) (t : Std) : ∀ u, u ∈ s.1 → u ∈ (push s t).1 := by
  intro u hu
  unfold push
  by_cases h : t ∈ s.1
  · rw [if_pos h]; exact hu
  · rw [if_neg h]; exact List.mem_append_left _ hu
theorem push_mem (s : List Std × List Std) (t : Std) : t ∈ (push s t).1 := by
  unfold push
  by_cases h : t ∈ s.1
  · rw [if_pos h]; exact h
  · rw [if_neg h]; exact List.mem_append_right _ List.mem_cons_self
/-- what is found and waits no more stays so -/
theorem push_wait (s : List Std × List Std) (t u : Std) (h1 : u ∈ (push s t).1) (h2 : u ∉ (push s t).2) : u ∈ s.1 ∧ u ∉ s.2 := by
  unfold push at h1 h2
  by_cases h : t ∈ s.1
  · rw [if_pos h] at h1 h2; exact ⟨h1, h2⟩
  · rw [if_neg h] at h1 h2
    have h2 : u ∉ s.2 ++ [t] := h2
    have h1 : u ∈ s.1 ++ [t] := h1
    rw [List.mem_append] at h1 h2
    rcases h1 with h1 | h1
    · exact ⟨h1, fun z => h2 (.inl z)⟩
    · exact absurd (.inr h1) h2
theorem DInv.push {n : Nat} {rs : List Row} {s : List Std × List Std} (h : DInv n rs s) {t : Std} (ht : Reached n rs t) : DInv n rs (push s t) := by
  unfold K71.push
  by_cases c : t ∈ s.1
  · rw [if_pos c]; exact h
  · rw [if_neg c]
    refine ⟨?_, fun u hu => ?_, fun u hu => ?_, List.mem_append_left _ h.beg, by have := h.le; simp only [List.length_append, List.length_singleton]; omega⟩
    · rw [List.nodup_append]
      refine ⟨h.nd, List.nodup_cons.mpr ⟨(fun z => nomatch z), List.nodup_nil⟩, fun x hx y hy e => ?_⟩
      rw [List.mem_singleton.mp hy] at e
      exact c (e ▸ hx)
    · rcases List.mem_append.mp hu with hu | hu
      · exact h.re u hu
      · rw [List.mem_singleton.mp hu]; exact ht
    · rcases List.mem_append.mp hu with hu | hu
      · exact List.mem_append_left _ (h.sub u hu)
      · exact List.mem_append_right _ hu
structure Pushed (s s' : List Std × List Std) : Prop where
  len : s'.2.length + s.1.length = s'.1.length + s.2.length
  le : s.1.length ≤ s'.1.length
  sub : ∀ u, u ∈ s.1 → u ∈ s'.1
  wait : ∀ u, u ∈ s'.1 → u ∉ s'.2 → u ∈ s.1 ∧ u ∉ s.2
theorem Pushed.refl (s : List Std × List Std) : Pushed s s := ⟨by omega, Nat.le_refl _, fun _ h => h, fun _ a b => ⟨a, b⟩⟩
theorem Pushed.one (s : List Std × List Std) (t : Std) : Pushed s (push s t) := ⟨push_len s t, push_le s t, push_sub s t, push_wait s t⟩
theorem Pushed.trans {s1 s2 s3 : List Std × List Std} (a : Pushed s1 s2) (b : Pushed s2 s3) : Pushed s1 s3 :=
  ⟨by have := a.len; have := b.len; omega, Nat.le_trans a.le b.le, fun u h => b.sub u (a.sub u h), fun u h1 h2 => let ⟨x, y⟩ := b.wait u h1 h2; a.wait u x y⟩
theorem fold_pushed {n : Nat} {rs : List Row} : ∀ (l : List Std) (s : List Std × List Std), DInv n rs s → (∀ t, t ∈ l → Reached n rs t) → DInv n rs (l.foldl push s) ∧ Pushed s (l.foldl push s) ∧ ∀ t, t ∈ l → t ∈ (l.foldl push s).1
  | [], s, h, _ => ⟨h, .refl s, (fun t ht => nomatch ht)⟩
  | t :: l, s, h, r => by
    obtain ⟨a, b, c⟩ := fold_pushed l (push s t) (h.push (r t List.mem_cons_self)) fun u hu => r u (List.mem_cons_of_mem _ hu)
    refine ⟨a, (Pushed.one s t).trans b, fun u hu => ?_⟩
    rcases List.mem_cons.mp hu with rfl | hu
    · exact b.sub _ (push_mem s u)
    · exact c u hu
/-- all that is found and waits no more has its kids found -/
def Closed (n : Nat) (rs : List Row) (s : List Std × List Std) : Prop := ∀ t, t ∈ s.1 → t ∉ s.2 → ∀ u, Kid n rs t u → u ∈ s.1
def mu (n : Nat) (rs : List Row) (s : List Std × List Std) : Nat := 2 * (most n rs - s.1.length) + s.2.length
theorem dinv_pop {n : Nat} {rs : List Row} {f w : List Std} {h : Std} (D : DInv n rs (f, w ++ [h])) : DInv n rs (f, w) ∧ h ∈ f := ⟨⟨D.nd, D.re, fun t ht => D.sub t (List.mem_append_left _ ht), D.beg, by have := D.le; simp only [List.length_append, List.length_singleton] at this; show w.length ≤ f.length; omega⟩, D.sub h (List.mem_append_right _ List.mem_cons_self)⟩
theorem step_ok {n : Nat} {rs : List Row} (hw : ∀ r, r ∈ rs → r.length = n) (hne : rs ≠ []) {f w : List Std} {h : Std} (C : Closed n rs (f, w ++ [h])) {s' : List Std × List Std} (D' : DInv n rs s') (p : Pushed (f, w) s') (all : ∀ u, Kid n rs h u → u ∈ s'.1) :
    Closed n rs s' ∧ mu n rs s' < mu n rs (f, w ++ [h]) := by
  constructor
  · intro t ht hn u ku
    obtain ⟨h1, h2⟩ := p.wait t ht hn
    by_cases c : t = h
    · exact all u (c ▸ ku)
    · refine p.sub u (C t h1 (fun z => ?_) u ku)
      rcases List.mem_append.mp z with z | z
      · exact h2 z
      · exact c (List.mem_singleton.mp z)
  · have e := p.len
    have b := reached_few hw hne D'.nd D'.re
    have e : s'.2.length + f.length = s'.1.length + w.length := e
    have l1 : f.length ≤ s'.1.length := p.le
    unfold mu
    show 2 * (most n rs - s'.1.length) + s'.2.length < 2 * (most n rs - f.length) + (w ++ [h]).length
    rw [List.length_append, List.length_singleton]
    omega
theorem reached_all {n : Nat} {rs : List Row} {f : List Std} (D : DInv n rs (f, [])) (C : Closed n rs (f, [])) {t : Std} : t ∈ f ↔ Reached n rs t := by
  refine ⟨D.re t, fun h => ?_⟩
  induction h with
  | start => exact D.beg
  | @step st p r h1 h2 h3 ih => exact C st ih (fun z => nomatch z) _ ⟨p, h2, r, h3, rfl⟩
/-- the way of the program -/
def kidsP (n : Nat) (rs : List Row) (t : Std) : List Std := (opn n (fit rs t)).flatMap fun p => (firsts (fit rs t) p).map fun a => t.set p (some a)
theorem mem_kidsP {n : Nat} {rs : List Row} {t u : Std} : u ∈ kidsP n rs t ↔ Kid n rs t u := by
  unfold kidsP
  rw [List.mem_flatMap]
  constructor
  · rintro ⟨p, hp, hu⟩
    obtain ⟨a, ha, rfl⟩ := List.mem_map.mp hu
    obtain ⟨r, hr, rfl⟩ := mem_firsts.mp ha
    exact ⟨p, hp, r, hr, rfl⟩
  · rintro ⟨p, hp, r, hr, rfl⟩
    exact ⟨p, hp, List.mem_map.mpr ⟨_, mem_firsts.mpr ⟨r, hr, rfl⟩, rfl⟩⟩
def dfs (n : Nat) (rs : List Row) : Nat → List Std × List Std → List Std
  | 0, s => s.1
  | k + 1, s => match s.2.getLast? with
    | none => s.1
    | some h => dfs n rs k ((kidsP n rs h).foldl push (s.1, s.2.dropLast))
def reachP (n : Nat) (rs : List Row) : List Std := dfs n rs (2 * most n rs + 1) ([begin_ n], [begin_ n])
theorem dfs_step {n : Nat} {rs : List Row} {k : Nat} {f w : List Std} {h : Std} : dfs n rs (k + 1) (f, w ++ [h]) = dfs n rs k ((kidsP n rs h).foldl push (f, w)) := by
  conv => lhs; unfold dfs
  have e1 : (w ++ [h]).getLast? = some h := by simp
  have e2 : (w ++ [h]).dropLast = w := List.dropLast_concat
  simp only [e1, e2]
theorem dfs_end {n : Nat} {rs : List Row} {f : List Std} : ∀ k : Nat, dfs n rs k (f, []) = f
  | 0 => rfl
  | _ + 1 => rfl
theorem dinv_start (n : Nat) (rs : List Row) : DInv n rs ([begin_ n], [begin_ n]) :=
  ⟨List.nodup_cons.mpr ⟨(fun z => nomatch z), List.nodup_nil⟩, fun t ht => by rw [List.mem_singleton.mp ht]; exact .start, fun t ht => ht, List.mem_cons_self, Nat.le_refl _⟩
theorem closed_start (n : Nat) (rs : List Row) : Closed n rs ([begin_ n], [begin_ n]) := fun t ht hn => absurd ht hn
theorem mu_start (n : Nat) (rs : List Row) : mu n rs ([begin_ n], [begin_ n]) ≤ 2 * most n rs + 1 := by
  show 2 * (most n rs - 1) + 1 ≤ _
  omega
theorem mem_reachP {n : Nat} {rs : List Row} (hw : ∀ r, r ∈ rs → r.length = n) (hne : rs ≠ []) {t : Std} : t ∈ reachP n rs ↔ Reached n rs t := by
  have go : ∀ (k : Nat) (s : List Std × List Std), DInv n rs s → Closed n rs s → mu n rs s ≤ k → (t ∈ dfs n rs k s ↔ Reached n rs t) := by
    intro k
    induction k with
    | zero =>
      intro s D C hm
      obtain ⟨f, w⟩ := s
      have : w = [] := by
        unfold mu at hm
        have : w.length = 0 := by
          have hm : 2 * (most n rs - f.length) + w.length ≤ 0 := hm
          omega
        exact List.length_eq_zero_iff.mp this
      subst this
      exact reached_all D C
    | succ k ih =>
      intro s D C hm
      obtain ⟨f, w⟩ := s
      induction w using snoc_ind with
      | h0 => exact reached_all D C
      | h1 w h _ =>
        rw [dfs_step]
        obtain ⟨D0, hh⟩ := dinv_pop D
        have R := D.re h hh
        obtain ⟨a, b, c⟩ := fold_pushed (kidsP n rs h) (f, w) D0 fun u hu => R.kid (mem_kidsP.mp hu)
        obtain ⟨C', m'⟩ := step_ok hw hne C a b fun u ku => c u (mem_kidsP.mpr ku)
        exact ih _ a C' (by omega)
  exact go _ _ (dinv_start n rs) (closed_start n rs) (mu_start n rs)
end K71
set_option Elab.async false
set_option linter.all false
set_option maxRecDepth 100000
/-! k71: the text by places, the names of each def by slots. -/
namespace K71
open PySem PySem.Spec PyProof.Rows L2
def top (i : Nat) : Stmt := PySem.Challenge.pw_likeslips_k71_whole_hanging_and_counts.main.body.getD i (.Pass ⟨0, 0, 0, 0⟩)
abbrev s_is_integer : Stmt := top 7
abbrev n_is_integer : List Str := ["thing"]
abbrev p_is_integer : List Str := ["thing"]
theorem sc_is_integer : FnScope n_is_integer p_is_integer (defScope s_is_integer) := ⟨rfl, rfl, rfl, by decide +kernel, rfl, by decide +kernel, by decide +kernel⟩
abbrev s_differing : Stmt := top 8
abbrev n_differing : List Str := ["rows", "first", "place", "row"]
abbrev p_differing : List Str := ["rows"]
theorem sc_differing : FnScope n_differing p_differing (defScope s_differing) := ⟨rfl, rfl, rfl, by decide +kernel, rfl, by decide +kernel, by decide +kernel⟩
abbrev s_is_answers : Stmt := top 12
abbrev n_is_answers : List Str := ["thing", "sizes", "item", "size"]
abbrev p_is_answers : List Str := ["thing", "sizes"]
theorem sc_is_answers : FnScope n_is_answers p_is_answers (defScope s_is_answers) := ⟨rfl, rfl, rfl, by decide +kernel, rfl, by decide +kernel, by decide +kernel⟩
abbrev s_sheet_init : Stmt := inClass (top 13) 0
abbrev n_sheet_init : List Str := ["self", "sizes", "rows", "index", "row", "size"]
abbrev p_sheet_init : List Str := ["self", "sizes", "rows"]
theorem sc_sheet_init : FnScope n_sheet_init p_sheet_init (defScope s_sheet_init) := ⟨rfl, rfl, rfl, by decide +kernel, rfl, by decide +kernel, by decide +kernel⟩
abbrev s_fits_answers : Stmt := top 14
abbrev n_fits_answers : List Str := ["row", "standing", "answer", "told"]
abbrev p_fits_answers : List Str := ["row", "standing"]
theorem sc_fits_answers : FnScope n_fits_answers p_fits_answers (defScope s_fits_answers) := ⟨rfl, rfl, rfl, by decide +kernel, rfl, by decide +kernel, by decide +kernel⟩
abbrev s_sheet_rows_at : Stmt := top 15
abbrev n_sheet_rows_at : List Str := ["sheet", "standing", "row"]
abbrev p_sheet_rows_at : List Str := ["sheet", "standing"]
theorem sc_sheet_rows_at : FnScope n_sheet_rows_at p_sheet_rows_at (defScope s_sheet_rows_at) := ⟨rfl, rfl, rfl, by decide +kernel, rfl, by decide +kernel, by decide +kernel⟩
abbrev s_is_sheet_standing : Stmt := top 16
abbrev n_is_sheet_standing : List Str := ["sheet", "thing", "item", "size"]
abbrev p_is_sheet_standing : List Str := ["sheet", "thing"]
theorem sc_is_sheet_standing : FnScope n_is_sheet_standing p_is_sheet_standing (defScope s_is_sheet_standing) := ⟨rfl, rfl, rfl, by decide +kernel, rfl, by decide +kernel, by decide +kernel⟩
abbrev s_by_answers : Stmt := top 17
abbrev n_by_answers : List Str := ["rows", "place", "found", "row", "answer", "part"]
abbrev p_by_answers : List Str := ["rows", "place"]
theorem sc_by_answers : FnScope n_by_answers p_by_answers (defScope s_by_answers) := ⟨rfl, rfl, rfl, by decide +kernel, rfl, by decide +kernel, by decide +kernel⟩
abbrev s_sheet_reached : Stmt := top 18
abbrev n_sheet_reached : List Str := ["sheet", "begin", "found", "waiting", "here", "place", "answer", "part", "there"]
abbrev p_sheet_reached : List Str := ["sheet"]
theorem sc_sheet_reached : FnScope n_sheet_reached p_sheet_reached (defScope s_sheet_reached) := ⟨rfl, rfl, rfl, by decide +kernel, rfl, by decide +kernel, by decide +kernel⟩
abbrev s_hangs : Stmt := top 19
abbrev n_hangs : List Str := ["rows", "row", "place", "on", "other"]
abbrev p_hangs : List Str := ["rows", "row", "place", "on"]
theorem sc_hangs : FnScope n_hangs p_hangs (defScope s_hangs) := ⟨rfl, rfl, rfl, by decide +kernel, rfl, by decide +kernel, by decide +kernel⟩
abbrev s_loose_at : Stmt := top 20
abbrev n_loose_at : List Str := ["rows", "places", "row", "p", "q"]
abbrev p_loose_at : List Str := ["rows"]
theorem sc_loose_at : FnScope n_loose_at p_loose_at (defScope s_loose_at) := ⟨rfl, rfl, rfl, by decide +kernel, rfl, by decide +kernel, by decide +kernel⟩
abbrev s_loose : Stmt := top 21
abbrev n_loose : List Str := ["sheet", "known", "standing", "rows", "found"]
abbrev p_loose : List Str := ["sheet"]
theorem sc_loose : FnScope n_loose p_loose (defScope s_loose) := ⟨rfl, rfl, rfl, by decide +kernel, rfl, by decide +kernel, by decide +kernel⟩
abbrev s_is_sheet_place : Stmt := top 22
abbrev n_is_sheet_place : List Str := ["sheet", "thing"]
abbrev p_is_sheet_place : List Str := ["sheet", "thing"]
theorem sc_is_sheet_place : FnScope n_is_sheet_place p_is_sheet_place (defScope s_is_sheet_place) := ⟨rfl, rfl, rfl, by decide +kernel, rfl, by decide +kernel, by decide +kernel⟩
abbrev s_is_loose : Stmt := top 23
abbrev n_is_loose : List Str := ["sheet", "thing", "standing", "row", "p", "q", "known", "rows", "places"]
abbrev p_is_loose : List Str := ["sheet", "thing"]
theorem sc_is_loose : FnScope n_is_loose p_is_loose (defScope s_is_loose) := ⟨rfl, rfl, rfl, by decide +kernel, rfl, by decide +kernel, by decide +kernel⟩
abbrev s_counts_from : Stmt := top 24
abbrev n_counts_from : List Str := ["known", "rows", "row", "found", "place", "pair"]
abbrev p_counts_from : List Str := ["known", "rows", "row"]
theorem sc_counts_from : FnScope n_counts_from p_counts_from (defScope s_counts_from) := ⟨rfl, rfl, rfl, by decide +kernel, rfl, by decide +kernel, by decide +kernel⟩
abbrev s_counts : Stmt := top 25
abbrev n_counts : List Str := ["sheet", "row"]
abbrev p_counts : List Str := ["sheet", "row"]
theorem sc_counts : FnScope n_counts p_counts (defScope s_counts) := ⟨rfl, rfl, rfl, by decide +kernel, rfl, by decide +kernel, by decide +kernel⟩
abbrev s_l_hand : Stmt := top 27
abbrev n_l_hand : List Str := ["_law_script", "_law_cells", "_law_cell"]
abbrev p_l_hand : List Str := ["_law_script"]
theorem sc_l_hand : FnScope n_l_hand p_l_hand (defScope s_l_hand) := ⟨rfl, rfl, rfl, by decide +kernel, rfl, by decide +kernel, by decide +kernel⟩
abbrev s_l_draw : Stmt := top 28
abbrev n_l_draw : List Str := ["_law_hand_here", "_law_many", "_law_cell", "_law_digit", "_law_number"]
abbrev p_l_draw : List Str := ["_law_hand_here", "_law_many"]
theorem sc_l_draw : FnScope n_l_draw p_l_draw (defScope s_l_draw) := ⟨rfl, rfl, rfl, by decide +kernel, rfl, by decide +kernel, by decide +kernel⟩
abbrev s_l_step : Stmt := top 29
abbrev n_l_step : List Str := ["_law_row", "_law_steps", "_law_base", "_law_one", "_law_two"]
abbrev p_l_step : List Str := ["_law_row", "_law_steps", "_law_base"]
theorem sc_l_step : FnScope n_l_step p_l_step (defScope s_l_step) := ⟨rfl, rfl, rfl, by decide +kernel, rfl, by decide +kernel, by decide +kernel⟩
abbrev s_l_span : Stmt := top 30
abbrev n_l_span : List Str := ["_law_hand_here", "_law_many", "_law_base", "_law_found", "_law_turn", "_law_steps", "_law_more", "_law_again", "_law_k", "_law_row"]
abbrev p_l_span : List Str := ["_law_hand_here", "_law_many", "_law_base"]
theorem sc_l_span : FnScope n_l_span p_l_span (defScope s_l_span) := ⟨rfl, rfl, rfl, by decide +kernel, rfl, by decide +kernel, by decide +kernel⟩
abbrev s_l_sheet : Stmt := top 31
abbrev n_l_sheet : List Str := ["_law_hand_here", "_law_places", "_law_most", "_law_many", "_law_kind", "_law_base", "_law_sizes", "_law_rows", "_law_k", "_law_block", "_law_shifts", "_law_size", "_law_x", "_law_row"]
abbrev p_l_sheet : List Str := ["_law_hand_here", "_law_places", "_law_most"]
theorem sc_l_sheet : FnScope n_l_sheet p_l_sheet (defScope s_l_sheet) := ⟨rfl, rfl, rfl, by decide +kernel, rfl, by decide +kernel, by decide +kernel⟩
abbrev s_l_open : Stmt := top 32
abbrev n_l_open : List Str := ["_law_rows", "_law_place", "_law_row"]
abbrev p_l_open : List Str := ["_law_rows"]
theorem sc_l_open : FnScope n_l_open p_l_open (defScope s_l_open) := ⟨rfl, rfl, rfl, by decide +kernel, rfl, by decide +kernel, by decide +kernel⟩
abbrev s_l_part : Stmt := top 33
abbrev n_l_part : List Str := ["_law_rows", "_law_place", "_law_answer", "_law_row"]
abbrev p_l_part : List Str := ["_law_rows", "_law_place", "_law_answer"]
theorem sc_l_part : FnScope n_l_part p_l_part (defScope s_l_part) := ⟨rfl, rfl, rfl, by decide +kernel, rfl, by decide +kernel, by decide +kernel⟩
abbrev s_l_answers : Stmt := top 34
abbrev n_l_answers : List Str := ["_law_rows", "_law_place", "_law_row"]
abbrev p_l_answers : List Str := ["_law_rows", "_law_place"]
theorem sc_l_answers : FnScope n_l_answers p_l_answers (defScope s_l_answers) := ⟨rfl, rfl, rfl, by decide +kernel, rfl, by decide +kernel, by decide +kernel⟩
abbrev s_l_reached : Stmt := top 35
abbrev n_l_reached : List Str := ["_law_rows", "_law_begin", "_law_found", "_law_waiting", "_law_here", "_law_place", "_law_answer", "_law_there"]
abbrev p_l_reached : List Str := ["_law_rows"]
theorem sc_l_reached : FnScope n_l_reached p_l_reached (defScope s_l_reached) := ⟨rfl, rfl, rfl, by decide +kernel, rfl, by decide +kernel, by decide +kernel⟩
abbrev s_l_orders : Stmt := top 36
abbrev n_l_orders : List Str := ["_law_many", "_law_found", "_law_k", "_law_later", "_law_order", "_law_place"]
abbrev p_l_orders : List Str := ["_law_many"]
theorem sc_l_orders : FnScope n_l_orders p_l_orders (defScope s_l_orders) := ⟨rfl, rfl, rfl, by decide +kernel, rfl, by decide +kernel, by decide +kernel⟩
abbrev s_l_counted : Stmt := top 37
abbrev n_l_counted : List Str := ["_law_rows", "_law_order", "_law_row", "_law_found", "_law_left", "_law_place", "_law_part_here"]
abbrev p_l_counted : List Str := ["_law_rows", "_law_order", "_law_row"]
theorem sc_l_counted : FnScope n_l_counted p_l_counted (defScope s_l_counted) := ⟨rfl, rfl, rfl, by decide +kernel, rfl, by decide +kernel, by decide +kernel⟩
abbrev s_l_hangs : Stmt := top 38
abbrev n_l_hangs : List Str := ["_law_rows", "_law_row", "_law_place", "_law_on", "_law_other"]
abbrev p_l_hangs : List Str := ["_law_rows", "_law_row", "_law_place", "_law_on"]
theorem sc_l_hangs : FnScope n_l_hangs p_l_hangs (defScope s_l_hangs) := ⟨rfl, rfl, rfl, by decide +kernel, rfl, by decide +kernel, by decide +kernel⟩
abbrev s_l_is_loose : Stmt := top 39
abbrev n_l_is_loose : List Str := ["_law_known", "_law_standing", "_law_row", "_law_p", "_law_q", "_law_rows"]
abbrev p_l_is_loose : List Str := ["_law_known", "_law_standing", "_law_row", "_law_p", "_law_q"]
theorem sc_l_is_loose : FnScope n_l_is_loose p_l_is_loose (defScope s_l_is_loose) := ⟨rfl, rfl, rfl, by decide +kernel, rfl, by decide +kernel, by decide +kernel⟩
abbrev s_l_some_loose : Stmt := top 40
abbrev n_l_some_loose : List Str := ["_law_known", "_law_standing", "_law_rows", "_law_places", "_law_row", "_law_p", "_law_q"]
abbrev p_l_some_loose : List Str := ["_law_known"]
theorem sc_l_some_loose : FnScope n_l_some_loose p_l_some_loose (defScope s_l_some_loose) := ⟨rfl, rfl, rfl, by decide +kernel, rfl, by decide +kernel, by decide +kernel⟩
abbrev s_l_refused : Stmt := top 41
abbrev n_l_refused : List Str := ["_law_sheet_here", "_law_thing", "_law_told"]
abbrev p_l_refused : List Str := ["_law_sheet_here", "_law_thing"]
theorem sc_l_refused : FnScope n_l_refused p_l_refused (defScope s_l_refused) := ⟨rfl, rfl, rfl, by decide +kernel, rfl, by decide +kernel, by decide +kernel⟩
abbrev s_l_all : Stmt := top 42
abbrev n_l_all : List Str := ["_law_sizes", "_law_found", "_law_size", "_law_later", "_law_row", "_law_answer"]
abbrev p_l_all : List Str := ["_law_sizes"]
theorem sc_l_all : FnScope n_l_all p_l_all (defScope s_l_all) := ⟨rfl, rfl, rfl, by decide +kernel, rfl, by decide +kernel, by decide +kernel⟩
abbrev s_l_great : Stmt := top 43
abbrev n_l_great : List Str := ["_law_hand_here", "_law_way", "_law_many", "_law_sizes", "_law_rows", "_law_place", "_law_turn"]
abbrev p_l_great : List Str := ["_law_hand_here"]
theorem sc_l_great : FnScope n_l_great p_l_great (defScope s_l_great) := ⟨rfl, rfl, rfl, by decide +kernel, rfl, by decide +kernel, by decide +kernel⟩
abbrev s_l_both_counts : Stmt := top 44
abbrev n_l_both_counts : List Str := ["_law_known", "_law_rows", "_law_row", "_law_pairs", "_law_place", "_law_least", "_law_most"]
abbrev p_l_both_counts : List Str := ["_law_known", "_law_rows", "_law_row"]
theorem sc_l_both_counts : FnScope n_l_both_counts p_l_both_counts (defScope s_l_both_counts) := ⟨rfl, rfl, rfl, by decide +kernel, rfl, by decide +kernel, by decide +kernel⟩
abbrev s_l_great_right : Stmt := top 45
abbrev n_l_great_right : List Str := ["_law_hand_here", "_law_sizes", "_law_rows", "_law_sheet_here", "_law_unlike", "_law_row", "_law_pair", "_law_told"]
abbrev p_l_great_right : List Str := ["_law_hand_here"]
theorem sc_l_great_right : FnScope n_l_great_right p_l_great_right (defScope s_l_great_right) := ⟨rfl, rfl, rfl, by decide +kernel, rfl, by decide +kernel, by decide +kernel⟩
abbrev s_law : Stmt := top 46
abbrev n_law : List Str := ["_law_script", "_law_hand_here", "_law_sizes", "_law_rows", "_law_sheet_here", "_law_unlike", "_law_row", "_law_numbers", "_law_known", "_law_told", "_law_at", "_law_other", "_law_odd", "_law_order"]
abbrev p_law : List Str := ["_law_script"]
theorem sc_law : FnScope n_law p_law (defScope s_law) := ⟨rfl, rfl, rfl, by decide +kernel, rfl, by decide +kernel, by decide +kernel⟩
end K71
set_option Elab.async false
set_option linter.all false
set_option maxRecDepth 100000
set_option maxHeartbeats 4000000
/-! k71: how a def is told, and the first small defs. -/
namespace K71
open PySem PySem.Spec PyProof.Rows L2
/-- the built-in names are still the built-ins' -/
structure Bi (mg : Str → Option Value) : Prop where
  isi : mg "isinstance" = none
  int : mg "int" = none
  bool : mg "bool" = none
  tuple : mg "tuple" = none
  list : mg "list" = none
  set : mg "set" = none
  len : mg "len" = none
  all : mg "all" = none
  any : mg "any" = none
  zip : mg "zip" = none
  enum : mg "enumerate" = none
  sorted : mg "sorted" = none
  range : mg "range" = none
  min : mg "min" = none
  max : mg "max" = none
  repr : mg "repr" = none
  abs : mg "abs" = none
/-- a def stands at its name -/
def Placed (K : PySem.W.Frag) (mg : Str → Option Value) (x : Str) (st : Stmt) (ps : List Str) : Prop := ∃ (f : Addr) (fd : FuncData), Fun K x x st f fd ∧ mg x = some (.ref f) ∧ Binds K fd ps []
/-- a def that keeps a promise stands at its name -/
def Kept (P : Program) (w : World) (K : PySem.W.Frag) (mg : Str → Option Value) (base : Heap) (CX : CXT) (k : Nat) (x : Str) (ps : List Str) (sp : Sp) : Prop :=
  ∃ (f : Addr) (fd : FuncData), FnOk P w K mg base CX k f fd ps sp ∧ mg x = some (.ref f) ∧ PySem.W.keepIn K (.ref f) = true ∧ Binds K fd ps []
theorem Kept.mono {P : Program} {w : World} {K : PySem.W.Frag} {mg : Str → Option Value} {base : Heap} {CX : CXT} {j k : Nat} {x : Str} {ps : List Str} {sp : Sp} (h : Kept P w K mg base CX j x ps sp) (le : j ≤ k) : Kept P w K mg base CX k x ps sp := by
  obtain ⟨f, fd, G, m, kp, b⟩ := h
  exact ⟨f, fd, G.mono le, m, kp, b⟩
theorem Placed.keep {P : Program} {w : World} {K : PySem.W.Frag} {mg : Str → Option Value} {base : Heap} {CX : CXT} {k : Nat} {x : Str} {st : Stmt} {ps : List Str} {sp : Sp} (h : Placed K mg x st ps)
    (ok : ∀ (f : Addr) (fd : FuncData), Fun K x x st f fd → FnOk P w K mg base CX k f fd ps sp) : Kept P w K mg base CX k x ps sp := by
  obtain ⟨f, fd, F, m, b⟩ := h
  exact ⟨f, fd, ok f fd F, m, F.kp, b⟩

section
variable {P : Program} {w : World} {K : PySem.W.Frag} {mg : Str → Option Value} {base : Heap}
/-! ### is_integer -/
def isInt : V → Bool
  | .int _ => true
  | _ => false
def spIsInt (K : PySem.W.Frag) : Sp := fun vs H Q _ => ∃ (x : V) (t : String), vs = [x] ∧ TyX K H x (.type t) ∧ t ∈ (["NoneType", "bool", "int", "str", "list", "tuple", "dict"] : List String) ∧ Q (.bl (decide (t = "int"))) H
theorem k_is_integer (B : Bi mg) (D : Placed K mg "is_integer" s_is_integer p_is_integer) : Kept P w K mg base CX0 1 "is_integer" p_is_integer (spIsInt K) := by
  refine D.keep fun f fd F => F.ok sc_is_integer (fun vs H Q E h => ?_) (fun cdv A outer s H vs Q E hr h => ?_)
  · obtain ⟨x, t, rfl, _⟩ := h
    rfl
  · obtain ⟨x, t, rfl, ty, ht, q⟩ := h
    refine ⟨_, pss_one (ps_ret (pe_and (pe_callB call_isi (by rfl) B.isi boot_isinstance (pa_cons (pv 0) (pa_cons (pe_bltn (v := .ty "int") (by rfl) B.int PyProof.Rows.boot_int rfl) pa_nil)))
      (pe_one (pe_not (pe_callB call_isi (by rfl) B.isi boot_isinstance (pa_cons (pv 0) (pa_cons (pe_bltn (v := .ty "bool") (by rfl) B.bool PyProof.Rows.boot_bool rfl) pa_nil))))))), ?_⟩
    obtain ⟨a, b, h1, h2, h3⟩ : ∃ a b, PySem.W.kitOne K (.type t) (.type "int") = some a ∧ PySem.W.kitOne K (.type t) (.type "bool") = some b ∧ decide (t = "int") = (a && !b) := by
      simp only [List.mem_cons, List.mem_nil_iff, or_false] at ht
      rcases ht with rfl | rfl | rfl | rfl | rfl | rfl | rfl
      · exact ⟨false, false, kit_ty (by decide +kernel), kit_ty (by decide +kernel), by decide +kernel⟩
      · exact ⟨true, true, kit_ty (by decide +kernel), kit_ty (by decide +kernel), by decide +kernel⟩
      · exact ⟨true, false, kit_ty (by decide +kernel), kit_ty (by decide +kernel), by decide +kernel⟩
      · exact ⟨false, false, kit_ty (by decide +kernel), kit_ty (by decide +kernel), by decide +kernel⟩
      · exact ⟨false, false, kit_ty (by decide +kernel), kit_ty (by decide +kernel), by decide +kernel⟩
      · exact ⟨false, false, kit_ty (by decide +kernel), kit_ty (by decide +kernel), by decide +kernel⟩
      · exact ⟨false, false, kit_ty (by decide +kernel), kit_ty (by decide +kernel), by decide +kernel⟩
    rw [h3] at q
    refine ⟨x, rfl, x, .ty "int", .type t, .type "int", a, rfl, .ty _, ty, h1, a, rfl, ?_⟩
    cases a with
    | false => exact q
    | true => exact ⟨x, rfl, x, .ty "bool", .type t, .type "bool", b, rfl, .ty _, ty, h2, b, rfl, q⟩
end
end K71
set_option Elab.async false
set_option linter.all false
set_option maxRecDepth 100000
set_option maxHeartbeats 4000000
/-! k71: rules of our own over the layer: what a comprehension makes, walks. -/
namespace K71
open PySem PySem.Spec PyProof.Rows L2
theorem same_new {H : Hp} {p : Addr} {o : HO} (h : H p = none) : Same H (upd H p o) := fun b u e => by
  rw [upd_ne (ne_of_none e h)]
  exact e
theorem same_t {K : PySem.W.Frag} {H H' : Hp} {a : Addr} {xs : List V} (e : Same H H') (h : SqT K H a xs) : SqT K H' a xs := Evl.ex_t e h
/-- a list or a tuple -/
def SqA (K : PySem.W.Frag) (H : Hp) (a : Addr) (xs : List V) : Prop := SqL K H a xs ∨ SqT K H a xs
theorem same_a {K : PySem.W.Frag} {H H' : Hp} {a : Addr} {xs : List V} (e : Same H H') (h : SqA K H a xs) : SqA K H' a xs := h.elim (fun z => .inl (e.seq z)) fun z => .inr (same_t e z)
/-- all but x is as it was -/
def But (x : Addr) (H H' : Hp) : Prop := ∀ b o, H b = some o → b ≠ x → H' b = some o
theorem But.refl (x : Addr) (H : Hp) : But x H H := fun _ _ e _ => e
theorem But.trans {x : Addr} {H H1 H2 : Hp} (a : But x H H1) (b : But x H1 H2) : But x H H2 := fun c o e n => b c o (a c o e n) n
theorem But.of_same {x : Addr} {H H' : Hp} (e : Same H H') : But x H H' := fun b o h _ => e b o h
theorem But.then {x : Addr} {H H1 H2 : Hp} (a : But x H H1) (b : Same H1 H2) : But x H H2 := a.trans (.of_same b)
theorem But.upd {x : Addr} {H H' : Hp} {o : HO} (a : But x H H') : But x H (upd H' x o) := fun b u e n => by
  rw [upd_ne n]
  exact a b u e n
theorem But.same {x : Addr} {H H' : Hp} (a : But x H H') (h : H x = none) : Same H H' := fun b o e => a b o e (ne_of_none e h)
theorem But.fresh {x : Addr} {H H' : Hp} {p : Addr} (a : But x H H') (h : H' p = none) (n : p ≠ x) : H p = none := by
  cases q : H p with
  | none => rfl
  | some o => rw [a p o q n] at h; cases h

/-- the tuples stand as they stood -/
def Tups (H H' : Hp) : Prop := ∀ b xs, H b = some (.tup xs) → H' b = some (.tup xs)
theorem Tups.refl (H : Hp) : Tups H H := fun _ _ e => e
theorem Tups.trans {H H1 H2 : Hp} (a : Tups H H1) (b : Tups H1 H2) : Tups H H2 := fun c xs e => b c xs (a c xs e)
theorem Tups.of_same {H H' : Hp} (e : Same H H') : Tups H H' := fun b _ h => e b _ h
theorem Tups.set {H : Hp} {x : Addr} {o : HO} (h : ∀ xs, H x ≠ some (.tup xs)) : Tups H (upd H x o) := fun b xs e => by
  have n : b ≠ x := fun z => by
    subst z
    exact h xs e
  rw [upd_ne n]
  exact e
theorem Tups.setL {H : Hp} {x : Addr} {ys : List V} {o : HO} (h : H x = some (.lst ys)) : Tups H (upd H x o) := .set fun xs e => by rw [h] at e; cases e
theorem But.tups {x : Addr} {H H' : Hp} (a : But x H H') (h : ∀ xs, H x ≠ some (.tup xs)) : Tups H H' := fun b xs e => a b _ e fun z => by
  subst z
  exact h xs e
theorem paired_filter_succ {f : Nat → Bool} {n : Nat} : (List.range (n + 1)).filter f = (List.range n).filter f ++ (if f n = true then [n] else []) := by
  rw [List.range_succ, List.filter_append]
  congr 1
  by_cases h : f n = true
  · rw [List.filter_cons, if_pos h, if_pos h]; rfl
  · rw [List.filter_cons, if_neg h, if_neg h]; rfl
theorem paired_snoc {α β : Type} {R : α → β → Prop} : ∀ {l : List α} {m : List β} {a : α} {b : β}, Paired R l m → R a b → Paired R (l ++ [a]) (m ++ [b])
  | _, _, _, _, .nil, r => .cons r .nil
  | _, _, _, _, .cons q t, r => .cons q (paired_snoc t r)
theorem paired_imp {α β : Type} {R S : α → β → Prop} {l : List α} {m : List β} (p : Paired R l m) (h : ∀ a b, R a b → S a b) : Paired S l m := Paired.mapP p h
/-- what a comprehension makes whose turns leave what stands as it stands: f tells which turns give an item, E what it is -/
theorem lc_same {J : It} {n : Nat} {G : Hp → Prop} {Y : Nat → Hp → V → Hp → Prop} (w : Walk J n G Y) (f : Nat → Bool) (E : Nat → V → Hp → Prop) (hE : ∀ i y H H', Tups H H' → E i y H → E i y H')
    {g : TG} {tt : TT} {te : TE} {vs : List Nat} {σ : L2.St} {H1 : Hp} {D : Addr} {Qd : Hp → Prop} (hD : H1 D = none) (hn : n ≤ 100000) (hG : ∀ H', Same H1 H' → G H')
    (turn : ∀ i x H' H'' (N : Option V → Hp → Prop), i < n → Same H1 H' → Y i H' x H'' → (f i = true → ∀ y H4, Same H' H4 → E i y H4 → N (some y) H4) → (f i = false → ∀ H4, Same H' H4 → N none H4) →
      g x (wipe σ vs) H'' fun σ2 H2 => wipe σ2 vs = wipe σ vs ∧ tt σ2 H2 fun b H3 => if b = true then te σ2 H3 fun y H4 => N (some y) H4 else N none H3)
    (done : ∀ H' acc, Same H1 H' → H' D = some (.lst acc) → Paired (fun i y => E i y H') ((List.range n).filter f) acc → Qd H') :
    ∃ W : Nat → Nat → Hp → Prop, (∃ m, W 0 m (upd H1 D (.lst []))) ∧ ∀ i m H, W i m H →
      (J.stop i H ∧ Qd H) ∨ (J.go i H ∧ ∃ Nx : Hp → Prop, (∀ H', Nx H' → ∃ m', m' < m ∧ W (i + 1) m' H') ∧ ∀ x H', J.yld i H x H' → g x (wipe σ vs) H' fun σ2 H2 => wipe σ2 vs = wipe σ vs ∧ tt σ2 H2 fun b H3 =>
        if b = true then te σ2 H3 fun y H4 => ∃ acc, H4 D = some (.lst acc) ∧ acc.length < sizeLine ∧ Nx (upd H4 D (.lst (acc ++ [y]))) else Nx H3) := by
  refine lc_it w (fun i H' => Same H1 H' ∧ ∃ acc, H' D = some (.lst acc) ∧ acc.length ≤ i ∧ Paired (fun i y => E i y H') ((List.range i).filter f) acc) ⟨same_new hD, [], upd_same, Nat.le_refl _, .nil⟩ (fun i H' _ p => hG H' p.1) ?_ (fun H' p => ?_)
  · rintro i x H' H'' hi ⟨s1, acc, ha, hl, pr⟩ hy
    have keep : ∀ {H4 : Hp}, Same H' H4 → Same H1 H4 ∧ H4 D = some (.lst acc) ∧ Paired (fun i y => E i y H4) ((List.range i).filter f) acc := fun {H4} s4 => ⟨s1.trans s4, s4 _ _ ha, paired_imp pr fun a b e => hE a b _ _ (.of_same s4) e⟩
    have hz : acc.length < sizeLine := Nat.lt_of_le_of_lt (Nat.le_trans hl (Nat.le_trans (Nat.le_of_lt hi) hn)) (by decide)
    refine turn i x H' H'' (fun o H4 => match o with
      | some y => ∃ acc, H4 D = some (.lst acc) ∧ acc.length < sizeLine ∧ (fun i H' => Same H1 H' ∧ ∃ acc, H' D = some (.lst acc) ∧ acc.length ≤ i ∧ Paired (fun i y => E i y H') ((List.range i).filter f) acc) (i + 1) (L2.upd H4 D (.lst (acc ++ [y])))
      | none => Same H1 H4 ∧ ∃ acc, H4 D = some (.lst acc) ∧ acc.length ≤ i + 1 ∧ Paired (fun i y => E i y H4) ((List.range (i + 1)).filter f) acc) hi s1 hy (fun hf y H4 s4 e4 => ?_) (fun hf H4 s4 => ?_)
    · obtain ⟨k1, k2, k3⟩ := keep s4
      have su : Tups H4 (L2.upd H4 D (.lst (acc ++ [y]))) := .setL k2
      refine ⟨acc, k2, hz, fun b o e => ?_, acc ++ [y], upd_same, by rw [List.length_append, List.length_singleton]; omega, ?_⟩
      · rw [upd_ne (ne_of_none e hD)]
        exact k1 b o e
      · rw [paired_filter_succ, if_pos hf]
        exact paired_snoc (paired_imp k3 fun a b e => hE a b _ _ su e) (hE i y _ _ su e4)
    · obtain ⟨k1, k2, k3⟩ := keep s4
      refine ⟨k1, acc, k2, Nat.le_succ_of_le hl, ?_⟩
      rw [paired_filter_succ, hf]
      simpa using k3
  · obtain ⟨s1, acc, ha, hl, pr⟩ := p
    exact done H' acc s1 ha pr

/-! ### walks -/
theorem walk_zipT {K : PySem.W.Frag} {a b : Addr} {xs ys : List V} {n : Nat} (hx : xs.length = n) (hy : ys.length = n) :
    Walk (RZ.ItzT K a b) n (fun H => SqT K H a xs ∧ SqT K H b ys) (YPair (fun i => xs[i]?) fun i => ys[i]?) where
  goes := fun i H hi q => ⟨xs, ys, xs[i]'(by omega), ys[i]'(by omega), q.1, q.2, List.getElem?_eq_getElem _, List.getElem?_eq_getElem _⟩
  stops := fun H q => ⟨xs, ys, q.1, q.2, .inl (by omega)⟩
  yields := fun i H v H' _ q y => by
    obtain ⟨T, x, z, e1, e2, e3, e4, e5⟩ := y
    exact ⟨T, x, z, e1, e2, e3, e4 xs q.1, e5 ys q.2⟩
/-- a name that holds a list or a tuple, walked -/
def iSeq (K : PySem.W.Frag) (tl : TE) : TI := fun σ H R => tl σ H fun x H1 => ∃ a, x = .ref a ∧ (((∃ xs, SqL K H1 a xs) ∧ R (Itl K a) H1) ∨ ((∃ xs, SqT K H1 a xs) ∧ R (Itt K a) H1))
theorem pi_seq {X : Cx} {tg l : Expr} {tl : TE} (hl : PE X l tl) : PI X tg l (iSeq X.K tl) := by
  constructor
  intro pins s σ H R I h
  refine thn (hl.run pins s σ H _ I h) ?_
  rintro v s1 ⟨x, H1, I1, r1, a, rfl, q⟩
  obtain rfl : v = Value.ref a := r1
  have new : ∀ (o : Obj), (∀ b, b ∈ [s1.heap.objs.size] → FpOk X pins H1 b) ∧ Inv X pins σ H1 { s1 with heap := s1.heap.push o } := fun o => by
    constructor
    · intro b hb
      rw [List.mem_singleton.mp hb]
      exact I1.fpOk (Nat.le_refl _) (I1.hok.fresh (Nat.le_refl _))
    · exact I1.kept (t' := s1.toks) fun b u e => Heap.get?_push_of_some _ e
  rcases q with ⟨⟨xs, hx⟩, q⟩ | ⟨⟨xs, hx⟩, q⟩
  · obtain ⟨its, _, pl, _⟩ := I1.list hx
    refine wpAny_pyIter_list pl.isList ?_
    exact ⟨_, [_], _, _, _, rfl, (new _).2, turn_list a _, ⟨_, Heap.get?_push_size _ rfl, rfl, rfl⟩, (new default).1, q⟩
  · obtain ⟨its, _, pl, _⟩ := I1.tuple hx
    have pl' : s1.heap.IsTuple a its.toArray := pl
    refine wpAny_pyIter_tuple pl' ?_
    exact ⟨_, [_], _, _, _, rfl, (new _).2, turn_tuple a _, ⟨_, Heap.get?_push_size _ rfl, rfl, rfl⟩, (new default).1, q⟩
theorem iSeq_var {K : PySem.W.Frag} {i : Nat} {a : Addr} {xs : List V} {σ : L2.St} {H : Hp} {R : It → Hp → Prop} (e : σ[i]? = some (some (.ref a))) (h : SqA K H a xs) (k : ∀ (J : It) (G : Hp → Prop), (∀ H', Same H H' → G H') → Walk J xs.length G (YAt xs) → R J H) : iSeq K (tVar i) σ H R := by
  refine ⟨_, e, a, rfl, ?_⟩
  rcases h with h | h
  · exact .inl ⟨⟨xs, h⟩, k _ _ (fun H2 s => s.seq h) walk_list⟩
  · exact .inr ⟨⟨xs, h⟩, k _ _ (fun H2 s => same_t s h) walk_tup⟩
theorem walk_range0 {n : Nat} : Walk (Itr 0 n) n (fun _ => True) (YFn fun i => .int (i : Int)) :=
  walk_range.mono (fun _ h => h) fun i H x H' _ _ y => ⟨y.1, by rw [y.2]; show V.int (0 + (i : Int)) = _; rw [Int.zero_add]⟩
/-! ### rows -/
abbrev RL := List (Addr × Row)
def rws (L : RL) : List Row := L.map (·.2)
def refs (L : RL) : List V := L.map fun p => V.ref p.1
def rowV (r : Row) : List V := r.map V.int
def AllAt (H : Hp) (L : RL) : Prop := ∀ p, p ∈ L → H p.1 = some (.tup (rowV p.2))
def Wid (n : Nat) (rs : List Row) : Prop := ∀ r, r ∈ rs → r.length = n
theorem AllAt.mono {H H' : Hp} {L : RL} (h : AllAt H L) (e : Tups H H') : AllAt H' L := fun p hp => e _ _ (h p hp)
theorem AllAt.sub {H : Hp} {L M : RL} (h : AllAt H L) (e : ∀ p, p ∈ M → p ∈ L) : AllAt H M := fun p hp => h p (e p hp)
theorem refs_len (L : RL) : (refs L).length = L.length := List.length_map _
theorem rws_len (L : RL) : (rws L).length = L.length := List.length_map _
theorem refs_get {L : RL} {i : Nat} {x : V} (h : (refs L)[i]? = some x) : ∃ p, L[i]? = some p ∧ x = .ref p.1 := by
  unfold refs at h
  rw [List.getElem?_map] at h
  cases e : L[i]? with
  | none => rw [e] at h; cases h
  | some p => rw [e] at h; exact ⟨p, rfl, (Option.some.inj h).symm⟩
theorem mem_rws {L : RL} {p : Addr × Row} (h : p ∈ L) : p.2 ∈ rws L := List.mem_map.mpr ⟨p, h, rfl⟩
theorem rowV_len (r : Row) : (rowV r).length = r.length := List.length_map _
theorem rowV_at {r : Row} {p : Nat} (h : p < r.length) : atI (rowV r) (p : Int) = some (.int (ans r p)) := by
  refine atI_nat ?_
  unfold rowV ans
  rw [List.getElem?_map, List.getD_eq_getElem?_getD, List.getElem?_eq_getElem h]
  rfl
theorem size100 {n : Nat} (h : n ≤ 100000) : n ≤ sizeLine := Nat.le_trans h (by decide)

/-! ### rules whose reading names the written part by K (within a comprehension's block the context is not to be named) -/
section
variable {X : Cx} {K : PySem.W.Frag}
theorem ixL (h : X.K = K := by rfl) : IxR X (rIxL K) := h ▸ ix_list
theorem ixT (h : X.K = K := by rfl) : IxR X (rIxT K) := h ▸ ix_tup
theorem ixA (h : X.K = K := by rfl) : IxR X (rIx K) := h ▸ ix_seq
theorem callLen (h : X.K = K := by rfl) : CallR X (.builtin "len") (Evl.rLenS K) := h ▸ call_len_seq
theorem callAny (hc : X.calm = true := by rfl) (h : X.K = K := by rfl) : CallR X (.builtin "any") (rAny K) := h ▸ cr_any hc
theorem callAll (hc : X.calm = true := by rfl) (h : X.K = K := by rfl) : CallR X (.builtin "all") (rAll K) := h ▸ cr_all hc
theorem callMin (hc : X.calm = true := by rfl) (h : X.K = K := by rfl) : CallR X (.builtin "min") (rMin K) := h ▸ cr_min hc
theorem callMax (hc : X.calm = true := by rfl) (h : X.K = K := by rfl) : CallR X (.builtin "max") (rMax K) := h ▸ cr_max hc
theorem callIsi (h : X.K = K := by rfl) : CallR X (.builtin "isinstance") (rIsi K) := h ▸ call_isi
theorem callIsiT (h : X.K = K := by rfl) : CallR X (.builtin "isinstance") (rIsiT K) := h ▸ call_isiT
def rTupOf (K : PySem.W.Frag) : List V → Hp → VK → Prop := fun xs H Q => ∃ p ys, xs = [.ref p] ∧ ((SqL K H p ys ∧ ∀ l, H l = none → Q (.ref l) (upd H l (.tup ys))) ∨ (SqT K H p ys ∧ Q (.ref p) H))
theorem callTup (h : X.K = K := by rfl) : CallR X (.type "tuple") (rTupOf K) := h ▸ call_tuple_of
theorem pi_sq {tg l : Expr} {tl : TE} (hl : PE X l tl) (h : X.K = K := by rfl) : PI X tg l (iSeq K tl) := h ▸ pi_seq hl
theorem pi_ls {tg l : Expr} {tl : TE} (hl : PE X l tl) (h : X.K = K := by rfl) : PI X tg l (iList K tl) := h ▸ pi_list hl
theorem pi_tp {tg l : Expr} {tl : TE} (hl : PE X l tl) (h : X.K = K := by rfl) : PI X tg l (iTup K tl) := h ▸ pi_tup hl
end

theorem rIx_of {K : PySem.W.Frag} {H : Hp} {a : Addr} {xs : List V} {i : Int} {v : V} {Q : VK} (h : SqA K H a xs) (e : atI xs i = some v) (q : Q v H) : rIx K (.ref a) (.int i) H Q :=
  h.elim (fun z => .inl ⟨a, xs, i, v, rfl, rfl, z, e, q⟩) fun z => .inr (.inl ⟨a, xs, i, v, rfl, rfl, z, e, q⟩)
theorem rIxT_of {K : PySem.W.Frag} {H : Hp} {a : Addr} {xs : List V} {i : Int} {v : V} {Q : VK} (h : H a = some (.tup xs)) (e : atI xs i = some v) (q : Q v H) : rIxT K (.ref a) (.int i) H Q := ⟨a, xs, i, v, rfl, rfl, SqT.of h, e, q⟩
theorem rIxL_of {K : PySem.W.Frag} {H : Hp} {a : Addr} {xs : List V} {i : Int} {v : V} {Q : VK} (h : SqL K H a xs) (e : atI xs i = some v) (q : Q v H) : rIxL K (.ref a) (.int i) H Q := ⟨a, xs, i, v, rfl, rfl, h, e, q⟩
theorem paired_map {v : Nat → V} : ∀ {l : List Nat} {acc : List V}, Paired (fun i y => y = v i) l acc → acc = l.map v
  | _, _, .nil => rfl
  | _, _, .cons r t => by rw [r, paired_map t]; rfl
theorem filter_all (n : Nat) : (List.range n).filter (fun _ => true) = List.range n := List.filter_eq_self.mpr fun _ _ => rfl
theorem range_map {α β : Type} (l : List α) (d : α) (g : α → β) : (List.range l.length).map (fun i => g (l.getD i d)) = l.map g := by
  apply List.ext_getElem?
  intro i
  rw [List.getElem?_map, List.getElem?_map]
  by_cases h : i < l.length
  · rw [List.getElem?_range h, List.getElem?_eq_getElem h]
    simp [List.getD_eq_getElem?_getD, List.getElem?_eq_getElem h]
  · rw [List.getElem?_eq_none (by rw [List.length_range]; omega), List.getElem?_eq_none (by omega)]
    rfl

/-! ### pairs as targets, standings -/
section
variable {X : Cx} {K : PySem.W.Frag}
theorem pg_two {a b : Expr} {k : Nat} {pos : Pos} {g1 g2 : TG} (h1 : PG X a g1) (h2 : PG X b g2) (hc : X.calm = true := by rfl) (h : X.K = K := by rfl) (e1 : (assignEach [a, b] X.env).map (·.2) = assign a X.env :: (assignEach [b] X.env).map (·.2) := by rfl)
    (e2 : (assignEach [b] X.env).map (·.2) = assign b X.env :: (assignEach [] X.env).map (·.2) := by rfl) (e3 : (assignEach [a, b] X.env).length = 2 := by rfl) (e4 : (assignEach [a, b] X.env).findIdx? (·.1) = none := by rfl) :
    PG X (.Tuple [a, b] k pos) (gTup K 2 (gCons g1 (gCons g2 gNil))) := h ▸ pg_tup hc (pgs_cons h1 (pgs_cons h2 pgs_nil e2) e1) e3 e4
end
theorem gTwo {K : PySem.W.Frag} {H : Hp} {T : Addr} {x y : V} {g1 g2 : TG} {σ : L2.St} {Q : L2.St → Hp → Prop} (h : H T = some (.tup [x, y])) (q : g1 x σ H fun σ1 H1 => g2 y σ1 H1 Q) : gTup K 2 (gCons g1 (gCons g2 gNil)) (.ref T) σ H Q :=
  ⟨T, [x, y], rfl, SqT.of h, rfl, x, [y], rfl, by
    have : g1 x σ H fun σ1 H1 => g2 y σ1 H1 Q := q
    exact (show g1 x σ H (fun σ' H' => gCons g2 gNil [y] σ' H' Q) from by
      have e : (fun σ' H' => gCons g2 gNil [y] σ' H' Q) = fun σ1 H1 => g2 y σ1 H1 Q := by
        funext σ' H'
        apply propext
        constructor
        · rintro ⟨v, r, e, q⟩
          cases e
          have e2 : (fun σ'' H'' => gNil [] σ'' H'' Q) = Q := by
            funext a b
            exact propext ⟨fun z => z.2, fun z => ⟨rfl, z⟩⟩
          rw [← e2]
          exact q
        · intro q
          have e2 : (fun σ'' H'' => gNil [] σ'' H'' Q) = Q := by
            funext a b
            exact propext ⟨fun z => z.2, fun z => ⟨rfl, z⟩⟩
          exact ⟨y, [], rfl, by rw [e2]; exact q⟩
      rw [e]
      exact this)⟩
def optV : Option Int → V
  | none => .non
  | some i => .int i
def stV (st : Std) : List V := st.map optV
theorem stV_len (st : Std) : (stV st).length = st.length := List.length_map _
theorem stV_get {st : Std} {i : Nat} (h : i < st.length) : (stV st)[i]? = some (optV (tell st i)) := by
  unfold stV tell
  rw [List.getElem?_map, List.getD_eq_getElem?_getD, List.getElem?_eq_getElem h]
  rfl
theorem rowV_get {r : Row} {i : Nat} (h : i < r.length) : (rowV r)[i]? = some (.int (ans r i)) := by
  unfold rowV ans
  rw [List.getElem?_map, List.getD_eq_getElem?_getD, List.getElem?_eq_getElem h]
  rfl
theorem paired_mapL {α : Type} {v : α → V} : ∀ {l : List α} {acc : List V}, Paired (fun i y => y = v i) l acc → acc = l.map v
  | _, _, .nil => rfl
  | _, _, .cons r t => by rw [r, paired_mapL t]; rfl
end K71
set_option Elab.async false
set_option linter.all false
set_option maxRecDepth 100000
set_option maxHeartbeats 4000000
namespace K71
open PySem PySem.Spec PyProof.Rows L2
section
variable {P : Program} {w : World} {K : PySem.W.Frag} {mg : Str → Option Value} {base : Heap}
/-! ### differing -/
def intsV (l : List Nat) : List V := l.map fun (i : Nat) => V.int i
def spDiff (K : PySem.W.Frag) : Sp := fun vs H Q _ => ∃ (a : Addr) (L : RL) (n : Nat), vs = [.ref a] ∧ SqA K H a (refs L) ∧ AllAt H L ∧ L ≠ [] ∧ Wid n (rws L) ∧ n ≤ 100 ∧ L.length ≤ 100 ∧
  ∀ p H', H p = none → Same H H' → H' p = some (.tup (intsV (opn n (rws L)))) → Q (.ref p) H'
theorem k_differing (B : Bi mg) (D : Placed K mg "differing" s_differing p_differing) : Kept P w K mg base CX0 1 "differing" p_differing (spDiff K) := by
  refine D.keep fun f fd F => F.ok sc_differing (fun vs H Q E h => ?_) (fun cdv A outer s H vs Q E hr h => ?_)
  · obtain ⟨a, L, n, rfl, _⟩ := h
    rfl
  · obtain ⟨a, L, n, rfl, hA, hL, hne, hw, hn, hl, q⟩ := h
    refine ⟨_, pss_cons (ps_set (i := 1) sc_differing.nd rfl (Or.inr rfl) (pe_ix (ixA (K := K)) (pv 0) pe_int (fun _ _ => rfl)))
      (pss_one (ps_ret (pe_callTy (callTup (K := K)) (by rfl) B.tuple PyProof.Rows.boot_tuple (pa_cons
        (pe_lc (own := [("place", 2)]) (g := gName 2) (by rfl) sc_differing.nd (pi_range1 (by rfl) B.range (pa_cons (pe_callB (callLen (K := K)) (by rfl) B.len PySem.boot_len (pa_cons (pv 1) pa_nil)) pa_nil))
          (blkOk_by (N := n_differing) (sc := defScope s_differing) (by decide +kernel)) (fun _ _ _ _ _ => pg_name (i := 2) sc_differing.nd rfl (Or.inr rfl))
          (fun _ _ _ _ _ => pts_one (pt_val (pe_callB (callAny (K := K)) (by rfl) B.any PyProof.Rows.boot_any (pa_cons
            (pe_lc (own := [("row", 3)]) (g := gName 3) (by rfl) sc_differing.nd (pi_sq (K := K) (pv 0))
              (blkOk_by (by kernel_rfl)) (fun _ _ _ _ _ => pg_name (i := 3) sc_differing.nd rfl (Or.inl rfl)) (fun _ _ _ _ _ => pts_nil)
              (fun _ _ _ _ _ => pe_cmpR op_ne (pe_ix (ixT (K := K)) (pv 3) (pv 2) (fun _ _ => rfl)) (pe_ix (ixT (K := K)) (pv 1) (pv 2) (fun _ _ => rfl)) (nomark _))) pa_nil))))
          (fun _ _ _ _ _ => pv 2)) pa_nil)))), ?_⟩
    obtain ⟨p0, L', rfl⟩ : ∃ p L', L = p :: L' := by
      cases L with
      | nil => exact absurd rfl hne
      | cons p L' => exact ⟨p, L', rfl⟩
    have h0 : H p0.1 = some (.tup (rowV p0.2)) := hL p0 List.mem_cons_self
    have n0 : p0.2.length = n := hw p0.2 List.mem_cons_self
    refine ⟨_, rfl, rIx_of hA (atI_nat (j := 0) (v := .ref p0.1) rfl) ?_⟩
    refine ⟨.ref p0.1, rfl, p0.1, _, rfl, .inr (SqT.of h0), _, rfl, ?_, ?_, fun Dl hD => ?_⟩
    · omega
    · rw [rowV_len, n0]; omega
    rw [show (((rowV p0.2).length : Nat) : Int).toNat = n by rw [rowV_len, n0]; rfl]
    refine lc_same walk_range0 (opnAt (rws (p0 :: L'))) (fun i y _ => y = .int (i : Int)) (fun _ _ _ _ _ e => e) hD (by omega) (fun _ _ => trivial) ?_ (fun H1 acc s1 hd pr => ?_)
    · rintro i x H1 H2 N hi s1 ⟨rfl, rfl⟩ kt kf
      refine ⟨rfl, ?_⟩
      -- any([row[place] != first[place] for row in rows])
      · unfold tB tCB tCons tLc
        refine iSeq_var rfl (same_a s1 hA) ?_
        intro J G hG wk D2 hD2
        refine lc_same (n := (p0 :: L').length) (by rw [← refs_len]; exact wk) (fun _ => true) (fun j y _ => y = .bl (ans ((rws (p0 :: L')).getD j []) i != ans p0.2 i)) (fun _ _ _ _ _ e => e) hD2 (by omega) hG ?_ (fun H3 acc s3 hd pr => ?_)
        · rintro j x H3 H4 N2 hj s3 ⟨rfl, hx⟩ kt2 _
          obtain ⟨p, hp, rfl⟩ := refs_get hx
          have sp : Same H H4 := s1.trans s3
          have hpm : p ∈ p0 :: L' := List.mem_of_getElem? hp
          have np : p.2.length = n := hw p.2 (mem_rws hpm)
          refine ⟨rfl, ?_⟩
          refine ⟨_, rfl, _, rfl, rIxT_of (sp _ _ (hL p hpm)) (rowV_at (by omega)) ⟨_, rfl, _, rfl, rIxT_of (sp _ _ h0) (rowV_at (by omega)) ⟨rfl, ?_⟩⟩⟩
          refine kt2 rfl _ _ (Same.refl _) ?_
          have e1 : (rws (p0 :: L')).getD j [] = p.2 := by
            unfold rws
            rw [List.getD_eq_getElem?_getD, List.getElem?_map, hp]
            rfl
          rw [e1]
          congr 1
          by_cases c : ans p.2 i = ans p0.2 i
          · rw [c]; simp
          · simp [c]
        · rw [filter_all] at pr
          have e := paired_map (v := fun j => V.bl (ans ((rws (p0 :: L')).getD j []) i != ans p0.2 i)) pr
          have e2 : acc = ((rws (p0 :: L')).map fun r => ans r i != ans p0.2 i).map V.bl := by
            rw [e, List.map_map, ← range_map (rws (p0 :: L')) [], rws_len]
            rfl
          refine ⟨D2, _, rfl, SqL.of (by rw [hd, e2]), _, rfl, ?_⟩
          have e3 : ((rws (p0 :: L')).map fun r => ans r i != ans p0.2 i).any id = opnAt (rws (p0 :: L')) i := by
            rw [Bool.eq_iff_iff, opnAt_of (mem_rws (p := p0) List.mem_cons_self), List.any_eq_true]
            constructor
            · rintro ⟨b, hb, hb2⟩
              obtain ⟨r, hr', rfl⟩ := List.mem_map.mp hb
              exact ⟨r, hr', by simpa using hb2⟩
            · rintro ⟨r, hr', hb⟩
              exact ⟨true, List.mem_map.mpr ⟨r, hr', by simpa using hb⟩, rfl⟩
          rw [e3]
          cases c : opnAt (rws (p0 :: L')) i with
          | true => exact ⟨_, rfl, kt c _ _ s3 rfl⟩
          | false => exact kf c _ s3
    · have e := paired_map (v := fun i => V.int (i : Int)) pr
      refine ⟨Dl, acc, rfl, .inl ⟨SqL.of hd, fun l hl => ?_⟩⟩
      refine q l _ (s1.free hl) (s1.trans (same_new hl)) ?_
      rw [upd_same, e]
      rfl
end
end K71
set_option Elab.async false
set_option linter.all false
set_option maxRecDepth 100000
set_option maxHeartbeats 4000000
namespace K71
open PySem PySem.Spec PyProof.Rows L2
section
variable {P : Program} {w : World} {K : PySem.W.Frag} {mg : Str → Option Value} {base : Heap}
/-! ### is_answers -/
def itemOk (x : V) (s : Int) : Bool := match x with
  | .int i => decide (0 ≤ i) && decide (i < s)
  | _ => false
def isAns (xs : List V) (sz : Row) : Bool := decide (xs.length = sz.length) && (List.range sz.length).all fun i => itemOk (xs.getD i .non) (ans sz i)
def plainV (x : V) : Prop := (∃ i, x = .int i) ∨ ∃ c, x = .bl c
def someTypes : List String := ["NoneType", "bool", "int", "str", "list", "tuple", "dict"]
/-- what is_answers tells of a thing -/
inductive AnsOf (K : PySem.W.Frag) (H : Hp) (sz : Row) : V → Bool → Prop
  | other {x : V} {t : String} : TyX K H x (.type t) → t ∈ someTypes → t ≠ "tuple" → AnsOf K H sz x false
  | tup {a : Addr} {xs : List V} : H a = some (.tup xs) → xs.length ≤ 100 → (∀ y, y ∈ xs → plainV y) → AnsOf K H sz (.ref a) (isAns xs sz)
def spIsAns (K : PySem.W.Frag) : Sp := fun vs H Q _ => ∃ (x : V) (b : Addr) (sz : Row) (res : Bool), vs = [x, .ref b] ∧ H b = some (.tup (rowV sz)) ∧ sz.length ≤ 100 ∧ AnsOf K H sz x res ∧ ∀ H', Same H H' → Q (.bl res) H'
theorem k_is_answers (B : Bi mg) (D : Placed K mg "is_answers" s_is_answers p_is_answers) (CI : Kept P w K mg base CX0 1 "is_integer" p_is_integer (spIsInt K)) : Kept P w K mg base CX0 2 "is_answers" p_is_answers (spIsAns K) := by
  obtain ⟨fI, fdI, GI, mI, kI, bI⟩ := CI
  refine D.keep fun f fd F => F.ok sc_is_answers (fun vs H Q E h => ?_) (fun cdv A outer s H vs Q E hr h => ?_)
  · obtain ⟨x, b, sz, res, rfl, _⟩ := h
    rfl
  · obtain ⟨x, b, sz, res, rfl, hb, hsz, hx, q⟩ := h
    refine ⟨_, pss_cons (ps_if (PW.pt (pw_or (pt_not (pt_val (pe_callB callIsi (by rfl) B.isi boot_isinstance (pa_cons (pv 0) (pa_cons (pe_bltn (v := .ty "tuple") (by rfl) B.tuple PyProof.Rows.boot_tuple rfl) pa_nil)))))
        (pw_or1 (pt_cmpR op_ne (pe_callB callLen (by rfl) B.len PySem.boot_len (pa_cons (pv 0) pa_nil)) (pe_callB callLen (by rfl) B.len PySem.boot_len (pa_cons (pv 1) pa_nil)) (nomark _))))) (pss_one (ps_ret pe_bl)) pss_nil)
      (pss_one (ps_ret (pe_callB callAll (by rfl) B.all PyProof.Rows.boot_all (pa_cons
        (pe_lc (own := [("item", 2), ("size", 3)]) (by rfl) sc_is_answers.nd (RZ.pi_zipA (by rfl) B.zip (pa_cons (pv 0) (pa_cons (pv 1) pa_nil))) (blkOk_by (N := n_is_answers) (sc := defScope s_is_answers) (by decide +kernel))
          (fun _ _ _ _ _ => pg_two (K := K) (pg_name (i := 2) sc_is_answers.nd rfl (Or.inl rfl)) (pg_name (i := 3) sc_is_answers.nd rfl (Or.inl rfl))) (fun _ _ _ _ _ => pts_nil)
          (fun _ _ _ _ _ => pe_and (pe_call GI hr rfl mI kI bI .nil pass0 (pa_cons (pv 2) pa_nil)) (pe_one (pe_chain op_le op_lt pe_int (pv 2) (pv 3))))) pa_nil)))), ?_⟩
    cases hx with
    | @other x t ty ht hn =>
      have h1 : PySem.W.kitOne K (.type t) (.type "tuple") = some false := by
        simp only [someTypes, List.mem_cons, List.mem_nil_iff, or_false] at ht
        rcases ht with rfl | rfl | rfl | rfl | rfl | rfl | rfl
        · exact kit_ty (by decide +kernel)
        · exact kit_ty (by decide +kernel)
        · exact kit_ty (by decide +kernel)
        · exact kit_ty (by decide +kernel)
        · exact kit_ty (by decide +kernel)
        · exact absurd rfl hn
        · exact kit_ty (by decide +kernel)
      refine ⟨x, rfl, x, .ty "tuple", .type t, .type "tuple", false, rfl, .ty _, ty, h1, false, rfl, ?_⟩
      exact q _ (Same.refl _)
    | @tup a xs ha hxs hp =>
      have h1 : PySem.W.kitOne K (.type "tuple") (.type "tuple") = some true := kit_ty (by decide +kernel)
      refine ⟨.ref a, rfl, .ref a, .ty "tuple", .type "tuple", .type "tuple", true, rfl, .ty _, .base (.tup ha), h1, true, rfl, ?_⟩
      refine ⟨_, rfl, a, xs, rfl, .inr (SqT.of ha), _, rfl, b, _, rfl, .inr (SqT.of hb), rfl, _, rfl, ?_⟩
      by_cases hl : xs.length = sz.length
      · refine iteNS (by rw [rowV_len, hl]) ?_
        refine ⟨.ref a, rfl, .ref b, rfl, a, b, xs, rowV sz, rfl, .inr ⟨SqT.of ha, SqT.of hb, fun Dl hD => ?_⟩⟩
        have wk := walk_zipT (K := K) (a := a) (b := b) (xs := xs) (ys := rowV sz) (n := sz.length) hl (rowV_len sz)
        refine lc_same wk (fun _ => true) (fun i y _ => y = .bl (itemOk (xs.getD i .non) (ans sz i))) (fun _ _ _ _ _ e => e) hD (by omega) (fun H' s => ⟨same_t s (SqT.of ha), same_t s (SqT.of hb)⟩) ?_ (fun H1 acc s1 hd pr => ?_)
        · rintro i x H1 H2 N hi s1 ⟨T, y, z, rfl, hT, rfl, hy, hz⟩ kt _
          have hy : xs[i]? = some y := hy
          have hz : (rowV sz)[i]? = some z := hz
          have ez : z = .int (ans sz i) := by
            rw [rowV_get hi] at hz
            exact (Option.some.inj hz).symm
          subst ez
          have ey : xs.getD i .non = y := by rw [List.getD_eq_getElem?_getD, hy]; rfl
          have sT : Same H1 (upd H1 T (.tup [y, .int (ans sz i)])) := same_new hT
          refine gTwo upd_same ?_
          refine ⟨rfl, ?_⟩
          rcases hp y (List.mem_of_getElem? hy) with ⟨v, rfl⟩ | ⟨c, rfl⟩
          · refine ⟨_, rfl, .int v, "int", rfl, .base (.int v), by decide, true, by rfl, ?_⟩
            refine ⟨.int v, rfl, 0, v, rfl, rfl, _, rfl, ?_⟩
            refine ite2 (fun c => ?_) (fun c => ?_)
            · refine ⟨_, rfl, v, _, rfl, rfl, kt rfl _ _ sT ?_⟩
              rw [ey]
              have : decide (0 ≤ v) = true := c
              show V.bl (decide (v < ans sz i)) = V.bl (decide (0 ≤ v) && decide (v < ans sz i))
              rw [this, Bool.true_and]
            · refine kt rfl _ _ sT ?_
              rw [ey]
              have : decide (0 ≤ v) = false := by simpa using c
              show V.bl false = V.bl (decide (0 ≤ v) && decide (v < ans sz i))
              rw [this, Bool.false_and]
          · refine ⟨_, rfl, .bl c, "bool", rfl, .base (.bl c), by decide, false, by rfl, ?_⟩
            refine kt rfl _ _ sT ?_
            rw [ey]
            rfl
        · rw [filter_all] at pr
          have e := paired_map (v := fun i => V.bl (itemOk (xs.getD i .non) (ans sz i))) pr
          refine ⟨Dl, (List.range sz.length).map fun i => itemOk (xs.getD i .non) (ans sz i), rfl, SqL.of (by rw [hd, e, List.map_map]; rfl), ?_⟩
          have er : ((List.range sz.length).map fun i => itemOk (xs.getD i .non) (ans sz i)).all id = isAns xs sz := by
            unfold isAns
            rw [decide_eq_true hl, Bool.true_and, List.all_map]
            rfl
          rw [er]
          exact q _ s1
      · have hd : decide (V.int (xs.length : Int) = V.int ((rowV sz).length : Int)) = false := decide_eq_false fun z => hl (by
          have := V.int.inj z
          rw [rowV_len] at this
          omega)
        show if (!decide (V.int (xs.length : Int) = V.int ((rowV sz).length : Int))) = true then _ else _
        rw [hd]
        refine iteT ?_
        have er : isAns xs sz = false := by
          unfold isAns
          rw [decide_eq_false hl]
          rfl
        have := q H (Same.refl _)
        rw [er] at this
        exact this
/-! ### fits_answers -/
def spFits (K : PySem.W.Frag) : Sp := fun vs H Q _ => ∃ (a b : Addr) (r : Row) (st : Std), vs = [.ref a, .ref b] ∧ H a = some (.tup (rowV r)) ∧ H b = some (.tup (stV st)) ∧ r.length = st.length ∧ st.length ≤ 100 ∧ ∀ H', Same H H' → Q (.bl (fits st r)) H'
theorem k_fits_answers (B : Bi mg) (D : Placed K mg "fits_answers" s_fits_answers p_fits_answers) : Kept P w K mg base CX0 1 "fits_answers" p_fits_answers (spFits K) := by
  refine D.keep fun f fd F => F.ok sc_fits_answers (fun vs H Q E h => ?_) (fun cdv A outer s H vs Q E hr h => ?_)
  · obtain ⟨a, b, r, st, rfl, _⟩ := h
    rfl
  · obtain ⟨a, b, r, st, rfl, ha, hb, hl, hn, q⟩ := h
    refine ⟨_, pss_one (ps_ret (pe_callB callAll (by rfl) B.all PyProof.Rows.boot_all (pa_cons
        (pe_lc (own := [("answer", 2), ("told", 3)]) (by rfl) sc_fits_answers.nd (RZ.pi_zipA (by rfl) B.zip (pa_cons (pv 0) (pa_cons (pv 1) pa_nil))) (blkOk_by (N := n_fits_answers) (sc := defScope s_fits_answers) (by decide +kernel))
          (fun _ _ _ _ _ => pg_two (K := K) (pg_name (i := 2) sc_fits_answers.nd rfl (Or.inl rfl)) (pg_name (i := 3) sc_fits_answers.nd rfl (Or.inl rfl))) (fun _ _ _ _ _ => pts_nil)
          (fun _ _ _ _ _ => pe_or (pe_cmpR op_isN (pv 3) pe_non (nomark _)) (pe_one (pe_cmpR op_eq (pv 3) (pv 2) (nomark _))))) pa_nil))), ?_⟩
    refine ⟨.ref a, rfl, .ref b, rfl, a, b, _, _, rfl, .inr ⟨SqT.of ha, SqT.of hb, fun Dl hD => ?_⟩⟩
    have wk := walk_zipT (K := K) (a := a) (b := b) (xs := rowV r) (ys := stV st) (n := st.length) ((rowV_len r).trans hl) (stV_len st)
    refine lc_same wk (fun _ => true) (fun i y _ => y = .bl (fitsAt (tell st i) (ans r i))) (fun _ _ _ _ _ e => e) hD (by omega) (fun H' s => ⟨same_t s (SqT.of ha), same_t s (SqT.of hb)⟩) ?_ (fun H1 acc s1 hd pr => ?_)
    · rintro i x H1 H2 N hi s1 ⟨T, y, z, rfl, hT, rfl, hy, hz⟩ kt _
      have hy : (rowV r)[i]? = some y := hy
      have hz : (stV st)[i]? = some z := hz
      rw [rowV_get (by omega)] at hy
      rw [stV_get hi] at hz
      cases hy
      cases hz
      have sT : Same H1 (upd H1 T (.tup [.int (ans r i), optV (tell st i)])) := same_new hT
      refine gTwo upd_same ⟨rfl, ?_⟩
      refine ⟨_, rfl, rfl, _, rfl, ?_⟩
      cases c : tell st i with
      | none => exact kt rfl _ _ (c ▸ sT) (by rw [c]; rfl)
      | some v =>
        refine iteF ?_
        refine ⟨.int v, rfl, .int (ans r i), rfl, rfl, kt rfl _ _ (c ▸ sT) ?_⟩
        rw [c]
        show V.bl (decide (V.int v = V.int (ans r i))) = V.bl (v == ans r i)
        rw [dec_int]
    · rw [filter_all] at pr
      have e := paired_map (v := fun i => V.bl (fitsAt (tell st i) (ans r i))) pr
      refine ⟨Dl, (List.range st.length).map fun i => fitsAt (tell st i) (ans r i), rfl, SqL.of (by rw [hd, e, List.map_map]; rfl), ?_⟩
      have er : ((List.range st.length).map fun i => fitsAt (tell st i) (ans r i)).all id = fits st r := by
        unfold fits
        rw [List.all_map]
        rfl
      rw [er]
      exact q _ s1
end
end K71
set_option Elab.async false
set_option linter.all false
set_option maxRecDepth 100000
set_option maxHeartbeats 4000000
namespace K71
open PySem PySem.Spec PyProof.Rows L2
/-- a row is within its sizes -/
def InR (sz r : Row) : Prop := r.length = sz.length ∧ ∀ i, i < sz.length → 0 ≤ ans r i ∧ ans r i < ans sz i
/-- a Sheet stands at s: its sizes, its rows -/
structure SheetAt (K : PySem.W.Frag) (H : Hp) (s : Addr) (sz : Row) (L : RL) : Prop where
  ob : ∃ (C dx az ar : Addr) (fs : List (Str × V)), H s = some (.ins C dx fs) ∧ Cls K C ∧ NoAttr K C "sizes" ∧ NoAttr K C "rows" ∧ fs.lookup ("sizes" : Str) = some (.ref az) ∧ fs.lookup ("rows" : Str) = some (.ref ar) ∧ H az = some (.tup (rowV sz)) ∧ H ar = some (.tup (refs L))
  all : AllAt H L
  ne : L ≠ []
  rng : ∀ r, r ∈ rws L → InR sz r
  few : sz.length ≤ 6
  many : L.length ≤ 100
theorem SheetAt.mono {K : PySem.W.Frag} {H H' : Hp} {s : Addr} {sz : Row} {L : RL} (h : SheetAt K H s sz L) (e : Same H H') : SheetAt K H' s sz L := by
  obtain ⟨⟨C, dx, az, ar, fs, h1, h2, h3, h4, h5, h6, h7, h8⟩, a, b, c, d, m⟩ := h
  exact ⟨⟨C, dx, az, ar, fs, e _ _ h1, h2, h3, h4, h5, h6, e _ _ h7, e _ _ h8⟩, a.mono (.of_same e), b, c, d, m⟩
theorem SheetAt.wid {K : PySem.W.Frag} {H : Hp} {s : Addr} {sz : Row} {L : RL} (h : SheetAt K H s sz L) : Wid sz.length (rws L) := fun r hr => (h.rng r hr).1
def fitL (L : RL) (st : Std) : RL := L.filter fun p => fits st p.2
def partL (L : RL) (p : Nat) (a : Int) : RL := L.filter fun q => ans q.2 p == a
theorem rws_fit (L : RL) (st : Std) : rws (fitL L st) = fit (rws L) st := by
  unfold rws fitL fit
  rw [List.filter_map]
  rfl
theorem rws_part (L : RL) (p : Nat) (a : Int) : rws (partL L p a) = partA (rws L) p a := by
  unfold rws partL partA
  rw [List.filter_map]
  rfl
theorem Wid.sub {n : Nat} {rs rs' : List Row} (h : Wid n rs) (e : ∀ r, r ∈ rs' → r ∈ rs) : Wid n rs' := fun r hr => h r (e r hr)
/-- what a filter over the rows makes, by the turns -/
theorem filter_turns {L : RL} (f : Addr × Row → Bool) {acc : List V} (p : Paired (fun i y => y = (refs L).getD i .non) ((List.range L.length).filter fun i => (L[i]?.map f).getD false) acc) : acc = refs (L.filter f) := by
  rw [paired_map p]
  clear p
  induction L with
  | nil => rfl
  | cons x L ih =>
    rw [List.length_cons, List.range_succ_eq_map, List.filter_cons, List.filter_map]
    have e1 : (List.filter ((fun i => ((x :: L)[i]?.map f).getD false) ∘ Nat.succ) (List.range L.length)) = (List.range L.length).filter fun i => (L[i]?.map f).getD false := by
      congr 1
    rw [e1]
    have e2 : List.map (fun i => (refs (x :: L)).getD i V.non) (List.map Nat.succ ((List.range L.length).filter fun i => (L[i]?.map f).getD false)) = refs (L.filter f) := by
      rw [List.map_map, ← ih]
      rfl
    rw [List.filter_cons]
    cases c : f x with
    | true =>
      have : (((x :: L)[0]?.map f).getD false) = true := c
      rw [if_pos this, if_pos rfl, List.map_cons, e2]
      rfl
    | false =>
      have : ¬ (((x :: L)[0]?.map f).getD false) = true := by show ¬ f x = true; rw [c]; exact Bool.false_ne_true
      rw [if_neg this, if_neg Bool.false_ne_true, e2]
section
variable {P : Program} {w : World} {K : PySem.W.Frag} {mg : Str → Option Value} {base : Heap}
/-! ### sheet_rows_at -/
def spRowsAt (K : PySem.W.Frag) : Sp := fun vs H Q _ => ∃ (s b : Addr) (sz : Row) (L : RL) (st : Std), vs = [.ref s, .ref b] ∧ SheetAt K H s sz L ∧ H b = some (.tup (stV st)) ∧ st.length = sz.length ∧
  ∀ p H', H p = none → Same H H' → H' p = some (.tup (refs (fitL L st))) → Q (.ref p) H'
theorem k_sheet_rows_at (B : Bi mg) (D : Placed K mg "sheet_rows_at" s_sheet_rows_at p_sheet_rows_at) (CF : Kept P w K mg base CX0 1 "fits_answers" p_fits_answers (spFits K)) : Kept P w K mg base CX0 2 "sheet_rows_at" p_sheet_rows_at (spRowsAt K) := by
  obtain ⟨fF, fdF, GF, mF, kF, bF⟩ := CF
  refine D.keep fun f fd F => F.ok sc_sheet_rows_at (fun vs H Q E h => ?_) (fun cdv A outer s H vs Q E hr h => ?_)
  · obtain ⟨s, b, sz, L, st, rfl, _⟩ := h
    rfl
  · obtain ⟨sh, b, sz, L, st, rfl, S, hb, hl, q⟩ := h
    have hw := S.wid
    obtain ⟨⟨C, dx, az, ar, fs, h1, h2, h3, h4, h5, h6, h7, h8⟩, ha, hne, _, hn, hm⟩ := S
    refine ⟨_, pss_one (ps_ret (pe_callTy callTup (by rfl) B.tuple PyProof.Rows.boot_tuple (pa_cons
        (pe_lc (own := [("row", 2)]) (g := gName 2) (by rfl) sc_sheet_rows_at.nd (pi_tp (K := K) (pe_fld (pv 0) rfl)) (blkOk_by (N := n_sheet_rows_at) (sc := defScope s_sheet_rows_at) (by decide +kernel))
          (fun _ _ _ _ _ => pg_name (i := 2) sc_sheet_rows_at.nd rfl (Or.inl rfl))
          (fun _ _ _ _ _ => pts_one (pt_val (pe_call GF hr rfl mF kF bF .nil pass0 (pa_cons (pv 2) (pa_cons (pv 1) pa_nil)))))
          (fun _ _ _ _ _ => pv 2)) pa_nil))), ?_⟩
    refine ⟨.ref sh, rfl, sh, C, dx, fs, .ref ar, rfl, h1, h2, h4, h6, ar, rfl, ⟨_, SqT.of h8⟩, fun Dl hD => ?_⟩
    have wk := walk_tup (K := K) (a := ar) (xs := refs L)
    rw [refs_len] at wk
    refine lc_same wk (fun i => (L[i]?.map fun p => fits st p.2).getD false) (fun i y _ => y = (refs L).getD i .non) (fun _ _ _ _ _ e => e) hD (by omega) (fun H' s => same_t s (SqT.of h8)) ?_ (fun H1 acc s1 hd pr => ?_)
    · rintro i x H1 H2 N hi s1 ⟨rfl, hx⟩ kt kf
      obtain ⟨p, hp, rfl⟩ := refs_get hx
      have hpm : p ∈ L := List.mem_of_getElem? hp
      refine ⟨rfl, ?_⟩
      refine ⟨_, rfl, _, rfl, p.1, b, p.2, st, rfl, s1 _ _ (ha p hpm), s1 _ _ hb, ?_, by omega, fun H3 s3 => ⟨_, rfl, ?_⟩⟩
      · rw [hw p.2 (mem_rws hpm), hl]
      · rw [hp] at kt kf
        cases c : fits st p.2 with
        | true => exact ⟨_, rfl, kt c _ _ s3 (by rw [List.getD_eq_getElem?_getD, hx]; rfl)⟩
        | false => exact kf c _ s3
    · have e := filter_turns (fun p => fits st p.2) pr
      refine ⟨Dl, acc, rfl, .inl ⟨SqL.of hd, fun l hl => ?_⟩⟩
      refine q l _ (s1.free hl) (s1.trans (same_new hl)) ?_
      rw [upd_same, e]
      rfl
/-! ### hangs -/
theorem inV_ints (p : Nat) : ∀ l : List Nat, inV (.int p) (intsV l) = l.contains p := by
  intro l
  induction l with
  | nil => rfl
  | cons x l ih =>
    show (eqV (.int x) (.int p) || inV (.int p) (intsV l)) = (x :: l).contains p
    rw [ih, List.contains_cons]
    congr 1
    show eqV (.int (x : Int)) (.int (p : Int)) = _
    rw [Bool.eq_iff_iff]
    simp [eqV]
    omega
theorem flat_ints (l : List Nat) : (intsV l).all flatV = true := by
  rw [List.all_eq_true]
  intro x hx
  obtain ⟨i, _, rfl⟩ := List.mem_map.mp hx
  rfl
theorem contains_opn {n : Nat} {rs : List Row} {p : Nat} (hp : p < n) : (opn n rs).contains p = opnAt rs p := by
  rw [Bool.eq_iff_iff, List.contains_iff_mem, mem_opn]
  exact ⟨fun h => h.2, fun h => ⟨hp, h⟩⟩
def spHangs (K : PySem.W.Frag) : Sp := fun vs H Q _ => ∃ (a b : Addr) (L : RL) (n p o : Nat) (r : Row), vs = [.ref a, .ref b, .int p, .int o] ∧ H a = some (.tup (refs L)) ∧ AllAt H L ∧ H b = some (.tup (rowV r)) ∧ r ∈ rws L ∧ Wid n (rws L) ∧ n ≤ 100 ∧ L.length ≤ 100 ∧ p < n ∧ o < n ∧
  ∀ H', Same H H' → Q (.bl (!opnAt (part (rws L) o r) p)) H'
theorem k_hangs (B : Bi mg) (D : Placed K mg "hangs" s_hangs p_hangs) (CD : Kept P w K mg base CX0 1 "differing" p_differing (spDiff K)) : Kept P w K mg base CX0 2 "hangs" p_hangs (spHangs K) := by
  obtain ⟨fD, fdD, GD, mD, kD, bD⟩ := CD
  refine D.keep fun f fd F => F.ok sc_hangs (fun vs H Q E h => ?_) (fun cdv A outer s H vs Q E hr h => ?_)
  · obtain ⟨a, b, L, n, p, o, r, rfl, _⟩ := h
    rfl
  · obtain ⟨a, b, L, n, p, o, r, rfl, ha, hL, hb, hr', hw, hn, hl, hp, ho, q⟩ := h
    refine ⟨_, pss_one (ps_ret (pe_cmpR op_notIn_seq (pv 2) (pe_call GD hr rfl mD kD bD .nil pass0 (pa_cons
        (pe_lc (own := [("other", 4)]) (g := gName 4) (by rfl) sc_hangs.nd (pi_tp (K := K) (pv 0)) (blkOk_by (N := n_hangs) (sc := defScope s_hangs) (by decide +kernel))
          (fun _ _ _ _ _ => pg_name (i := 4) sc_hangs.nd rfl (Or.inl rfl))
          (fun _ _ _ _ _ => pts_one (pt_cmpR op_eq (pe_ix (ixT (K := K)) (pv 4) (pv 3) (fun _ _ => rfl)) (pe_ix (ixT (K := K)) (pv 1) (pv 3) (fun _ _ => rfl)) (nomark _)))
          (fun _ _ _ _ _ => pv 4)) pa_nil)) rfl)), ?_⟩
    refine ⟨.int p, rfl, .ref a, rfl, a, rfl, ⟨_, SqT.of ha⟩, fun Dl hD => ?_⟩
    have wk := walk_tup (K := K) (a := a) (xs := refs L)
    rw [refs_len] at wk
    refine lc_same wk (fun i => (L[i]?.map fun q => ans q.2 o == ans r o).getD false) (fun i y _ => y = (refs L).getD i .non) (fun _ _ _ _ _ e => e) hD (by omega) (fun H' s => same_t s (SqT.of ha)) ?_ (fun H1 acc s1 hd pr => ?_)
    · rintro i x H1 H2 N hi s1 ⟨rfl, hx⟩ kt kf
      obtain ⟨p', hp', rfl⟩ := refs_get hx
      have hpm : p' ∈ L := List.mem_of_getElem? hp'
      refine ⟨rfl, ?_⟩
      refine ⟨_, rfl, _, rfl, rIxT_of (s1 _ _ (hL p' hpm)) (rowV_at (by rw [hw p'.2 (mem_rws hpm)]; exact ho)) ⟨_, rfl, _, rfl, rIxT_of (s1 _ _ hb) (rowV_at (by rw [hw r hr']; exact ho)) ⟨rfl, _, rfl, ?_⟩⟩⟩
      rw [dec_int]
      rw [hp'] at kt kf
      cases c : ans p'.2 o == ans r o with
      | true => exact ⟨_, rfl, kt c _ _ (Same.refl _) (by rw [List.getD_eq_getElem?_getD, hx]; rfl)⟩
      | false => exact kf c _ (Same.refl _)
    · have e := filter_turns (fun q => ans q.2 o == ans r o) pr
      have e2 : rws (partL L o (ans r o)) = part (rws L) o r := rws_part L o (ans r o)
      have hpr : r ∈ rws (partL L o (ans r o)) := by rw [e2]; exact self_part hr'
      have sub : ∀ q, q ∈ partL L o (ans r o) → q ∈ L := fun q hq => (List.mem_filter.mp hq).1
      refine ⟨Dl, partL L o (ans r o), n, rfl, .inl (SqL.of (by rw [hd, e]; rfl)), (hL.mono (.of_same s1)).sub sub, ?_, ?_, hn, ?_, fun l H2 nl s2 e3 => ?_⟩
      · intro z
        rw [z] at hpr
        cases hpr
      · rw [e2]
        exact hw.sub fun x hx => part_sub hx
      · exact Nat.le_trans (List.length_filter_le _ _) hl
      · refine ⟨l, _, rfl, .inr (SqT.of e3), rfl, flat_ints _, ?_⟩
        rw [if_pos rfl, inV_ints, contains_opn hp, e2]
        exact q _ (s1.trans s2)
end
end K71
set_option Elab.async false
set_option linter.all false
set_option maxRecDepth 100000
set_option maxHeartbeats 4000000
/-! k71: rows, rows of rows, standings as data, for == and in. -/
namespace K71
open PySem PySem.Spec PyProof.Rows L2
def rowD (r : Row) : PyData := .tuple (r.map PyData.int)
def optD : Option Int → PyData
  | none => .none
  | some i => .int i
def stD (st : Std) : PyData := .tuple (st.map optD)
def rowsD (rs : List Row) : List PyData := rs.map rowD
theorem eqvAll_map {α : Type} [DecidableEq α] {f : α → PyData} (h : ∀ x y, PyData.eqv (f x) (f y) = decide (x = y)) : ∀ xs ys : List α, PyData.eqvAll (xs.map f) (ys.map f) = decide (xs = ys)
  | [], [] => by simp [PyData.eqvAll]
  | [], y :: ys => by simp [PyData.eqvAll]
  | x :: xs, [] => by simp [PyData.eqvAll]
  | x :: xs, y :: ys => by
    simp only [List.map_cons, PyData.eqvAll, h, eqvAll_map h xs ys]
    rw [Bool.eq_iff_iff]
    simp
theorem eqv_int (i j : Int) : PyData.eqv (.int i) (.int j) = decide (i = j) := by
  simp only [PyData.eqv]
  rw [Bool.eq_iff_iff]
  simp
theorem eqv_row (r q : Row) : PyData.eqv (rowD r) (rowD q) = decide (r = q) := by
  simp only [rowD, PyData.eqv]
  exact eqvAll_map eqv_int r q
theorem eqv_opt (o u : Option Int) : PyData.eqv (optD o) (optD u) = decide (o = u) := by
  cases o <;> cases u <;> simp [optD, PyData.eqv]
  rw [Bool.eq_iff_iff]
  simp
theorem eqv_st (a b : Std) : PyData.eqv (stD a) (stD b) = decide (a = b) := by
  simp only [stD, PyData.eqv]
  exact eqvAll_map eqv_opt a b
theorem eqv_rowsT (a b : List Row) : PyData.eqv (.tuple (rowsD a)) (.tuple (rowsD b)) = decide (a = b) := by
  simp only [PyData.eqv, rowsD]
  exact eqvAll_map eqv_row a b
theorem lay_map {α : Type} {f : α → PyData} (h : ∀ x, (f x).canLay0 = true) : ∀ xs : List α, PyData.canLayAll0 (xs.map f) = true
  | [] => by simp [PyData.canLayAll0]
  | x :: xs => by simp [PyData.canLayAll0, h x, lay_map h xs]
theorem depth_map {α : Type} {f : α → PyData} {d : Nat} (h : ∀ x, (f x).depth ≤ d) : ∀ xs : List α, PyData.depthAll (xs.map f) ≤ d
  | [] => by simp [PyData.depthAll]
  | x :: xs => by
    have h1 := h x
    have h2 := depth_map h xs
    simp only [List.map_cons, PyData.depthAll]
    omega
theorem row_lay (r : Row) : (rowD r).canLay0 = true := by
  simp only [rowD, PyData.canLay0]
  exact lay_map (fun i => by simp [PyData.canLay0]) r
theorem row_depth (r : Row) : (rowD r).depth ≤ 1 := by
  have := depth_map (f := PyData.int) (d := 0) (fun i => by simp [PyData.depth]) r
  simp only [rowD, PyData.depth]
  omega
theorem opt_lay (o : Option Int) : (optD o).canLay0 = true := by cases o <;> simp [optD, PyData.canLay0]
theorem opt_depth (o : Option Int) : (optD o).depth ≤ 0 := by cases o <;> simp [optD, PyData.depth]
theorem st_lay (r : Std) : (stD r).canLay0 = true := by
  simp only [stD, PyData.canLay0]
  exact lay_map opt_lay r
theorem st_depth (r : Std) : (stD r).depth ≤ 1 := by
  have := depth_map opt_depth r
  simp only [stD, PyData.depth]
  omega
theorem shaped_of {d : PyData} (h1 : d.canLay0 = true) (h2 : d.depth ≤ 64) : SeqAt.shaped d = true := by
  unfold SeqAt.shaped
  rw [h1, decide_eq_true h2]
  rfl
theorem row_shaped (r : Row) : SeqAt.shaped (rowD r) = true := shaped_of (row_lay r) (Nat.le_trans (row_depth r) (by decide))
theorem st_shaped (r : Std) : SeqAt.shaped (stD r) = true := shaped_of (st_lay r) (Nat.le_trans (st_depth r) (by decide))
theorem rowsT_shaped (rs : List Row) : SeqAt.shaped (.tuple (rowsD rs)) = true := by
  refine shaped_of ?_ ?_
  · simp only [PyData.canLay0, rowsD]
    exact lay_map row_lay rs
  · have := depth_map row_depth rs
    simp only [PyData.depth, rowsD]
    omega
theorem rowsL_shaped (rs : List Row) : SeqAt.shaped (.list (rowsD rs)) = true := by
  refine shaped_of ?_ ?_
  · simp only [PyData.canLay0, rowsD]
    exact lay_map row_lay rs
  · have := depth_map row_depth rs
    simp only [PyData.depth, rowsD]
    omega
section
variable {K : PySem.W.Frag} {H : Hp} {a : Addr}
theorem dpInts : ∀ r : Row, DpAll K H (rowV r) (r.map PyData.int)
  | [] => .nil
  | i :: r => .cons (.int i) (dpInts r)
theorem dpRow {r : Row} (h : H a = some (.tup (rowV r))) : Dp K H (.ref a) (rowD r) := .tup (SqT.of h) (dpInts r)
theorem dpOpts : ∀ st : Std, DpAll K H (stV st) (st.map optD)
  | [] => .nil
  | none :: st => .cons .non (dpOpts st)
  | some i :: st => .cons (.int i) (dpOpts st)
theorem dpSt {st : Std} (h : H a = some (.tup (stV st))) : Dp K H (.ref a) (stD st) := .tup (SqT.of h) (dpOpts st)
theorem dpRows : ∀ {L : RL}, AllAt H L → DpAll K H (refs L) (rowsD (rws L))
  | [], _ => .nil
  | p :: L, h => .cons (dpRow (h p List.mem_cons_self)) (dpRows fun q hq => h q (List.mem_cons_of_mem _ hq))
theorem dpRowsT {L : RL} (h : H a = some (.tup (refs L))) (hL : AllAt H L) : Dp K H (.ref a) (.tuple (rowsD (rws L))) := .tup (SqT.of h) (dpRows hL)
theorem dpRowsL {L : RL} (h : SqL K H a (refs L)) (hL : AllAt H L) : Dp K H (.ref a) (.list (rowsD (rws L))) := .lst h (dpRows hL)
theorem any_rows (rs : List Row) (r : Row) : ((rowsD rs).any fun z => PyData.eqv z (rowD r)) = rs.contains r := by
  unfold rowsD
  rw [List.any_map, Bool.eq_iff_iff, List.any_eq_true, List.contains_iff_mem]
  constructor
  · rintro ⟨x, hx, e⟩
    have e : PyData.eqv (rowD x) (rowD r) = true := e
    rw [eqv_row] at e
    rw [← of_decide_eq_true e]
    exact hx
  · intro h
    exact ⟨r, h, by show PyData.eqv (rowD r) (rowD r) = true; rw [eqv_row]; exact decide_eq_true rfl⟩
end
end K71
set_option Elab.async false
set_option linter.all false
set_option maxRecDepth 100000
set_option maxHeartbeats 4000000
namespace K71
open PySem PySem.Spec PyProof.Rows L2
section
variable {P : Program} {w : World} {K : PySem.W.Frag} {mg : Str → Option Value} {base : Heap}
/-! ### is_sheet_standing, of a standing -/
theorem tyInt {H : Hp} (i : Int) : TyX K H (.int i) (.type "int") := .base (.int i)
theorem tyTup {H : Hp} {a : Addr} {xs : List V} (h : H a = some (.tup xs)) : TyX K H (.ref a) (.type "tuple") := .base (.tup h)
theorem kitTT : PySem.W.kitOne K (.type "tuple") (.type "tuple") = some true := kit_ty (by decide +kernel)
def spIsSt (K : PySem.W.Frag) : Sp := fun vs H Q _ => ∃ (s b : Addr) (sz : Row) (L : RL) (st : Std), vs = [.ref s, .ref b] ∧ SheetAt K H s sz L ∧ H b = some (.tup (stV st)) ∧ st.length = sz.length ∧ fitL L st ≠ [] ∧ ∀ H', Same H H' → Q (.bl true) H'
theorem k_is_sheet_standing (B : Bi mg) (D : Placed K mg "is_sheet_standing" s_is_sheet_standing p_is_sheet_standing) (CI : Kept P w K mg base CX0 1 "is_integer" p_is_integer (spIsInt K)) (CR : Kept P w K mg base CX0 2 "sheet_rows_at" p_sheet_rows_at (spRowsAt K)) :
    Kept P w K mg base CX0 3 "is_sheet_standing" p_is_sheet_standing (spIsSt K) := by
  obtain ⟨fI, fdI, GI, mI, kI, bI⟩ := CI
  obtain ⟨fR, fdR, GR, mR, kR, bR⟩ := CR
  refine D.keep fun f fd F => F.ok sc_is_sheet_standing (fun vs H Q E h => ?_) (fun cdv A outer s H vs Q E hr h => ?_)
  · obtain ⟨s, b, sz, L, st, rfl, _⟩ := h
    rfl
  · obtain ⟨sh, b, sz, L, st, rfl, S, hb, hl, hf, q⟩ := h
    have hr1 : Room 1 _ := hr.mono (by decide)
    refine ⟨_, pss_cons (ps_if (PW.pt (pw_or (pt_not (pt_val (pe_callB callIsi (by rfl) B.isi boot_isinstance (pa_cons (pv 1) (pa_cons (pe_bltn (v := .ty "tuple") (by rfl) B.tuple PyProof.Rows.boot_tuple rfl) pa_nil)))))
        (pw_or1 (pt_cmpR op_ne (pe_callB callLen (by rfl) B.len PySem.boot_len (pa_cons (pv 1) pa_nil)) (pe_callB callLen (by rfl) B.len PySem.boot_len (pa_cons (pe_fld (pv 0) rfl) pa_nil)) (nomark _))))) (pss_one (ps_ret pe_bl)) pss_nil)
      (pss_cons (ps_for PassesOwn.never rfl (RZ.pi_zipA (by rfl) B.zip (pa_cons (pv 1) (pa_cons (pe_fld (pv 0) rfl) pa_nil)))
          (pg_two (K := K) (pg_name (i := 2) sc_is_sheet_standing.nd rfl (Or.inl rfl)) (pg_name (i := 3) sc_is_sheet_standing.nd rfl (Or.inl rfl)))
          (pss_one (ps_if (PW.pt (pw_and (pt_cmpR op_notN (pv 2) pe_non (nomark _)) (pw_and1 (pt_not (PW.pt (pw_and (pt_val (pe_call GI hr1 rfl mI kI bI .nil pass0 (pa_cons (pv 2) pa_nil))) (pw_and1 (pt_chain op_le op_lt pe_int (pv 2) (pv 3)))))))))
            (pss_one (ps_ret pe_bl)) pss_nil)))
      (pss_one (ps_ret (pe_cmpR (op_neD hr.units) (pe_call GR hr rfl mR kR bR .nil pass0 (pa_cons (pv 0) (pa_cons (pv 1) pa_nil))) (pe_tup pa_nil) (nomark _))))), ?_⟩
    obtain ⟨⟨C, dx, az, ar, fs, h1, h2, h3, h4, h5, h6, h7, h8⟩, ha, hne, hrg, hn, hm⟩ := id S
    have bnd : ∀ i v, i < st.length → tell st i = some v → 0 ≤ v ∧ v < ans sz i := fun i v hi e => by
      obtain ⟨p, hp⟩ := List.exists_mem_of_ne_nil _ hf
      have hpm := List.mem_filter.mp hp
      have e2 := fits_iff.mp hpm.2 i hi v e
      rw [e2]
      exact (hrg p.2 (mem_rws hpm.1)).2 i (by omega)
    refine ⟨.ref b, rfl, .ref b, .ty "tuple", .type "tuple", .type "tuple", true, rfl, .ty _, tyTup hb, kitTT, true, rfl, ?_⟩
    refine ⟨_, rfl, b, _, rfl, .inr (SqT.of hb), _, rfl, sh, C, dx, fs, _, rfl, h1, h2, h3, h5, az, _, rfl, .inr (SqT.of h7), rfl, _, rfl, ?_⟩
    refine iteNS (by rw [rowV_len, stV_len, hl]) ?_
    refine ⟨_, rfl, _, rfl, sh, C, dx, fs, _, rfl, h1, h2, h3, h5, b, az, _, _, rfl, .inr ⟨SqT.of hb, SqT.of h7, ?_⟩⟩
    have wk := walk_zipT (K := K) (a := b) (b := az) (xs := stV st) (ys := rowV sz) (n := st.length) (stV_len st) ((rowV_len sz).trans hl.symm)
    refine for_it wk (fun i σ H' => Same H H' ∧ ∃ x2 x3, σ = [some (.ref sh), some (.ref b), x2, x3]) ⟨Same.refl _, none, none, rfl⟩ (fun i σ H' _ p => ⟨same_t p.1 (SqT.of hb), same_t p.1 (SqT.of h7)⟩) ?_ ?_
    · rintro i x σ H1 H2 hi ⟨s1, x2, x3, rfl⟩ ⟨T, y, z, rfl, hT, rfl, hy, hz⟩
      have hy : (stV st)[i]? = some y := hy
      have hz : (rowV sz)[i]? = some z := hz
      rw [stV_get hi] at hy
      rw [rowV_get (by omega)] at hz
      cases hy
      cases hz
      have sT : Same H1 (upd H1 T (.tup [optV (tell st i), .int (ans sz i)])) := same_new hT
      have s2 := s1.trans sT
      refine gTwo upd_same ?_
      refine ⟨_, rfl, rfl, _, rfl, ?_⟩
      cases c : tell st i with
      | none =>
        refine iteF ?_
        exact iteF ⟨c ▸ s2, _, _, rfl⟩
      | some v =>
        obtain ⟨b1, b2⟩ := bnd i v hi c
        refine iteT ?_
        refine ⟨.int v, rfl, .int v, "int", rfl, .base (.int v), by decide, true, by rfl, ?_⟩
        refine ⟨.int v, rfl, 0, v, rfl, rfl, _, rfl, ?_⟩
        have e1 : decide (0 ≤ v) = true := decide_eq_true b1
        have e2 : decide (v < ans sz i) = true := decide_eq_true b2
        refine ite2 (fun _ => ?_) (fun z => absurd e1 z)
        refine ⟨_, rfl, v, ans sz i, rfl, rfl, _, rfl, ?_⟩
        show if (!decide (v < ans sz i)) = true then _ else _
        rw [e2]
        refine iteF ?_
        exact ⟨c ▸ s2, _, _, rfl⟩
    · rintro σ H1 ⟨s1, x2, x3, rfl⟩
      refine ⟨_, rfl, _, rfl, sh, b, sz, L, st, rfl, S.mono s1, s1 _ _ hb, hl, fun p H2 np s2 e2 => ?_⟩
      refine ⟨Nat.zero_le _, fun t nt => ?_⟩
      have st2 := same_new (o := .tup []) nt
      have hp2 : (upd H2 t (.tup [])) p = some (.tup (refs (fitL L st))) := st2 _ _ e2
      have all2 : AllAt (upd H2 t (.tup [])) (fitL L st) := (ha.mono (.of_same (s1.trans (s2.trans st2)))).sub fun q hq => (List.mem_filter.mp hq).1
      refine ⟨_, .tuple (rowsD []), dpRowsT hp2 all2, .tup (SqT.of upd_same) .nil, rowsT_shaped _, rowsT_shaped _, ?_⟩
      rw [eqv_rowsT]
      have : rws (fitL L st) ≠ [] := fun z => hf (List.map_eq_nil_iff.mp z)
      rw [decide_eq_false this]
      exact q _ (s1.trans (s2.trans st2))
/-! ### is_sheet_place, of a place -/
def spIsPl (K : PySem.W.Frag) : Sp := fun vs H Q _ => ∃ (s : Addr) (sz : Row) (L : RL) (p : Nat), vs = [.ref s, .int p] ∧ SheetAt K H s sz L ∧ p < sz.length ∧ ∀ H', Same H H' → Q (.bl true) H'
theorem k_is_sheet_place (B : Bi mg) (D : Placed K mg "is_sheet_place" s_is_sheet_place p_is_sheet_place) (CI : Kept P w K mg base CX0 1 "is_integer" p_is_integer (spIsInt K)) :
    Kept P w K mg base CX0 2 "is_sheet_place" p_is_sheet_place (spIsPl K) := by
  obtain ⟨fI, fdI, GI, mI, kI, bI⟩ := CI
  refine D.keep fun f fd F => F.ok sc_is_sheet_place (fun vs H Q E h => ?_) (fun cdv A outer s H vs Q E hr h => ?_)
  · obtain ⟨s, sz, L, p, rfl, _⟩ := h
    rfl
  · obtain ⟨sh, sz, L, p, rfl, S, hp, q⟩ := h
    refine ⟨_, pss_one (ps_ret (pe_and (pe_call GI hr rfl mI kI bI .nil pass0 (pa_cons (pv 1) pa_nil)) (pe_one (pe_chain op_le op_lt pe_int (pv 1) (pe_callB callLen (by rfl) B.len PySem.boot_len (pa_cons (pe_fld (pv 0) rfl) pa_nil)))))), ?_⟩
    obtain ⟨⟨C, dx, az, ar, fs, h1, h2, h3, h4, h5, h6, h7, h8⟩, _⟩ := id S
    refine ⟨.int p, rfl, .int p, "int", rfl, .base (.int p), by decide, true, by rfl, ?_⟩
    refine ⟨.int p, rfl, 0, (p : Int), rfl, rfl, true, ?_, ?_⟩
    · show V.bl (decide ((0 : Int) ≤ (p : Int))) = _
      rw [decide_eq_true (by omega)]
    refine iteT ⟨_, rfl, sh, C, dx, fs, _, rfl, h1, h2, h3, h5, az, _, rfl, .inr (SqT.of h7), (p : Int), _, rfl, rfl, ?_⟩
    show Q (V.bl (decide ((p : Int) < (((rowV sz).length : Nat) : Int)))) H
    rw [rowV_len, decide_eq_true (by omega)]
    exact q _ (Same.refl _)
/-! ### loose_at -/
def looseB (n : Nat) (L : RL) (r : Row) (p q : Nat) : Bool := (p != q) && !opnAt (part (rws L) p r) q && opnAt (part (rws L) q r) p
/-- the first in the program's order -/
def triples (n : Nat) (L : RL) : List ((Addr × Row) × Nat × Nat) := L.flatMap fun r => (opn n (rws L)).flatMap fun p => (opn n (rws L)).map fun q => (r, p, q)
def looseAtF (n : Nat) (L : RL) : Option ((Addr × Row) × Nat × Nat) := (triples n L).find? fun t => looseB n L t.1.2 t.2.1 t.2.2
def spLooseAt (K : PySem.W.Frag) : Sp := fun vs H Q _ => ∃ (a : Addr) (L : RL) (n : Nat), vs = [.ref a] ∧ H a = some (.tup (refs L)) ∧ AllAt H L ∧ L ≠ [] ∧ Wid n (rws L) ∧ n ≤ 100 ∧ L.length ≤ 100 ∧
  (looseAtF n L = none → ∀ H', Same H H' → Q .non H') ∧
  (∀ t, looseAtF n L = some t → ∀ x H', H x = none → Same H H' → H' x = some (.tup [.ref t.1.1, .int t.2.1, .int t.2.2]) → Q (.ref x) H')
theorem cut_at {α : Type} {l : List α} {i : Nat} {x : α} (h : l[i]? = some x) : l = l.take i ++ x :: l.drop (i + 1) := by
  obtain ⟨hi, e⟩ := List.getElem?_eq_some_iff.mp h
  rw [← e, ← List.drop_eq_getElem_cons hi, List.take_append_drop]
theorem find_flat {α β : Type} {l : List α} {f : α → List β} {c : β → Bool} {i : Nat} {x : α} {b : β} (hi : l[i]? = some x) (hn : ∀ y, y ∈ l.take i → ∀ z, z ∈ f y → c z = false) (hx : (f x).find? c = some b) : (l.flatMap f).find? c = some b := by
  rw [cut_at hi, List.flatMap_append, List.flatMap_cons, List.find?_append, List.find?_append, hx]
  have : ((l.take i).flatMap f).find? c = none := by
    rw [List.find?_eq_none]
    intro z hz
    obtain ⟨y, hy, hz⟩ := List.mem_flatMap.mp hz
    rw [hn y hy z hz]
    exact Bool.false_ne_true
  rw [this]
  rfl
theorem find_map {α β : Type} {l : List α} {g : α → β} {c : β → Bool} {i : Nat} {x : α} (hi : l[i]? = some x) (hn : ∀ y, y ∈ l.take i → c (g y) = false) (hx : c (g x) = true) : (l.map g).find? c = some (g x) := by
  rw [cut_at hi, List.map_append, List.map_cons, List.find?_append]
  have : ((l.take i).map g).find? c = none := by
    rw [List.find?_eq_none]
    intro z hz
    obtain ⟨y, hy, rfl⟩ := List.mem_map.mp hz
    rw [hn y hy]
    exact Bool.false_ne_true
  rw [this, List.find?_cons, hx]
  rfl
theorem intsV_get {l : List Nat} {i : Nat} {x : V} (h : (intsV l)[i]? = some x) : ∃ p : Nat, l[i]? = some p ∧ x = .int (p : Int) := by
  unfold intsV at h
  rw [List.getElem?_map] at h
  cases e : l[i]? with
  | none => rw [e] at h; cases h
  | some p => rw [e] at h; exact ⟨p, rfl, (Option.some.inj h).symm⟩
theorem take_mem {α : Type} {l : List α} {i : Nat} {x y : α} (h : l[i]? = some x) (hy : y ∈ l.take (i + 1)) : y ∈ l.take i ∨ y = x := by
  rw [List.take_add_one, h] at hy
  rcases List.mem_append.mp hy with z | z
  · exact .inl z
  · exact .inr (List.mem_singleton.mp z)
theorem k_loose_at (B : Bi mg) (D : Placed K mg "loose_at" s_loose_at p_loose_at) (CD : Kept P w K mg base CX0 1 "differing" p_differing (spDiff K)) (CH : Kept P w K mg base CX0 2 "hangs" p_hangs (spHangs K)) :
    Kept P w K mg base CX0 3 "loose_at" p_loose_at (spLooseAt K) := by
  obtain ⟨fD, fdD, GD, mD, kD, bD⟩ := CD
  obtain ⟨fH, fdH, GH, mH, kH, bH⟩ := CH
  refine D.keep fun f fd F => F.ok sc_loose_at (fun vs H Q E h => ?_) (fun cdv A outer s H vs Q E hr h => ?_)
  · obtain ⟨a, L, n, rfl, _⟩ := h
    rfl
  · obtain ⟨a, L, n, rfl, ha, hL, hne, hw, hn, hl, q0, q1⟩ := h
    have hr1 : Room 1 _ := hr.mono (by decide)
    refine ⟨_, pss_cons (ps_set (i := 1) sc_loose_at.nd rfl (Or.inl rfl) (pe_call GD hr1 rfl mD kD bD .nil pass0 (pa_cons (pv 0) pa_nil)))
      (pss_cons (ps_for PassesOwn.never rfl (pi_tup (pv 0)) (pg_name (i := 2) sc_loose_at.nd rfl (Or.inl rfl))
        (pss_one (ps_for PassesOwn.never rfl (pi_tup (pv 1)) (pg_name (i := 3) sc_loose_at.nd rfl (Or.inl rfl))
          (pss_one (ps_for PassesOwn.never rfl (pi_tup (pv 1)) (pg_name (i := 4) sc_loose_at.nd rfl (Or.inl rfl))
            (pss_one (ps_if (PW.pt (pw_and (pt_cmpR op_ne (pv 3) (pv 4) (nomark _)) (pw_and (pt_val (pe_call GH hr rfl mH kH bH .nil pass0 (pa_cons (pv 0) (pa_cons (pv 2) (pa_cons (pv 4) (pa_cons (pv 3) pa_nil))))))
              (pw_and1 (pt_not (pt_val (pe_call GH hr rfl mH kH bH .nil pass0 (pa_cons (pv 0) (pa_cons (pv 2) (pa_cons (pv 3) (pa_cons (pv 4) pa_nil))))))))))) (pss_one (ps_ret (pe_tup (pa_cons (pv 2) (pa_cons (pv 3) (pa_cons (pv 4) pa_nil)))))) pss_nil)))))))
      (pss_one (ps_ret pe_non))), ?_⟩
    refine ⟨.ref a, rfl, a, L, n, rfl, .inr (SqT.of ha), hL, hne, hw, hn, hl, fun pl H1 npl s1 epl => ?_⟩
    -- the rows
    refine ⟨.ref a, rfl, a, rfl, ⟨_, SqT.of (s1 _ _ ha)⟩, ?_⟩
    have wr := walk_tup (K := K) (a := a) (xs := refs L)
    have wp := walk_tup (K := K) (a := pl) (xs := intsV (opn n (rws L)))
    refine for_it wr (fun i σ H' => Same H1 H' ∧ (∃ x2 x3 x4, σ = [some (.ref a), some (.ref pl), x2, x3, x4]) ∧ ∀ r, r ∈ L.take i → ∀ p, p ∈ opn n (rws L) → ∀ q, q ∈ opn n (rws L) → looseB n L r.2 p q = false)
      ⟨Same.refl _, ⟨none, none, none, rfl⟩, fun r hr => by cases hr⟩ (fun i σ H' _ p => SqT.of (p.1 _ _ (s1 _ _ ha))) ?_ ?_
    · rintro i x σ H2 _ hi ⟨s2, ⟨x2, x3, x4, rfl⟩, ok⟩ ⟨rfl, hx⟩
      obtain ⟨r, hr', rfl⟩ := refs_get hx
      have hrm : r ∈ L := List.mem_of_getElem? hr'
      refine ⟨.ref pl, rfl, pl, rfl, ⟨_, SqT.of (s2 _ _ epl)⟩, ?_⟩
      refine for_it wp (fun j σ H' => Same H1 H' ∧ (∃ x3 x4, σ = [some (.ref a), some (.ref pl), some (.ref r.1), x3, x4]) ∧ ∀ p, p ∈ (opn n (rws L)).take j → ∀ q, q ∈ opn n (rws L) → looseB n L r.2 p q = false)
        ⟨s2, ⟨x3, x4, rfl⟩, fun p hp => by cases hp⟩ (fun j σ H' _ p => SqT.of (p.1 _ _ epl)) ?_ ?_
      · rintro j x σ H3 _ hj ⟨s3, ⟨x3, x4, rfl⟩, ok2⟩ ⟨rfl, hx⟩
        obtain ⟨p, hp, rfl⟩ := intsV_get hx
        have hpm : p ∈ opn n (rws L) := List.mem_of_getElem? hp
        refine ⟨.ref pl, rfl, pl, rfl, ⟨_, SqT.of (s3 _ _ epl)⟩, ?_⟩
        refine for_it wp (fun k σ H' => Same H1 H' ∧ (∃ x4, σ = [some (.ref a), some (.ref pl), some (.ref r.1), some (.int p), x4]) ∧ ∀ q, q ∈ (opn n (rws L)).take k → looseB n L r.2 p q = false)
          ⟨s3, ⟨x4, rfl⟩, fun p hp => by cases hp⟩ (fun j σ H' _ p => SqT.of (p.1 _ _ epl)) ?_ ?_
        · rintro k x σ _ H4 hk ⟨s4, ⟨x4, rfl⟩, ok3⟩ ⟨rfl, hx⟩
          obtain ⟨qq, hq, rfl⟩ := intsV_get hx
          have hqm : qq ∈ opn n (rws L) := List.mem_of_getElem? hq
          have sA := s1.trans s4
          have next : ∀ H5, Same H4 H5 → looseB n L r.2 p qq = false → Same H1 H5 ∧ (∃ x4, ([some (.ref a), some (.ref pl), some (.ref r.1), some (.int p), some (.int qq)] : L2.St) = [some (.ref a), some (.ref pl), some (.ref r.1), some (.int p), x4]) ∧ ∀ q, q ∈ (opn n (rws L)).take (k + 1) → looseB n L r.2 p q = false := fun H5 s5 hf =>
            ⟨s4.trans s5, ⟨_, rfl⟩, fun q hq' => (take_mem hq hq').elim (ok3 q) fun e => by rw [e]; exact hf⟩
          refine ⟨_, rfl, _, rfl, rfl, _, rfl, ?_⟩
          have ed : decide (V.int (p : Int) = V.int (qq : Int)) = decide (p = qq) := by
            rw [Bool.eq_iff_iff]
            simp
            omega
          rw [ed]
          by_cases hpq : p = qq
          · rw [decide_eq_true hpq]
            refine iteF (iteF (next H4 (Same.refl _) ?_))
            unfold looseB
            rw [hpq]
            simp
          rw [decide_eq_false hpq]
          refine iteT ⟨_, rfl, _, rfl, _, rfl, _, rfl, a, r.1, L, n, qq, p, r.2, rfl, sA _ _ ha, hL.mono (.of_same sA), sA _ _ (hL r hrm), mem_rws hrm, hw, hn, hl, (mem_opn.mp hqm).1, (mem_opn.mp hpm).1, fun H5 s5 => ⟨_, rfl, ?_⟩⟩
          cases c1 : opnAt (part (rws L) p r.2) qq with
          | true =>
            refine iteF (iteF (next H5 s5 ?_))
            unfold looseB
            rw [c1]
            simp
          | false =>
          have sB := sA.trans s5
          refine iteT ⟨_, rfl, _, rfl, _, rfl, _, rfl, a, r.1, L, n, p, qq, r.2, rfl, sB _ _ ha, hL.mono (.of_same sB), sB _ _ (hL r hrm), mem_rws hrm, hw, hn, hl, (mem_opn.mp hpm).1, (mem_opn.mp hqm).1, fun H6 s6 => ⟨_, rfl, ?_⟩⟩
          cases c2 : opnAt (part (rws L) qq r.2) p with
          | false =>
            refine iteF (next H6 (s5.trans s6) ?_)
            unfold looseB
            rw [c2]
            simp
          | true =>
          refine iteT ⟨_, rfl, _, rfl, _, rfl, by show 3 ≤ sizeLine; decide, fun t nt => ?_⟩
          have sC := sB.trans s6
          refine q1 (r, p, qq) ?_ t _ (sC.free nt) (sC.trans (same_new nt)) upd_same
          unfold looseAtF triples
          refine find_flat hr' (fun y hy z hz => ?_) (find_flat hp (fun y hy z hz => ?_) (find_map (g := fun q => (r, p, q)) hq (fun y hy => ?_) ?_))
          · obtain ⟨p', hp', hz⟩ := List.mem_flatMap.mp hz
            obtain ⟨q', hq', rfl⟩ := List.mem_map.mp hz
            exact ok y hy p' hp' q' hq'
          · obtain ⟨q', hq', rfl⟩ := List.mem_map.mp hz
            exact ok2 y hy q' hq'
          · exact ok3 y hy
          · show looseB n L r.2 p qq = true
            unfold looseB
            rw [c1, c2]
            simp [hpq]
        · rintro σ H4 ⟨s4, ⟨x4, rfl⟩, ok3⟩
          refine ⟨s4, ⟨_, _, rfl⟩, fun q hq' => (take_mem hp hq').elim (ok2 q) fun e => ?_⟩
          intro u hu
          rw [e]
          have hlen : (intsV (opn n (rws L))).length = (opn n (rws L)).length := List.length_map _
          rw [hlen, List.take_length] at ok3
          exact ok3 u hu
      · rintro σ H3 ⟨s3, ⟨x3, x4, rfl⟩, ok2⟩
        refine ⟨s3, ⟨_, _, _, rfl⟩, fun u hu => (take_mem hr' hu).elim (ok u) fun e => ?_⟩
        rw [e]
        have hlen : (intsV (opn n (rws L))).length = (opn n (rws L)).length := List.length_map _
        rw [hlen, List.take_length] at ok2
        exact ok2
    · rintro σ H2 ⟨s2, ⟨x2, x3, x4, rfl⟩, ok⟩
      rw [refs_len, List.take_length] at ok
      refine q0 ?_ _ (s1.trans s2)
      unfold looseAtF
      rw [List.find?_eq_none]
      intro t ht
      unfold triples at ht
      obtain ⟨r, hr', ht⟩ := List.mem_flatMap.mp ht
      obtain ⟨p, hp, ht⟩ := List.mem_flatMap.mp ht
      obtain ⟨q, hq, rfl⟩ := List.mem_map.mp ht
      rw [ok r hr' p hp q hq]
      exact Bool.false_ne_true
end
end K71
set_option Elab.async false
set_option linter.all false
set_option maxRecDepth 100000
set_option maxHeartbeats 4000000
namespace K71
open PySem PySem.Spec PyProof.Rows L2
/-! ### by_answers -/
def dkOf (ks : List (Int × Addr)) : List (Key × V) := ks.map fun k => (Sum.inl k.1, V.ref k.2)
theorem partL_snoc (L : RL) (q : Addr × Row) (p : Nat) (a : Int) : partL (L ++ [q]) p a = if ans q.2 p = a then partL L p a ++ [q] else partL L p a := by
  unfold partL
  rw [List.filter_append]
  by_cases h : ans q.2 p = a
  · rw [if_pos h, List.filter_cons, if_pos (by simpa using h)]; rfl
  · rw [if_neg h, List.filter_cons, if_neg (by simpa using h)]; exact List.append_nil _
theorem rws_snoc (L : RL) (q : Addr × Row) : rws (L ++ [q]) = rws L ++ [q.2] := by unfold rws; rw [List.map_append]; rfl
theorem refs_snoc (L : RL) (q : Addr × Row) : refs (L ++ [q]) = refs L ++ [.ref q.1] := by unfold refs; rw [List.map_append]; rfl
theorem valV_dk : ∀ {ks : List (Int × Addr)} {k : Int × Addr}, (ks.map (·.1)).Nodup → k ∈ ks → valV (dkOf ks) (Sum.inl k.1 : Key) = some (.ref k.2)
  | [], _, _, h => by cases h
  | x :: ks, k, nd, h => by
    have nd' := List.nodup_cons.mp nd
    show valV ((Sum.inl x.1, V.ref x.2) :: dkOf ks) _ = _
    rcases List.mem_cons.mp h with rfl | h
    · exact valV_pos rfl
    · have ne : ¬ (Sum.inl x.1 : Key) = Sum.inl k.1 := fun e => nd'.1 (by
        have e' : x.1 = k.1 := Sum.inl.inj e
        exact List.mem_map.mpr ⟨k, h, e'.symm⟩)
      rw [valV_neg ne]
      exact valV_dk nd'.2 h
theorem valV_dk_none : ∀ {ks : List (Int × Addr)} {a : Int}, a ∉ ks.map (·.1) → valV (dkOf ks) (Sum.inl a : Key) = none
  | [], _, _ => rfl
  | x :: ks, a, h => by
    show valV ((Sum.inl x.1, V.ref x.2) :: dkOf ks) _ = _
    have ne : ¬ (Sum.inl x.1 : Key) = Sum.inl a := fun e => h (by
      have e' : x.1 = a := Sum.inl.inj e
      rw [← e']
      exact List.mem_cons_self)
    rw [valV_neg ne]
    exact valV_dk_none fun z => h (List.mem_cons_of_mem _ z)
theorem nd_map_inj {α β : Type} {f : α → β} : ∀ {l : List α} {x y : α}, (l.map f).Nodup → x ∈ l → y ∈ l → f x = f y → x = y
  | [], _, _, _, h, _, _ => by cases h
  | z :: l, x, y, nd, hx, hy, e => by
    have nd' := List.nodup_cons.mp nd
    rcases List.mem_cons.mp hx with ex | mx
    · rcases List.mem_cons.mp hy with ey | my
      · rw [ex, ey]
      · exact absurd (show f z ∈ l.map f from List.mem_map.mpr ⟨y, my, by rw [← e, ex]⟩) nd'.1
    · rcases List.mem_cons.mp hy with ey | my
      · exact absurd (show f z ∈ l.map f from List.mem_map.mpr ⟨x, mx, by rw [e, ey]⟩) nd'.1
      · exact nd_map_inj nd'.2 mx my e
/-- the dict at d gives for each answer at the place p, as they are met, the tuple of the rows that have it -/
def ByAt (H : Hp) (L : RL) (p : Nat) (d : Addr) (ts : List (Int × Addr)) : Prop := ts.map (·.1) = firsts (rws L) p ∧ H d = some (.dK (dkOf ts)) ∧ ∀ t, t ∈ ts → H t.2 = some (.tup (refs (partL L p t.1)))
structure ByInv (H H' : Hp) (d : Addr) (L : RL) (p : Nat) (ks : List (Int × Addr)) : Prop where
  same : Same H H'
  dict : H' d = some (.dK (dkOf ks))
  free : H d = none
  keys : ks.map (·.1) = firsts (rws L) p
  lst : ∀ k, k ∈ ks → H' k.2 = some (.lst (refs (partL L p k.1)))
  inj : (ks.map (·.2)).Nodup
  fresh : ∀ k, k ∈ ks → H k.2 = none
theorem ByInv.len {H H' : Hp} {d : Addr} {L : RL} {p : Nat} {ks : List (Int × Addr)} (B : ByInv H H' d L p ks) : ks.length ≤ L.length := by
  have := firsts_len p (rws L)
  rw [← B.keys, List.length_map, rws_len] at this
  exact this
/-- a dict's comprehension over a walk -/
theorem dc_it {J : It} {n : Nat} {G : Hp → Prop} {Y : Nat → Hp → V → Hp → Prop} (w : Walk J n G Y) {g : TG} {tt : TT} {tk tv : TE} {vs : List Nat} {σ : L2.St} {H1 : Hp} {D : Addr} {Qd : Hp → Prop} (Pv : Nat → Hp → Prop) (h0 : Pv 0 (upd H1 D (.dK []))) (hG : ∀ i H, i ≤ n → Pv i H → G H)
    (hs : ∀ i x H H', i < n → Pv i H → Y i H x H' → g x (wipe σ vs) H' fun σ2 H2 => wipe σ2 vs = wipe σ vs ∧ tt σ2 H2 fun b H3 =>
      if b = true then tk σ2 H3 fun y H4 => tv σ2 H4 fun z H5 => ∃ kvs k, y = kV k ∧ H5 D = some (.dK kvs) ∧ kvs.length < sizeLine ∧ Pv (i + 1) (upd H5 D (.dK (putK kvs k z))) else Pv (i + 1) H3) (hd : ∀ H, Pv n H → Qd H) :
    ∃ W : Nat → Nat → Hp → Prop, (∃ m, W 0 m (upd H1 D (.dK []))) ∧ ∀ i m H, W i m H →
      (J.stop i H ∧ Qd H) ∨ (J.go i H ∧ ∃ Nx : Hp → Prop, (∀ H', Nx H' → ∃ m', m' < m ∧ W (i + 1) m' H') ∧ ∀ x H', J.yld i H x H' → g x (wipe σ vs) H' fun σ2 H2 => wipe σ2 vs = wipe σ vs ∧ tt σ2 H2 fun b H3 =>
        if b = true then tk σ2 H3 fun y H4 => tv σ2 H4 fun z H5 => ∃ kvs k, y = kV k ∧ H5 D = some (.dK kvs) ∧ kvs.length < sizeLine ∧ Nx (upd H5 D (.dK (putK kvs k z))) else Nx H3) := by
  refine ⟨fun i m H => m = n - i ∧ i ≤ n ∧ Pv i H, ⟨n, rfl, Nat.zero_le _, h0⟩, fun i m H hh => ?_⟩
  obtain ⟨em, hi, pp⟩ := hh
  by_cases c : i < n
  · right
    refine ⟨w.goes i H c (hG i H hi pp), Pv (i + 1), fun H' q => ⟨n - (i + 1), by omega, rfl, c, q⟩, fun x H' y => hs i x H H' c pp (w.yields i H x H' c (hG i H hi pp) y)⟩
  · left
    obtain rfl : i = n := by omega
    exact ⟨w.stops H (hG _ H hi pp), hd H pp⟩
section
variable {P : Program} {w : World} {K : PySem.W.Frag} {mg : Str → Option Value} {base : Heap}
def spBy (K : PySem.W.Frag) : Sp := fun vs H Q _ => ∃ (a : Addr) (L : RL) (n p : Nat), vs = [.ref a, .int p] ∧ H a = some (.tup (refs L)) ∧ AllAt H L ∧ Wid n (rws L) ∧ p < n ∧ L.length ≤ 100 ∧
  ∀ d ts H', H d = none → Same H H' → ByAt H' L p d ts → Q (.ref d) H'
theorem k_by_answers (B : Bi mg) (D : Placed K mg "by_answers" s_by_answers p_by_answers) : Kept P w K mg base CX0 1 "by_answers" p_by_answers (spBy K) := by
  refine D.keep fun f fd F => F.ok sc_by_answers (fun vs H Q E h => ?_) (fun cdv A outer s H vs Q E hr h => ?_)
  · obtain ⟨a, L, n, p, rfl, _⟩ := h
    rfl
  · obtain ⟨a, L, n, p, rfl, ha, hL, hw, hp, hl, q⟩ := h
    refine ⟨_, pss_cons (ps_set (i := 2) sc_by_answers.nd rfl (Or.inl rfl) pe_dnewK)
      (pss_cons (ps_for PassesOwn.never rfl (pi_tup (pv 0)) (pg_name (i := 3) sc_by_answers.nd rfl (Or.inl rfl))
        (pss_one (ps_expr (pe_bm PySem.F.plainAttrs_list PySem.F.slot_list_append PySem.F.type_list_append mt_append
          (pe_dsetd (pv 2) (pe_ix ixT (pv 3) (pv 1) (fun _ _ => rfl)) (pe_lst pa_nil) ⟨rfl, rfl, rfl, rfl⟩) (pa_cons (pv 3) pa_nil)))))
      (pss_one (ps_ret (pe_lock (pe_dc (own := [("answer", 4), ("part", 5)]) (by rfl) sc_by_answers.nd (pi_items (pv 2)) (blkOk_by (N := n_by_answers) (sc := defScope s_by_answers) (by decide +kernel))
        (fun _ _ _ _ _ => pg_two (K := K) (pg_name (i := 4) sc_by_answers.nd rfl (Or.inl rfl)) (pg_name (i := 5) sc_by_answers.nd rfl (Or.inl rfl))) (fun _ _ _ _ _ => pts_nil)
        (fun _ _ _ _ _ => pv 4) (fun _ _ _ _ _ => pe_callTy (callTup (K := K)) (by rfl) B.tuple PyProof.Rows.boot_tuple (pa_cons (pv 5) pa_nil))))))), ?_⟩
    intro d hd
    refine ⟨.ref a, rfl, a, rfl, ⟨_, SqT.of (same_new hd _ _ ha)⟩, ?_⟩
    have wr := walk_tup (K := K) (a := a) (xs := refs L)
    refine for_it wr (fun i σ H' => (∃ x3, σ = [some (.ref a), some (.int p), some (.ref d), x3, none, none]) ∧ ∃ ks, ByInv H H' d (L.take i) p ks)
      ⟨⟨none, rfl⟩, [], same_new hd, upd_same, hd, rfl, (fun k hk => nomatch hk), List.nodup_nil, fun k hk => nomatch hk⟩ (fun i σ H' _ q => q.2.elim fun ks I => SqT.of (I.same _ _ ha)) ?_ ?_
    · rintro i x σ _ H1 hi ⟨⟨x3, rfl⟩, ks, I⟩ ⟨rfl, hx⟩
      obtain ⟨r, hr', rfl⟩ := refs_get hx
      have hrm : r ∈ L := List.mem_of_getElem? hr'
      have et : L.take (i + 1) = L.take i ++ [r] := by rw [List.take_add_one, hr']; rfl
      have hkl : ks.length ≤ 100 := Nat.le_trans I.len (Nat.le_trans (List.length_take_le' _ _) hl)
      refine ⟨.ref d, rfl, d, rfl, .inl ⟨_, .inl I.dict⟩, _, rfl, _, rfl, rIxT_of (I.same _ _ (hL r hrm)) (rowV_at (by rw [hw r.2 (mem_rws hrm)]; exact hp)) ⟨Nat.zero_le _, fun l0 n0 => ?_⟩⟩
      have s0 := same_new (o := .lst []) n0
      refine ⟨dkOf ks, Sum.inl (ans r.2 p), s0 _ _ I.dict, rfl, Nat.lt_of_le_of_lt (by unfold dkOf; rw [List.length_map]; exact hkl) (by decide), fun v hv => ?_, fun hv => ?_⟩
      · -- the answer was met before
        have hmem : ans r.2 p ∈ ks.map (·.1) := Classical.byContradiction fun z => by
          rw [valV_dk_none z] at hv
          cases hv
        obtain ⟨k, hk, ek⟩ := List.mem_map.mp hmem
        have ndk : (ks.map (·.1)).Nodup := by rw [I.keys]; exact firsts_nodup _ _
        have e1 := valV_dk ndk hk
        rw [ek, hv] at e1
        cases e1
        have hlk := s0 _ _ (I.lst k hk)
        refine ⟨.inl ⟨rfl, _, SqL.of hlk⟩, _, rfl, k.2, _, _, rfl, rfl, hlk, ?_, ⟨_, rfl⟩, ks, ?_⟩
        · rw [refs_len]
          have h1 : (partL (L.take i) p k.1).length ≤ 100 := Nat.le_trans (List.length_filter_le _ _) (Nat.le_trans (List.length_take_le' _ _) hl)
          exact Nat.lt_of_le_of_lt h1 (by decide)
        · have nek : ∀ b o, H b = some o → b ≠ k.2 := fun b o e => ne_of_none e (I.fresh k hk)
          refine ⟨fun b o e => ?_, ?_, I.free, ?_, fun k' hk' => ?_, I.inj, I.fresh⟩
          · rw [upd_ne (nek b o e)]
            exact s0 _ _ (I.same _ _ e)
          · rw [upd_ne (ne_of (s0 _ _ I.dict) hlk (by intro z; cases z))]
            exact s0 _ _ I.dict
          · rw [et, rws_snoc, firsts_snoc, ← I.keys]
            unfold firstsOn
            rw [if_pos (List.contains_iff_mem.mpr hmem)]
          · rw [et, partL_snoc]
            by_cases c : k'.2 = k.2
            · have ekk : k' = k := nd_map_inj I.inj hk' hk c
              rw [ekk, upd_same, ek, if_pos rfl, refs_snoc]
            · rw [upd_ne c]
              have nk : ans r.2 p ≠ k'.1 := fun z => c (by
                have : k' = k := nd_map_inj ndk hk' hk (z.symm.trans ek.symm)
                rw [this])
              rw [if_neg nk]
              exact s0 _ _ (I.lst k' hk')
      · -- a new answer
        have hno : ans r.2 p ∉ ks.map (·.1) := fun z => by
          obtain ⟨k, hk, ek⟩ := List.mem_map.mp z
          have e1 := valV_dk (by rw [I.keys]; exact firsts_nodup _ _) hk
          rw [ek, hv] at e1
          cases e1
        have ndl : l0 ≠ d := fun z => by
          rw [z, I.dict] at n0
          cases n0
        have hl0 : (upd (upd H1 l0 (.lst [])) d (.dK (putK (dkOf ks) (Sum.inl (ans r.2 p) : Key) (.ref l0)))) l0 = some (.lst []) := by
          rw [upd_ne ndl, upd_same]
        refine ⟨.inl ⟨rfl, _, SqL.of hl0⟩, _, rfl, l0, _, _, rfl, rfl, hl0, by show 0 < sizeLine; decide, ⟨_, rfl⟩, ks ++ [(ans r.2 p, l0)], ?_⟩
        have old : ∀ b o, H1 b = some o → b ≠ d → (upd (upd (upd H1 l0 (.lst [])) d (.dK (putK (dkOf ks) (Sum.inl (ans r.2 p) : Key) (.ref l0)))) l0 (.lst ([] ++ [.ref r.1]))) b = some o := fun b o e nb => by
          rw [upd_ne (ne_of_none e n0), upd_ne nb, upd_ne (ne_of_none e n0)]
          exact e
        refine ⟨fun b o e => old b o (I.same _ _ e) (ne_of_none e hd), ?_, I.free, ?_, fun k' hk' => ?_, ?_, fun k' hk' => ?_⟩
        · rw [upd_ne ndl.symm, upd_same, putK_new _ (valV_dk_none hno)]
          unfold dkOf
          rw [List.map_append]
          rfl
        · rw [List.map_append, et, rws_snoc, firsts_snoc, ← I.keys]
          unfold firstsOn
          rw [if_neg fun z => hno (List.contains_iff_mem.mp z)]
          rfl
        · rw [et, partL_snoc]
          rcases List.mem_append.mp hk' with hk' | hk'
          · have nk : ans r.2 p ≠ k'.1 := fun z => hno (by rw [z]; exact List.mem_map.mpr ⟨k', hk', rfl⟩)
            rw [if_neg nk]
            exact old _ _ (I.lst k' hk') (ne_of (I.lst k' hk') I.dict (by intro z; cases z))
          · rw [List.mem_singleton.mp hk', if_pos rfl, upd_same]
            have e0 : partL (L.take i) p (ans r.2 p) = [] := by
              unfold partL
              rw [List.filter_eq_nil_iff]
              intro u hu z
              refine hno ?_
              rw [I.keys]
              exact mem_firsts.mpr ⟨u.2, mem_rws hu, by simpa using z⟩
            show some (HO.lst ([] ++ [.ref r.1])) = some (.lst (refs (partL (L.take i) p (ans r.2 p) ++ [r])))
            rw [e0]
            rfl
        · rw [List.map_append, List.nodup_append]
          refine ⟨I.inj, List.nodup_cons.mpr ⟨(fun z => nomatch z), List.nodup_nil⟩, fun x hx y hy e => ?_⟩
          obtain ⟨k, hk, rfl⟩ := List.mem_map.mp hx
          have ey : y = l0 := List.mem_singleton.mp hy
          exact ne_of_none (I.lst k hk) n0 (e.trans ey)
        · rcases List.mem_append.mp hk' with hk' | hk'
          · exact I.fresh k' hk'
          · rw [List.mem_singleton.mp hk']
            exact I.same.free n0
    · rintro σ H1 ⟨⟨x3, rfl⟩, ks, I⟩
      have elen : (refs L).length = L.length := refs_len L
      rw [elen, List.take_length] at I
      refine ⟨d, .dK (dkOf ks), I.dict, True.intro, fun od => ?_⟩
      refine ⟨.ref d, rfl, d, od, dkOf ks, rfl, upd_same, fun D2 nD2 => ?_⟩
      have nD2' : D2 ≠ d := fun z => by
        rw [z, upd_same] at nD2
        cases nD2
      have nD1 : H1 D2 = none := by
        rw [upd_ne nD2'] at nD2
        exact nD2
      have hkl : ks.length ≤ 100 := Nat.le_trans I.len hl
      have wk := walk_items (d := d) (o := od) (kvs := dkOf ks)
      have kl : (dkOf ks).length = ks.length := List.length_map _
      have nodup1 : (ks.map (·.1)).Nodup := by rw [I.keys]; exact firsts_nodup _ _
      -- turn by turn
      refine dc_it (n := ks.length) (by rw [← kl]; exact wk) (fun i H' => H' d = some (.frz od (.dK (dkOf ks))) ∧ (∀ b o, H1 b = some o → b ≠ d → H' b = some o) ∧ ∃ ts : List (Int × Addr), H' D2 = some (.dK (dkOf ts)) ∧ ts.map (·.1) = (ks.take i).map (·.1) ∧ (∀ t, t ∈ ts → H' t.2 = some (.tup (refs (partL L p t.1)))) ∧ ts.length = i)
        ⟨?_, ?_, [], upd_same, rfl, (fun t ht => nomatch ht), rfl⟩ (fun i H' _ q => q.1) ?_ ?_
      · rw [upd_ne nD2'.symm, upd_same]
      · intro b o e nb
        rw [upd_ne (ne_of_none e nD1), upd_ne nb]
        exact e
      · rintro i x H2 H3 hi ⟨c1, c2, ts, c3, c4, c5, c6⟩ ⟨T, y, z, rfl, nT, rfl, hy, hz⟩
        have hki : ks[i]? = some ks[i] := List.getElem?_eq_getElem hi
        have hkm : ks[i] ∈ ks := List.getElem_mem hi
        have hy : (dkOf ks)[i]?.map (fun kv => kV kv.1) = some y := hy
        have hz : (dkOf ks)[i]?.map Prod.snd = some z := hz
        have hd1 : (dkOf ks)[i]? = some (Sum.inl ks[i].1, V.ref ks[i].2) := by
          unfold dkOf
          rw [List.getElem?_map, hki]
          rfl
        rw [hd1] at hy hz
        obtain rfl : y = .int ks[i].1 := (Option.some.inj hy).symm
        obtain rfl : z = .ref ks[i].2 := (Option.some.inj hz).symm
        have sT : Same H2 (upd H2 T (.tup [.int ks[i].1, .ref ks[i].2])) := same_new nT
        have hlk : (upd H2 T (.tup [.int ks[i].1, .ref ks[i].2])) ks[i].2 = some (.lst (refs (partL L p ks[i].1))) := sT _ _ (c2 _ _ (I.lst _ hkm) (ne_of (I.lst _ hkm) I.dict (by intro z; cases z)))
        refine gTwo upd_same ⟨rfl, ?_⟩
        refine ⟨_, rfl, _, rfl, ks[i].2, _, rfl, .inl ⟨SqL.of hlk, fun l nl => ?_⟩⟩
        have sl := same_new (o := .tup (refs (partL L p ks[i].1))) nl
        have s2 := sT.trans sl
        have hno : ks[i].1 ∉ ts.map (·.1) := by
          rw [c4]
          intro hm
          obtain ⟨u, hu, eu⟩ := List.mem_map.mp hm
          obtain ⟨j, hj, ej⟩ := List.mem_take_iff_getElem.mp hu
          have hjk : j < ks.length := by omega
          have e2 : ks[j] = ks[i] := nd_map_inj nodup1 (List.getElem_mem hjk) hkm (by rw [ej]; exact eu)
          have e3 := (List.getElem_inj (h₀ := hjk) (h₁ := hi) (List.Pairwise.of_map (·.1) (fun a b h e => h (by rw [e])) nodup1)).mp e2
          omega
        refine ⟨dkOf ts, Sum.inl ks[i].1, rfl, s2 _ _ c3, Nat.lt_of_le_of_lt (by unfold dkOf; rw [List.length_map, c6]; omega) (show 100 < sizeLine by decide), ?_⟩
        have up : ∀ b o, H2 b = some o → b ≠ D2 → (upd (upd (upd H2 T (.tup [.int ks[i].1, .ref ks[i].2])) l (.tup (refs (partL L p ks[i].1)))) D2 (.dK (putK (dkOf ts) (Sum.inl ks[i].1 : Key) (.ref l)))) b = some o := fun b o e nb => by
          rw [upd_ne nb]
          exact s2 _ _ e
        have nlD : l ≠ D2 := (ne_of_none (sT _ _ c3) nl).symm
        refine ⟨up _ _ c1 nD2'.symm, fun b o e nb => up _ _ (c2 b o e nb) (ne_of_none e nD1), ts ++ [(ks[i].1, l)], ?_, ?_, fun t ht => ?_, by rw [List.length_append, c6]; rfl⟩
        · rw [upd_same, putK_new _ (valV_dk_none hno)]
          unfold dkOf
          rw [List.map_append]
          rfl
        · rw [List.map_append, c4, List.take_add_one, hki, List.map_append]
          rfl
        · rcases List.mem_append.mp ht with ht | ht
          · exact up _ _ (c5 t ht) (ne_of (c5 t ht) c3 (by intro z; cases z))
          · rw [List.mem_singleton.mp ht, upd_ne nlD, upd_same]
      · rintro H2 ⟨c1, c2, ts, c3, c4, c5, c6⟩
        refine ⟨c1, ?_⟩
        rw [List.take_length] at c4
        have nd2 : D2 ≠ d := nD2'
        refine q D2 ts _ (I.same.free nD1) (fun b o e => ?_) ⟨c4.trans I.keys, by rw [upd_ne nd2]; exact c3, fun t ht => ?_⟩
        · have nbd := ne_of_none e hd
          rw [upd_ne nbd]
          exact c2 _ _ (I.same _ _ e) nbd
        · rw [upd_ne (ne_of (c5 t ht) c1 (by intro z; cases z))]
          exact c5 t ht
end
end K71
set_option Elab.async false
set_option linter.all false
set_option maxRecDepth 100000
set_option maxHeartbeats 4000000
/-! k71: dicts whose keys are standings, or tuples of rows. -/
namespace K71
open PySem PySem.Spec PyProof.Rows L2
def kOpt : Option Int → NestedKey
  | none => .none
  | some i => .num i
def kSt (st : Std) : NestedKey := .tup (st.map kOpt)
def kRow (r : Row) : NestedKey := .tup (r.map NestedKey.num)
def kRows (rs : List Row) : NestedKey := .tup (rs.map kRow)
theorem map_inj_of {α β : Type} {f : α → β} (h : ∀ x y, f x = f y → x = y) : ∀ {xs ys : List α}, xs.map f = ys.map f → xs = ys
  | [], [], _ => rfl
  | [], _ :: _, e => by cases e
  | _ :: _, [], e => by cases e
  | x :: xs, y :: ys, e => by
    rw [List.map_cons, List.map_cons] at e
    injection e with e1 e2
    rw [h x y e1, map_inj_of h e2]
theorem kOpt_inj : ∀ x y : Option Int, kOpt x = kOpt y → x = y
  | none, none, _ => rfl
  | none, some _, e => by cases e
  | some _, none, e => by cases e
  | some a, some b, e => by injection e with e; rw [e]
theorem kSt_inj {a b : Std} (h : kSt a = kSt b) : a = b := by
  unfold kSt at h
  injection h with h
  exact map_inj_of kOpt_inj h
theorem kRow_inj (a b : Row) (h : kRow a = kRow b) : a = b := by
  unfold kRow at h
  injection h with h
  exact map_inj_of (fun x y e => by injection e) h
theorem kRows_inj {a b : List Row} (h : kRows a = kRows b) : a = b := by
  unfold kRows at h
  injection h with h
  exact map_inj_of kRow_inj h
theorem depthAll_le {α : Type} {f : α → NestedKey} {d : Nat} (h : ∀ x, (f x).depth ≤ d) : ∀ l : List α, NestedKey.depthAll (l.map f) ≤ d
  | [] => Nat.zero_le _
  | x :: l => by
    have h1 := h x
    have h2 := depthAll_le h l
    simp only [List.map_cons, NestedKey.depthAll]
    omega
theorem kSt_depth (st : Std) : (kSt st).depth ≤ 8 := by
  have := depthAll_le (f := kOpt) (d := 0) (fun x => by cases x <;> simp [kOpt, NestedKey.depth]) st
  simp only [kSt, NestedKey.depth]
  omega
theorem kRow_depth (r : Row) : (kRow r).depth ≤ 1 := by
  have := depthAll_le (f := NestedKey.num) (d := 0) (fun x => by simp [NestedKey.depth]) r
  simp only [kRow, NestedKey.depth]
  omega
theorem kRows_depth (rs : List Row) : (kRows rs).depth ≤ 8 := by
  have := depthAll_le kRow_depth rs
  simp only [kRows, NestedKey.depth]
  omega
/-- at b stands such a key -/
def KeyAt (H : Hp) (b : Addr) (k : NestedKey) : Prop := (∃ st, k = kSt st ∧ H b = some (.tup (stV st))) ∨ ∃ L, k = kRows (rws L) ∧ H b = some (.tup (refs L)) ∧ AllAt H L
theorem KeyAt.mono {H H' : Hp} {b : Addr} {k : NestedKey} (h : KeyAt H b k) (e : Tups H H') : KeyAt H' b k := by
  rcases h with ⟨st, h1, h2⟩ | ⟨L, h1, h2, h3⟩
  · exact .inl ⟨st, h1, e _ _ h2⟩
  · exact .inr ⟨L, h1, e _ _ h2, h3.mono e⟩
theorem keyAt_st {H : Hp} {b : Addr} {st : Std} (h : H b = some (.tup (stV st))) : KeyAt H b (kSt st) := .inl ⟨st, rfl, h⟩
theorem keyAt_rows {H : Hp} {b : Addr} {L : RL} (h : H b = some (.tup (refs L))) (ha : AllAt H L) : KeyAt H b (kRows (rws L)) := .inr ⟨L, rfl, h, ha⟩
section
variable {X : Cx} {pins : List (Addr × Obj)} {σ : L2.St} {H : Hp} {s : Shared}
theorem nested_opts {h : Heap} : ∀ {st : Std} {us : List Value}, Vals (stV st) us → NestedAll h (st.map kOpt) us
  | [], _, .nil => .nil
  | none :: st, _, .cons r t => by
    obtain rfl := (show _ = Value.none from r)
    exact .cons .none (nested_opts t)
  | some i :: st, _, .cons r t => by
    obtain ⟨k, rfl⟩ := (show ∃ t, _ = Value.int i t from r)
    exact .cons (.int i k) (nested_opts t)
theorem nested_ints {h : Heap} : ∀ {r : Row} {us : List Value}, Vals (rowV r) us → NestedAll h (r.map NestedKey.num) us
  | [], _, .nil => .nil
  | i :: r, _, .cons q t => by
    obtain ⟨k, rfl⟩ := (show ∃ t, _ = Value.int i t from q)
    exact .cons (.int i k) (nested_ints t)
theorem nested_tup (I : Inv X pins σ H s) {a : Addr} {xs : List V} {ks : List NestedKey} (h : H a = some (.tup xs)) (q : ∀ us, Vals xs us → NestedAll s.heap ks us) : NestedIs s.heap (.tup ks) (.ref a) := by
  obtain ⟨its, r, ⟨o, ho, hc, n, hd⟩, _⟩ := I.tuple (SqT.of (K := X.K) h)
  exact .tup ho hc hd (by simpa using q its r)
theorem nested_rows (I : Inv X pins σ H s) : ∀ {L : RL} {us : List Value}, AllAt H L → Vals (refs L) us → NestedAll s.heap ((rws L).map kRow) us
  | [], _, _, .nil => .nil
  | p :: L, _, h, .cons r t => by
    obtain rfl := (show _ = Value.ref p.1 from r)
    exact .cons (nested_tup I (h p List.mem_cons_self) fun us v => nested_ints v) (nested_rows I (fun q hq => h q (List.mem_cons_of_mem _ hq)) t)
theorem KeyAt.is (I : Inv X pins σ H s) {b : Addr} {k : NestedKey} (h : KeyAt H b k) : (nestedKind X.prog X.w).is s.heap k b := by
  rcases h with ⟨st, rfl, h2⟩ | ⟨L, rfl, h2, h3⟩
  · exact ⟨nested_tup I h2 fun us v => nested_opts v, kSt_depth st⟩
  · exact ⟨nested_tup I h2 fun us v => nested_rows I h3 v, kRows_depth _⟩
end
/-! ### the dict -/
abbrev NE := NestedKey × Addr × V
def NRel (p : NE) (q : NestedKey × Addr × Value) : Prop := p.1 = q.1 ∧ p.2.1 = q.2.1 ∧ RelV p.2.2 q.2.2
def DkR (P : Program) (w : World) (h : Heap) (d : Addr) (xs : List NE) : Prop := xs.length ≤ sizeLine ∧ (d == sysModules) = false ∧ ∃ vs : List (NestedKey × Addr × Value), Paired NRel xs vs ∧
  ∃ o es ep, h.get? d = some o ∧ o.ExactDict ∧ o.data = .dict es ep ∧ es.toList = vs.map (entryOfKey (nestedKind P w)) ∧ (vs.map (·.1)).Nodup
def DkO (P : Program) (w : World) (d : Addr) (xs : List NE) : HO := .ext fun h => DkR P w h d xs
theorem DkR.at {P : Program} {w : World} {h h' : Heap} {d : Addr} {xs : List NE} (x : DkR P w h d xs) (k : ∀ o, h.get? d = some o → h'.get? d = some o) : DkR P w h' d xs := by
  obtain ⟨a, b, vs, c, o, es, ep, ho, r⟩ := x
  exact ⟨a, b, vs, c, o, es, ep, k o ho, r⟩
theorem dkO_ok {P : Program} {w : World} {H : Hp} {h : Heap} {d : Addr} {xs : List NE} (x : DkR P w h d xs) : ObjOk P w H h d (DkO P w d xs) := by
  have ⟨_, _, _, _, o, _, _, ho, _⟩ := x
  exact ⟨x, ⟨o, ho⟩, fun h1 h2 p k => DkR.at p k⟩
/-- a dict with these keys and values stands at d -/
structure NDict (P : Program) (w : World) (H : Hp) (d : Addr) (xs : List NE) : Prop where
  ob : Rd H d (DkO P w d xs)
  keys : ∀ x, x ∈ xs → KeyAt H x.2.1 x.1
def valN (xs : List NE) (k : NestedKey) : Option V := (xs.find? fun x => decide (x.1 = k)).map (·.2.2)
def putN (xs : List NE) (k : NestedKey) (a : Addr) (v : V) : List NE := if (valN xs k).isSome then xs.map (fun x => if x.1 = k then (x.1, x.2.1, v) else x) else xs ++ [(k, a, v)]
theorem putN_new {xs : List NE} {k : NestedKey} (h : valN xs k = none) (a : Addr) (v : V) : putN xs k a v = xs ++ [(k, a, v)] := by
  unfold putN
  rw [h]
  rfl
theorem rel_at {xs : List NE} {vs : List (NestedKey × Addr × Value)} (p : Paired NRel xs vs) (k : NestedKey) : RelO (valN xs k) ((atKey vs k).map (·.2)) := by
  induction p with
  | nil => exact trivial
  | @cons a b l₁ l₂ r t ih =>
    unfold valN atKey
    rw [List.find?_cons, List.find?_cons]
    by_cases c : a.1 = k
    · have c' : b.1 = k := r.1 ▸ c
      rw [decide_eq_true c, decide_eq_true c']
      exact r.2.2
    · have c' : ¬ b.1 = k := fun z => c (r.1.trans z)
      rw [decide_eq_false c, decide_eq_false c']
      exact ih
theorem rel_put {xs : List NE} {vs : List (NestedKey × Addr × Value)} (p : Paired NRel xs vs) (k : NestedKey) (a : Addr) {v : V} {u : Value} (rv : RelV v u) : Paired NRel (putN xs k a v) (storedH vs k a u) := by
  have q := rel_at p k
  unfold putN storedH
  have e : (valN xs k).isSome = (atKey vs k).isSome := by
    cases h1 : valN xs k with
    | none =>
      cases h2 : atKey vs k with
      | none => rfl
      | some y => rw [h1, h2] at q; exact False.elim q
    | some x =>
      cases h2 : atKey vs k with
      | none => rw [h1, h2] at q; exact False.elim q
      | some y => rfl
  rw [e]
  cases (atKey vs k).isSome with
  | false => exact paired_snoc p ⟨rfl, rfl, rv⟩
  | true =>
    show Paired NRel (xs.map _) (vs.map _)
    clear q e
    induction p with
    | nil => exact .nil
    | @cons x y l₁ l₂ r t ih =>
      refine .cons ?_ ih
      unfold putAt
      by_cases c : x.1 = k
      · have c' : y.1 = k := r.1 ▸ c
        show NRel (if x.1 = k then (x.1, x.2.1, v) else x) (if y.1 = k then (y.1, y.2.1, u) else y)
        rw [if_pos c, if_pos c']
        exact ⟨r.1, r.2.1, rv⟩
      · have c' : ¬ y.1 = k := fun z => c (r.1.trans z)
        show NRel (if x.1 = k then (x.1, x.2.1, v) else x) (if y.1 = k then (y.1, y.2.1, u) else y)
        rw [if_neg c, if_neg c']
        exact r
theorem putN_len (xs : List NE) (k : NestedKey) (a : Addr) (v : V) : (putN xs k a v).length ≤ xs.length + 1 := by
  unfold putN
  cases (valN xs k).isSome with
  | true => show (xs.map _).length ≤ _; rw [List.length_map]; omega
  | false => show (xs ++ _).length ≤ _; rw [List.length_append]; exact Nat.le_refl _
theorem putN_keys {H : Hp} {xs : List NE} {k : NestedKey} {a : Addr} {v : V} (h : ∀ x, x ∈ xs → KeyAt H x.2.1 x.1) (ha : KeyAt H a k) : ∀ x, x ∈ putN xs k a v → KeyAt H x.2.1 x.1 := by
  intro x hx
  unfold putN at hx
  cases c : (valN xs k).isSome with
  | true =>
    rw [c] at hx
    have hx : x ∈ xs.map _ := hx
    obtain ⟨y, hy, rfl⟩ := List.mem_map.mp hx
    by_cases e : y.1 = k
    · rw [if_pos e]; exact h y hy
    · rw [if_neg e]; exact h y hy
  | false =>
    rw [c] at hx
    have hx : x ∈ xs ++ _ := hx
    rcases List.mem_append.mp hx with hx | hx
    · exact h x hx
    · rw [List.mem_singleton.mp hx]; exact ha
theorem paired_back {α β : Type} {G : α → β → Prop} {l₁ : List α} {l₂ : List β} (h : Paired G l₁ l₂) : ∀ {i : Nat} {b : β}, l₂[i]? = some b → ∃ a, l₁[i]? = some a ∧ G a b := by
  induction h with
  | nil => intro i b e; simp at e
  | @cons a b l₁ l₂ r t ih =>
    intro i c e
    cases i with
    | zero => exact ⟨a, rfl, by have e' : b = c := Option.some.inj e; rw [← e']; exact r⟩
    | succ i => exact ih (i := i) e
section
variable {X : Cx} {pins : List (Addr × Obj)} {σ : L2.St} {H : Hp} {s : Shared} {d : Addr} {xs : List NE}
theorem ndict_of (I : Inv X pins σ H s) (D : NDict X.prog X.w H d xs) : (d == sysModules) = false ∧ xs.length ≤ sizeLine ∧ ∃ vs, Paired NRel xs vs ∧ s.heap.DictOfH (nestedKind X.prog X.w) d vs := by
  have x : ObjOk X.prog X.w H s.heap d (DkO X.prog X.w d xs) := rd_of I.hok D.ob
  obtain ⟨a, b, vs, c, o, es, ep, h1, h2, h3, h4, h5⟩ := x.1
  refine ⟨b, a, vs, c, o, es, ep, h1, h2, h3, h4, fun y hy => ?_, h5⟩
  obtain ⟨i, hi, e⟩ := List.getElem_of_mem hy
  have hl := Paired.length c
  obtain ⟨z, hz, r⟩ := paired_back c (List.getElem?_eq_getElem hi)
  rw [← e, ← r.1, ← r.2.1]
  exact (D.keys z (List.mem_of_getElem? hz)).is I
end
end K71
set_option Elab.async false
set_option linter.all false
set_option maxRecDepth 100000
set_option maxHeartbeats 4000000
/-! k71: rules for such dicts. -/
namespace K71
open PySem PySem.Spec PyProof.Rows L2
section
variable {X : Cx} {pins : List (Addr × Obj)} {σ : L2.St} {H : Hp} {s : Shared} {d b : Addr} {k : NestedKey} {xs : List NE} {A : Around} {E : Value → Shared → Prop}
theorem units_room {A : Around} (h : A.units + 9 < cLine) : (nestedKind X.prog X.w).room A.in1 := by
  show A.in1.units + 8 < cLine
  have : A.in1.units = A.units + 1 := rfl
  omega
theorem valN_some {v : V} {vs : List (NestedKey × Addr × Value)} (p : Paired NRel xs vs) (h : valN xs k = some v) : ∃ q, atKey vs k = some q ∧ RelV v q.2 := by
  have r := rel_at p k
  rw [h] at r
  cases e : atKey vs k with
  | none => rw [e] at r; exact False.elim r
  | some q => rw [e] at r; exact ⟨q, rfl, r⟩
theorem valN_isSome {vs : List (NestedKey × Addr × Value)} (p : Paired NRel xs vs) : (atKey vs k).isSome = (valN xs k).isSome := by
  have r := rel_at p k
  cases e1 : valN xs k with
  | none =>
    cases e : atKey vs k with
    | none => rfl
    | some q => rw [e1, e] at r; exact False.elim r
  | some v =>
    cases e : atKey vs k with
    | none => rw [e1, e] at r; exact False.elim r
    | some q => rfl
theorem ndict_typ (I : Inv X pins σ H s) (D : NDict X.prog X.w H d xs) : s.TypeIs (.ref d) "dict" ∧ (∀ b, Value.ref d = .ref b → ∃ ob, s.heap.get? b = some ob ∧ ob.dict = none) ∧ (d == sysModules) = false := by
  obtain ⟨hd, hl, vs, p, dd⟩ := ndict_of I D
  refine ⟨dd.typeIs, fun b q => ?_, hd⟩
  cases q
  obtain ⟨ob, _, _, h1, h2, _⟩ := dd
  exact ⟨ob, h1, h2.2.1⟩
/-- d[k], k there -/
theorem n_getItem {v : V} {Q : Value → Shared → Prop} (hu : A.units + 9 < cLine) (I : Inv X pins σ H s) (D : NDict X.prog X.w H d xs) (hb : KeyAt H b k) (hv : valN xs k = some v) (h : ∀ w' s', Inv X pins σ H s' → RelV v w' → Q w' s') :
    wpAny (model X.prog X.w) A (getItem (.ref d) (.ref b)) Q E s := by
  obtain ⟨hd, hl, vs, p, dd⟩ := ndict_of I D
  obtain ⟨q, hq, r⟩ := valN_some p hv
  exact wpAny_getItem_heap (units_room hu) (hb.is I) dd hq (h q.2 _ (I.tok _) r)
theorem n_in {Q : Value → Shared → Prop} (hu : A.units + 9 < cLine) (I : Inv X pins σ H s) (D : NDict X.prog X.w H d xs) (hb : KeyAt H b k) (h : ∀ s', Inv X pins σ H s' → Q (.bool (valN xs k).isSome) s') :
    wpAny (model X.prog X.w) A (compareOp .In (.ref b) (.ref d)) Q E s := by
  obtain ⟨hd, hl, vs, p, dd⟩ := ndict_of I D
  refine wpAny_in_heap (units_room hu) (hb.is I) hd dd ?_
  rw [valN_isSome p]
  exact h _ (I.tok _)
theorem n_notIn {Q : Value → Shared → Prop} (hu : A.units + 9 < cLine) (I : Inv X pins σ H s) (D : NDict X.prog X.w H d xs) (hb : KeyAt H b k) (h : ∀ s', Inv X pins σ H s' → Q (.bool (!(valN xs k).isSome)) s') :
    wpAny (model X.prog X.w) A (compareOp .NotIn (.ref b) (.ref d)) Q E s := by
  obtain ⟨hd, hl, vs, p, dd⟩ := ndict_of I D
  refine wpAny_notIn_heap (units_room hu) (hb.is I) hd dd ?_
  rw [valN_isSome p]
  exact h _ (I.tok _)
/-- d.get(k, x) -/
theorem n_get2 {x : V} {r : Value} {Q : Value → Shared → Prop} (hu : A.units + 9 < cLine) (I : Inv X pins σ H s) (D : NDict X.prog X.w H d xs) (hb : KeyAt H b k) (rx : RelV x r) (h : ∀ w' s', Inv X pins σ H s' → RelV ((valN xs k).getD x) w' → Q w' s') :
    wpAny (model X.prog X.w) A (call (.builtin "dict.get") [.ref d, .ref b, r]) Q E s := by
  obtain ⟨hd, hl, vs, p, dd⟩ := ndict_of I D
  refine call_meetsIn PySem.F.slot_dict_get dd.typeIs PySem.F.entry_dict_get (PySem.F.args_dict_get_3 _ _ _) (meetsH_dict_get_default (nestedKind X.prog X.w) d b hd r) ⟨units_room hu, k, vs, hb.is I, dd, h _ _ (I.tok _) ?_⟩
  exact (rel_at p k).getD rx
theorem dkO_new {h' : Heap} {vs : List (NestedKey × Addr × Value)} {ys : List NE} {P : Program} {w : World} {H' : Hp} (hl : ys.length ≤ sizeLine) (hd : (d == sysModules) = false) (p : Paired NRel ys vs) (dd : h'.DictOfH (nestedKind P w) d vs) : ObjOk P w H' h' d (DkO P w d ys) := by
  obtain ⟨o, es, ep, h1, h2, h3, h4, _, h5⟩ := dd
  exact dkO_ok ⟨hl, hd, vs, p, o, es, ep, h1, h2, h3, h4, h5⟩
/-- d[k] = v -/
theorem n_setItem {v : V} {r : Value} {Q : Unit → Shared → Prop} (hu : A.units + 9 < cLine) (I : Inv X pins σ H s) (ho : H d = some (DkO X.prog X.w d xs)) (hk : ∀ x, x ∈ xs → KeyAt H x.2.1 x.1) (hb : KeyAt H b k) (rv : RelV v r) (hl : xs.length < sizeLine)
    (h : ∀ s', Inv X pins σ (upd H d (DkO X.prog X.w d (putN xs k b v))) s' → Q () s') : wpAny (model X.prog X.w) A (setItem (.ref d) (.ref b) r) Q E s := by
  obtain ⟨hd, hl', vs, p, dd⟩ := ndict_of I ⟨.inl ho, hk⟩
  refine wpAny_setItem_heap (hsz := by rw [← Paired.length p]; exact hl') (units_room hu) (hb.is I) dd fun h' dd' hs => h _ ?_
  have he : ∃ q, h'.get? d = some q := let ⟨q, _, _, hq, _⟩ := dd'; ⟨q, hq⟩
  exact d_write I (by rw [ho]; exact True.intro) hs he (dkO_new (Nat.le_trans (putN_len xs k b v) hl) hd (rel_put p k b rv) dd')
end
section
variable {X : Cx} {o i e f value : Expr} {pos pos' apos cpos : Pos} {td ty tv tx : TE} {P : Program} {w : World}
def tNew (P : Program) (w : World) : TE := fun _ H Q => ∀ p, H p = none → Q (.ref p) (upd H p (DkO P w p []))
def tNGet (P : Program) (w : World) (td ty : TE) : TE := fun σ H Q => td σ H fun x H1 => ty σ H1 fun y H2 => ∃ a b k xs v, x = .ref a ∧ y = .ref b ∧ NDict P w H2 a xs ∧ KeyAt H2 b k ∧ valN xs k = some v ∧ Q v H2
def tNIn (P : Program) (w : World) (ty td : TE) : TE := fun σ H Q => ty σ H fun y H1 => td σ H1 fun x H2 => ∃ a b k xs, x = .ref a ∧ y = .ref b ∧ NDict P w H2 a xs ∧ KeyAt H2 b k ∧ Q (.bl (valN xs k).isSome) H2
def tNNotIn (P : Program) (w : World) (ty td : TE) : TE := fun σ H Q => ty σ H fun y H1 => td σ H1 fun x H2 => ∃ a b k xs, x = .ref a ∧ y = .ref b ∧ NDict P w H2 a xs ∧ KeyAt H2 b k ∧ Q (.bl (!(valN xs k).isSome)) H2
def sNPut (P : Program) (w : World) (td ty tv : TE) : TS := fun D σ H => tv σ H fun v H1 => td σ H1 fun x H2 => ty σ H2 fun y H3 => ∃ a b k xs, x = .ref a ∧ y = .ref b ∧ H3 a = some (DkO P w a xs) ∧ (∀ x, x ∈ xs → KeyAt H3 x.2.1 x.1) ∧ KeyAt H3 b k ∧ xs.length < sizeLine ∧ D.nx σ (upd H3 a (DkO P w a (putN xs k b v)))
def tNGet2 (P : Program) (w : World) (td ty tx : TE) : TE := fun σ H Q => td σ H fun x H1 => ∃ a xs, x = .ref a ∧ NDict P w H1 a xs ∧ ty σ H1 fun y H2 => tx σ H2 fun z H3 => ∃ b k ys, y = .ref b ∧ NDict P w H3 a ys ∧ KeyAt H3 b k ∧ Q ((valN ys k).getD z) H3
def tNOne (P : Program) (w : World) (tk tv : TE) : TE := fun σ H Q => ∀ p, H p = none → tk σ (upd H p (DkO P w p [])) fun x H1 => tv σ H1 fun y H2 => ∃ b k, x = .ref b ∧ H2 p = some (DkO P w p []) ∧ KeyAt H2 b k ∧ Q (.ref p) (upd H2 p (DkO P w p [(k, b, y)]))
theorem dkO_empty {H' : Hp} (h : Heap) (hb : sysModules < h.objs.size) : ObjOk P w H' (h.push { cls := .type "dict", data := .dict #[] }) h.objs.size (DkO P w h.objs.size []) :=
  dkO_ok ⟨Nat.zero_le _, beq_eq_false_iff_ne.mpr (Ne.symm (Nat.ne_of_lt hb)), [], .nil, _, #[], 0, Heap.get?_push_size _ rfl, ⟨rfl, rfl, rfl⟩, rfl, rfl, List.nodup_nil⟩
theorem pe_nnew (hp : X.prog = P := by rfl) (hw : X.w = w := by rfl) : PE X (.Dict [] [] pos) (tNew P w) := by
  subst hp hw
  exact ⟨fun pins s σ H Q I h =>
    wpAny_Dict_empty ⟨.ref s.heap.objs.size, _, I.laid (a := s.heap.objs.size) (o := DkO X.prog X.w s.heap.objs.size []) (t' := s.toks) (fun _ _ q => Heap.get?_push_of_some _ q) (Nat.le_refl _) (dkO_empty s.heap I.big), rfl, h _ (I.hok.fresh (Nat.le_refl _))⟩⟩
theorem pe_nget (hu : X.A.units + 9 < cLine) (ho : PE X o td) (hi : PE X i ty) (hs : NoSl i) (hp : X.prog = P := by rfl) (hw : X.w = w := by rfl) : PE X (.Subscript o i pos) (tNGet P w td ty) := by
  subst hp hw
  refine ⟨fun pins s σ H Q I h => ?_⟩
  refine subD_of PySem.F.slot_dict_getitem.lookup hs (thn (ho.run pins s σ H _ I h) fun u s1 ⟨x, H1, I1, rx, q1⟩ => thn (hi.run pins s1 σ H1 _ I1 q1) fun iv s2 ⟨y, H2, I2, ry, a, b, k, xs, v, ex, ey, D, kb, g, q2⟩ => ?_)
  subst ex ey
  obtain rfl : u = Value.ref a := rx
  obtain rfl : iv = Value.ref b := ry
  exact ⟨(ndict_typ I2 D).1, n_getItem hu I2 D kb g fun w' s3 I3 rw' => ⟨v, H2, I3, rw', q2⟩⟩
theorem pc_nin (hu : X.A.units + 9 < cLine) (hi : PE X i ty) (ho : PE X o td) (hp : X.prog = P := by rfl) (hw : X.w = w := by rfl) : PC X .In i o (tNIn P w ty td) := by
  subst hp hw
  refine ⟨fun pins s σ H Q I h => ?_⟩
  refine thn (hi.run pins s σ H _ I h) fun iv s1 ⟨y, H1, I1, ry, q1⟩ => thn (ho.run pins s1 σ H1 _ I1 q1) fun u s2 ⟨x, H2, I2, rx, a, b, k, xs, ex, ey, D, kb, q2⟩ => ?_
  subst ex ey
  obtain rfl : u = Value.ref a := rx
  obtain rfl : iv = Value.ref b := ry
  exact n_in hu I2 D kb fun s3 I3 => ⟨.bl _, H2, I3, rfl, q2⟩
theorem pc_nnotin (hu : X.A.units + 9 < cLine) (hi : PE X i ty) (ho : PE X o td) (hp : X.prog = P := by rfl) (hw : X.w = w := by rfl) : PC X .NotIn i o (tNNotIn P w ty td) := by
  subst hp hw
  refine ⟨fun pins s σ H Q I h => ?_⟩
  refine thn (hi.run pins s σ H _ I h) fun iv s1 ⟨y, H1, I1, ry, q1⟩ => thn (ho.run pins s1 σ H1 _ I1 q1) fun u s2 ⟨x, H2, I2, rx, a, b, k, xs, ex, ey, D, kb, q2⟩ => ?_
  subst ex ey
  obtain rfl : u = Value.ref a := rx
  obtain rfl : iv = Value.ref b := ry
  exact n_notIn hu I2 D kb fun s3 I3 => ⟨.bl _, H2, I3, rfl, q2⟩
theorem ps_nput (hu : X.A.units + 9 < cLine) (ho : PE X o td) (hi : PE X i ty) (hv : PE X value tv) (hs : swapsWith value (some (.Subscript o i pos')) pos.line X.env = pure false) (hp : X.prog = P := by rfl) (hw : X.w = w := by rfl) :
    PS X (.Assign [.Subscript o i pos'] value pos) (sNPut P w td ty tv) := by
  subst hp hw
  refine ⟨fun pins s σ H D I h => ?_⟩
  refine wpAny_Assign_Subscript (thn (hv.run pins s σ H _ I h) fun r s1 ⟨v, H1, I1, rv, q1⟩ => thn (ho.run pins s1 σ H1 _ I1 q1) fun u s2 ⟨x, H2, I2, rx, q2⟩ => thn (hi.run pins s2 σ H2 _ I2 q2) fun iv s3 ⟨y, H3, I3, ry, a, b, k, xs, ex, ey, g1, g2, kb, hl, q3⟩ => ?_) hs
  subst ex ey
  obtain rfl : u = Value.ref a := rx
  obtain rfl : iv = Value.ref b := ry
  exact n_setItem hu I3 g1 g2 kb rv hl fun s4 I4 => ⟨σ, _, I4, q3⟩
theorem pe_nget2 (hu : X.A.units + 9 < cLine) (ho : PE X o td) (he : PE X e ty) (hf : PE X f tx) (m : M2 X o "get" apos e f cpos) (hp : X.prog = P := by rfl) (hw : X.w = w := by rfl) : PE X (.Call (.Attribute o "get" apos) [e, f] [] cpos) (tNGet2 P w td ty tx) := by
  subst hp hw
  refine ⟨fun pins s σ H Q I h => ?_⟩
  refine wpAny_Call_method m.base m.few m.line PySem.F.plainAttrs_dict PySem.F.slot_dict_get PySem.F.type_dict_get (thn (ho.run pins s σ H _ I h) fun u s1 ⟨x, H1, I1, rx, a, xs, ex, D, q1⟩ => ?_)
  subst ex
  obtain rfl : u = Value.ref a := rx
  obtain ⟨t1, t2, _⟩ := ndict_typ I1 D
  refine ⟨t1, t2, ?_⟩
  rw [m.trees]
  refine Calls.callWith_builtin rfl (Calls.evalArgs_plain (Calls.spliced_cons (thn (he.run pins s1 σ H1 _ I1 q1) fun iv s2 ⟨y, H2, I2, ry, q2⟩ =>
    Calls.spliced_cons (thn (hf.run pins s2 σ H2 _ I2 q2) fun fv s3 ⟨z, H3, I3, rz, b, k, ys, ey, D3, kb, q3⟩ => Calls.spliced_nil ?_))))
  subst ey
  obtain rfl : iv = Value.ref b := ry
  exact n_get2 hu I3 D3 kb rz fun w' s4 I4 rw' => ⟨_, H3, I4, rw', q3⟩
theorem pe_none1 (hu : X.A.units + 9 < cLine) (hi : PE X i ty) (hv : PE X value tv) (hp : X.prog = P := by rfl) (hw : X.w = w := by rfl) : PE X (.Dict [some i] [value] pos) (tNOne P w ty tv) := by
  subst hp hw
  refine ⟨fun pins s σ H Q I q => ?_⟩
  have hn := I.hok.fresh (Nat.le_refl s.heap.objs.size)
  have I1 := I.laid (a := s.heap.objs.size) (o := DkO X.prog X.w s.heap.objs.size []) (h' := s.heap.push { cls := .type "dict", data := .dict #[] }) (t' := s.toks) (fun _ _ q => Heap.get?_push_of_some _ q) (Nat.le_refl _) (dkO_empty s.heap I.big)
  have hu' : (nestedKind X.prog X.w).room X.A := by
    show X.A.units + 8 < cLine
    omega
  rw [arm_eval_Dict, zip_pairTrees [some i] [value] X.env pos rfl rfl, dictDisplay_pairs (pairTrees [some i] [value] X.env pos) (by intro z; cases z) (by show 1 < 17; decide)]
  refine wpAny_bind (wpAny_standAt (wpAny_bind (wpAny_subDictH (knd := nestedKind X.prog X.w) hu' (by show 1 ≤ 15; decide)
    (pairTrees_cons_walk (thn (hi.run pins _ σ _ _ I1 (q _ hn)) fun u s1 ⟨x, H1, I2, rx, q1⟩ => thn (hv.run pins s1 σ H1 _ I2 q1) fun w2 s2 ⟨y, H2, I3, ry, b, k, ex, ep, kb, q2⟩ => pairTrees_nil_walk ?_)))))
  subst ex
  obtain rfl : u = Value.ref b := rx
  obtain ⟨hd, hl, vs, pr, dd⟩ := ndict_of I3 ⟨.inl ep, (fun x hx => nomatch hx)⟩
  cases pr
  refine ⟨[(k, b, w2)], ⟨rfl, rfl, kb.is I3, trivial⟩, dd, fun h' tk dd' hs => wpAny_pure ⟨.ref s.heap.objs.size, _, ?_, rfl, q2⟩⟩
  have he : ∃ q, h'.get? s.heap.objs.size = some q := let ⟨q, _, _, hq, _⟩ := dd'; ⟨q, hq⟩
  exact d_write I3 (by rw [ep]; exact True.intro) hs he (dkO_new (by show 1 ≤ _; decide) hd (.cons ⟨rfl, rfl, ry⟩ .nil) dd')
end
end K71
set_option Elab.async false
set_option linter.all false
set_option maxRecDepth 100000
set_option maxHeartbeats 4000000
/-! k71: such dicts walked. -/
namespace K71
open PySem PySem.Spec PyProof.Rows L2
section
variable {X : Cx} {pins : List (Addr × Obj)} {σ : L2.St} {H : Hp} {s : Shared} {d : Addr} {o : Obj} {xs : List NE}
theorem inv_frzN (I : Inv X pins σ H s) (h : H d = some (.frz o (DkO X.prog X.w d xs))) :
    (d == sysModules) = false ∧ s.heap.get? d = some o ∧ o.ExactDict ∧ ∃ (es : Array DictEntry) (ep : Nat), o.data = .dict es ep ∧ es.size = xs.length ∧
      ∀ (i : Nat) (x : NE), xs[i]? = some x → ∃ en : DictEntry, es[i]? = some en ∧ en.key = .ref x.2.1 ∧ RelV x.2.2 en.val := by
  obtain ⟨hd, x⟩ := I.hok d _ h
  obtain ⟨z, hs, vs, pr, o', es, ep, ho, hx, hdt, he, _⟩ := x.1
  rw [hd] at ho
  cases ho
  refine ⟨hs, hd, hx, es, ep, hdt, ?_, fun i x e => ?_⟩
  · have l1 : es.size = vs.length := size_of_entries he
    have l2 : xs.length = vs.length := Paired.length pr
    omega
  · obtain ⟨b, hb, e1, e2, e3⟩ := paired_get pr e
    have q := entry_at he i
    rw [hb] at q
    refine ⟨_, q, ?_, e3⟩
    show Value.ref b.2.1 = Value.ref x.2.1
    rw [e2]
end
def ItnK (P : Program) (w : World) (d : Addr) (o : Obj) (xs : List NE) : It :=
  ⟨fun i H => H d = some (.frz o (DkO P w d xs)) ∧ i < xs.length, fun i H x H' => H' = H ∧ ∃ e, xs[i]? = some e ∧ x = .ref e.2.1, fun i H => H d = some (.frz o (DkO P w d xs)) ∧ xs.length ≤ i⟩
def ItnI (P : Program) (w : World) (d : Addr) (o : Obj) (xs : List NE) : It :=
  ⟨fun i H => H d = some (.frz o (DkO P w d xs)) ∧ i < xs.length, fun i H x H' => ∃ T e, xs[i]? = some e ∧ x = .ref T ∧ H T = none ∧ H' = upd H T (.tup [.ref e.2.1, e.2.2]), fun i H => H d = some (.frz o (DkO P w d xs)) ∧ xs.length ≤ i⟩
section
variable {P : Program} {w : World} {K : PySem.W.Frag} {tg : Expr} {d : Addr} {o : Obj} {es : Array DictEntry} {ep : Nat} {xs : List NE}
theorem turn_nkeys (it : Addr) (hod : o.data = .dict es ep) : Turn P w K tg (ItnK P w d o xs) [it] it (fun i h => h.IsKeyIter it d i xs.length ep) where
  mem := by simp
  obj := fun i h st b hb => by
    have e : b = it := by simpa using hb
    subst e
    obtain ⟨oi, e, c, dd⟩ := st
    exact ⟨oi, e, fun v z => by rw [dd] at z; cases z⟩
  keep := fun i h h' st k => st.at fun oi e => k it (by simp) oi e
  item := by
    intro X hP hw hK hc i pins s σ H E I hf st hg
    subst hP hw hK
    obtain ⟨hd, hi⟩ := hg
    obtain ⟨f0, f1, f2, f3, f4, f5⟩ := hf it (by simp)
    obtain ⟨hs, hgd, hx, es', ep', hdt, hsz, ent⟩ := inv_frzN I hd
    obtain ⟨rfl, rfl⟩ := dict_ep hod hdt
    obtain ⟨e, hkv⟩ : ∃ p, xs[i]? = some p := ⟨xs[i], List.getElem?_eq_getElem hi⟩
    obtain ⟨en, hen, hkey, hval⟩ := ent i e hkv
    refine next_key_item st hgd hdt hsz hen fun h' st' sb => ?_
    have I1 : Inv X pins σ H { s with heap := h' } := I.turned (t' := s.toks) (fun b ob hb e => (sb.2 b hb).trans e) f0 f1 f3 f4 f5
    obtain ⟨oi, e1, c, dd⟩ := id st'
    exact ⟨en.key, rfl, go_of (s := { s with heap := h' }) e1 c dd (by decide) ⟨.ref e.2.1, H, I1, hkey, ⟨rfl, e, hkv, rfl⟩, st', fun b hb => (hf b hb).1⟩⟩
  done := by
    intro X hP hw hK hc i pins s σ H E I hf st hg
    subst hP hw hK
    obtain ⟨hd, hi⟩ := hg
    obtain ⟨f0, f1, f2, f3, f4, f5⟩ := hf it (by simp)
    obtain ⟨hs, hgd, hx, es', ep', hdt, hsz, ent⟩ := inv_frzN I hd
    obtain ⟨rfl, rfl⟩ := dict_ep hod hdt
    exact next_key_end (I.ok.hd hc) st hgd hdt hsz hi fun h' eb => ⟨rfl, I.turned (t' := s.toks) (fun b ob hb e => eb b ob hb e) f0 f1 f3 f4 f5⟩
  self := fun A i s Q E st h => by
    refine wpAny_pyIter_slot st.typeIs F.slot_dict_keyiterator_iter (wpAny_call_entry F.slot_dict_keyiterator_iter st.typeIs F.entry_dict_keyiterator_iter ?_ (F.args_dict_keyiterator_iter_1 _))
    show wpAny _ _ (ret (.ref it)) _ _ s
    exact wpAny_pure ⟨_, rfl, "dict_keyiterator", _, st.typeIs, F.slot_dict_keyiterator_next.lookup, h⟩
theorem turn_nitems {elts : List Expr} {kk : Nat} {tpos : Pos} (it : Addr) (hod : o.data = .dict es ep) :
    Turn P w K (.Tuple elts kk tpos) (ItnI P w d o xs) [it] it (fun i h => ∃ ok ov, IsItemIter h it d i xs.length ep ok ov) where
  mem := by simp
  obj := fun i h st b hb => by
    have e : b = it := by simpa using hb
    subst e
    obtain ⟨ok, ov, e⟩ := st
    exact ⟨_, e, fun v z => nomatch z⟩
  keep := fun i h h' st k => let ⟨ok, ov, e⟩ := st; ⟨ok, ov, k it (by simp) _ e⟩
  item := by
    intro X hP hw hK hc i pins s σ H E I hf st hg
    subst hP hw hK
    obtain ⟨hd, hi⟩ := hg
    obtain ⟨hs, hgd, hx, es', ep', hdt, hsz, ent⟩ := inv_frzN I hd
    obtain ⟨rfl, rfl⟩ := dict_ep hod hdt
    obtain ⟨e, hkv⟩ : ∃ p, xs[i]? = some p := ⟨xs[i], List.getElem?_eq_getElem hi⟩
    obtain ⟨en, hen, hkey, hval⟩ := ent i e hkv
    obtain ⟨ok, ov, he⟩ := st
    rw [← hsz] at he
    have hie : i < es'.size := by omega
    have een : es'[i] = en := by
      rw [Array.getElem?_eq_getElem hie] at hen
      exact Option.some.inj hen
    have hlt : it < s.heap.objs.size := Heap.lt_size he
    refine DT.nextI (es := es') he ⟨o, hgd, hx, hdt⟩ hie fun h' ho hT hz hk => ?_
    refine ⟨_, rfl, wpAny_letOwnedTupleGo_items (s := { s with heap := h' }) ho fun h'' he' sb => ?_⟩
    have hT2 : h''.get? s.heap.objs.size = some { cls := .type "tuple", data := .seq #[es'[i].key, es'[i].val] } := (sb.2 _ (Nat.ne_of_gt hlt)).trans hT
    have new : ObjOk X.prog X.w (upd H s.heap.objs.size (.tup [.ref e.2.1, e.2.2])) h'' s.heap.objs.size (.tup [.ref e.2.1, e.2.2]) :=
      ⟨by show 2 ≤ sizeLine; decide, [es'[i].key, es'[i].val], .cons (by rw [een]; exact hkey) (.cons (by rw [een]; exact hval) .nil), ⟨_, hT2, rfl, _, rfl⟩⟩
    have I1 : Inv X pins σ (upd H s.heap.objs.size (.tup [.ref e.2.1, e.2.2])) { s with heap := h'' } :=
      I.turnedNew (t' := s.toks) (ch := [it]) (fun b ob hb e => (sb.2 b (by simpa using hb)).trans (hk b ob (by simpa using hb) e)) hf (Nat.le_refl _) new
    refine ⟨.ref s.heap.objs.size, _, I1, rfl, ⟨_, e, hkv, rfl, I.hok.fresh (Nat.le_refl _), rfl⟩, ⟨es'[i].key, es'[i].val, ?_⟩, fun b hb => ?_⟩
    · rw [← hsz]; exact he'
    · have e : b = it := by simpa using hb
      rw [e, upd_ne (Nat.ne_of_lt hlt)]
      exact (hf it (by simp)).1
  done := by
    intro X hP hw hK hc i pins s σ H E I hf st hg
    subst hP hw hK
    obtain ⟨hd, hi⟩ := hg
    obtain ⟨f0, f1, f2, f3, f4, f5⟩ := hf it (by simp)
    obtain ⟨hs, hgd, hx, es', ep', hdt, hsz, ent⟩ := inv_frzN I hd
    obtain ⟨rfl, rfl⟩ := dict_ep hod hdt
    obtain ⟨ok, ov, he⟩ := st
    rw [← hsz] at he
    exact DT.endI (es := es') (I.ok.hd hc) he ⟨o, hgd, hx, hdt⟩ (by omega) fun h' eb => ⟨rfl, I.turned (t' := s.toks) (fun b ob hb e => eb b ob hb e) f0 f1 f3 f4 f5⟩
  self := fun A i s Q E st h => let ⟨_, _, e⟩ := st; PySem.W.kcp_self e h
end
def iNKeys (P : Program) (w : World) (td : TE) : TI := fun σ H R => td σ H fun x H1 => ∃ d o xs, x = .ref d ∧ H1 d = some (.frz o (DkO P w d xs)) ∧ R (ItnK P w d o xs) H1
def iNItems (P : Program) (w : World) (td : TE) : TI := fun σ H R => td σ H fun x H1 => ∃ d o xs, x = .ref d ∧ H1 d = some (.frz o (DkO P w d xs)) ∧ R (ItnI P w d o xs) H1
section
variable {X : Cx} {tg e : Expr} {td : TE} {apos cpos : Pos} {P : Program} {w : World}
theorem pi_nkeys (he : PE X e td) (hp : X.prog = P := by rfl) (hw : X.w = w := by rfl) : PI X tg e (iNKeys P w td) := by
  subst hp hw
  refine ⟨fun pins s σ H R I h => ?_⟩
  refine thn (he.run pins s σ H _ I h) fun u s1 ⟨x, H1, I1, rx, d, o, xs, ex, hd, q⟩ => ?_
  subst ex
  obtain rfl : u = Value.ref d := rx
  obtain ⟨hs, hgd, hx, es, ep, hdt, hsz, ent⟩ := inv_frzN I1 hd
  refine iter_keys hs hgd hx hdt (pi_one (tk := s1.toks) I1 _ (turn_nkeys _ hdt) ⟨_, Heap.get?_push_size _ rfl, rfl, ?_⟩ q)
  rw [hsz] <;> rfl
theorem pi_nitems {elts : List Expr} {kk : Nat} {tpos : Pos} (he : PE X e td) (hbase : attributeBase e "items" X.env (eval e X.env) = eval e X.env := by rfl) (hline : (apos.endLine == cpos.line) = true := by rfl) (hp : X.prog = P := by rfl) (hw : X.w = w := by rfl) :
    PI X (.Tuple elts kk tpos) (.Call (.Attribute e "items" apos) [] [] cpos) (iNItems P w td) := by
  subst hp hw
  refine ⟨fun pins s σ H R I h => ?_⟩
  refine wpAny_Call_method (T := "dict") (id := "dict.items") hbase rfl hline F.plainAttrs_dict F.slot_dict_items F.type_dict_items (thn (he.run pins s σ H _ I h) fun u s1 ⟨x, H1, I1, rx, d, o, xs, ex, hd, q⟩ => ?_)
  subst ex
  obtain rfl : u = Value.ref d := rx
  obtain ⟨hs, hgd, hx, es, ep, hdt, hsz, ent⟩ := inv_frzN I1 hd
  have hm : DT.Raw s1.heap d es ep := ⟨o, hgd, hx, hdt⟩
  refine ⟨hm.typeIs, fun b q => ?_, ?_⟩
  · cases q
    exact ⟨o, hgd, hx.2.1⟩
  have I2 : Inv X pins σ H1 { s1 with heap := s1.heap.push { cls := .type "dict_items", data := .fields #[.ref d] } } := I1.kept (t' := s1.toks) fun b ob q => Heap.get?_push_of_some _ q
  have fin : wpAny (model X.prog X.w) X.A (pyIter (.ref s1.heap.objs.size)) (PIE X pins σ (.Tuple elts kk tpos) R) X.xe { s1 with heap := s1.heap.push { cls := .type "dict_items", data := .fields #[.ref d] } } := by
    refine DT.iterI (d := d) (es := es) (ep := ep) ⟨_, Heap.get?_push_size _ rfl, rfl, rfl⟩ (hm.push _) (pi_one (tk := s1.toks) I2 _ (turn_nitems _ hdt) ⟨.none, .none, ?_⟩ q)
    rw [← hsz]
    exact Heap.get?_push_size _ rfl
  show wpAny _ _ (callWith cpos (.builtin "dict.items") [.ref d] [] []) _ X.xe s1
  exact method_meetsIn F.slot_dict_items F.entry_dict_items rfl (PySem.evalArgs_none ⟨rfl, hm.typeIs, F.args_dict_items_1 _, _, DT.meetsItems (es := es) (ep := ep) hs, hm, fin⟩)
end
section
variable {P : Program} {w : World} {d : Addr} {o : Obj} {xs : List NE}
theorem walk_nkeys : Walk (ItnK P w d o xs) xs.length (fun H => H d = some (.frz o (DkO P w d xs))) (fun i H x H' => H' = H ∧ ∃ e, xs[i]? = some e ∧ x = .ref e.2.1) :=
  ⟨fun _ _ hi q => ⟨q, hi⟩, fun _ q => ⟨q, Nat.le_refl _⟩, fun _ _ _ _ _ _ y => y⟩
theorem walk_nitems : Walk (ItnI P w d o xs) xs.length (fun H => H d = some (.frz o (DkO P w d xs))) (fun i H x H' => ∃ T e, xs[i]? = some e ∧ x = .ref T ∧ H T = none ∧ H' = upd H T (.tup [.ref e.2.1, e.2.2])) :=
  ⟨fun _ _ hi q => ⟨q, hi⟩, fun _ q => ⟨q, Nat.le_refl _⟩, fun _ _ _ _ _ _ y => y⟩
end
end K71
set_option Elab.async false
set_option linter.all false
set_option maxRecDepth 100000
set_option maxHeartbeats 4000000
/-! k71: tuple * int, all counts. -/
namespace K71
open PySem PySem.Spec PyProof.Rows L2
theorem tuple_mul1 (l : Addr) (items : Array Value) (n : Nat) (dd : Option Addr) (sl : Array (Option Value)) (u : Tok) :
    Meets (Builtin.«tuple.__mul__» ⟨[.ref l, .int 1 u], []⟩) (fun _ R s => s.heap.get? l = some { cls := .type "tuple", dict := dd, data := .seq items n, slots := sl } ∧
      R (.ok (.ret (Value.ref l))) s) :=
  .of_wp fun prog w A R s h => by
    obtain ⟨hp, g, d, tk, os⟩ := s
    obtain ⟨hl, h⟩ := h
    have f1 := AutoSeq1.idx_int
    have c0 : (decide ((1 : Int) < -(2 ^ 63)) || decide ((1 : Int) ≥ 2 ^ 63)) = false := by decide
    have c1 : (items.isEmpty || (1 : Int) == 1) = true := by rw [show ((1 : Int) == 1) = true from rfl, Bool.or_true]
    wp_walk using wpAny_loadPart' hl
    repeat (first
      | (refine wpAny_ite_false (decide_eq_false (by rw [c0]; exact Bool.false_ne_true)) ?_; wp_walk using wpAny_loadPart' hl)
      | (refine wpAny_ite_true (decide_eq_true c1) ?_; wp_walk using wpAny_loadPart' hl))
    exact ⟨_, rfl, h⟩
theorem tuple_mul0 (l : Addr) (items : Array Value) (n : Nat) (dd : Option Addr) (sl : Array (Option Value)) (x : Int) (u : Tok) (c0 : (decide (x < -(2 ^ 63)) || decide (x ≥ 2 ^ 63)) = false) (c1 : (items.isEmpty || x == 1) = false) (c2 : (decide (x ≤ 0) || items.isEmpty) = true) :
    Meets (Builtin.«tuple.__mul__» ⟨[.ref l, .int x u], []⟩) (fun _ R s => s.heap.get? l = some { cls := .type "tuple", dict := dd, data := .seq items n, slots := sl } ∧
      R (.ok (.ret (Value.ref s.heap.objs.size))) { s with heap := s.heap.push { cls := Value.type "tuple", data := Data.seq #[] }, toks := s.toks }) :=
  .of_wp fun prog w A R s h => by
    obtain ⟨hp, g, d, tk, os⟩ := s
    obtain ⟨hl, h⟩ := h
    have f1 := AutoSeq1.idx_int
    wp_walk using wpAny_loadPart' hl
    repeat (first
      | (refine wpAny_ite_false (decide_eq_false (by rw [c0]; exact Bool.false_ne_true)) ?_; wp_walk using wpAny_loadPart' hl)
      | (refine wpAny_ite_false (decide_eq_false (by rw [c1]; exact Bool.false_ne_true)) ?_; wp_walk using wpAny_loadPart' hl)
      | (refine wpAny_ite_true (decide_eq_true c2) ?_; wp_walk using wpAny_loadPart' hl))
    exact ⟨_, rfl, h⟩
def rRepA (K : PySem.W.Frag) : R2 := fun x y H Q => ∃ l k xs, x = .ref l ∧ y = .int k ∧ SqT K H l xs ∧ xs ≠ [] ∧ -1000 ≤ k ∧ k ≤ 1000 ∧ xs.length ≤ 1000 ∧ (k = 1 → Q (.ref l) H) ∧ (k ≠ 1 → ∀ p, H p = none → Q (.ref p) (upd H p (.tup (List.replicate k.toNat xs).flatten)))
section
variable {X : Cx}
theorem op_repA : OpR X (binaryOp .Mult) (rRepA X.K) := by
  intro pins s σ H x y v u Q I rx ry h
  obtain ⟨l, k, xs, rfl, rfl, hT, hne, h1, h2, hz, q1, q⟩ := h
  by_cases hk2 : 2 ≤ k
  · exact op_repT pins s σ H _ _ v u Q I rx ry ⟨l, k, xs, rfl, rfl, hT, hne, hk2, h2, hz, q (by omega)⟩
  cases rx
  obtain ⟨t, rfl⟩ := ry
  obtain ⟨its, r, ⟨⟨cls, dd, data, sl⟩, ho, hc, n, hd⟩, hs⟩ := I.tuple hT
  simp only at hc hd
  subst hc hd
  have hle : its.length = xs.length := r.length.symm
  have hn : its ≠ [] := fun e => hne (by
    rw [e] at hle
    exact List.eq_nil_of_length_eq_zero hle.symm)
  have hi : its.toArray.isEmpty = false := by
    cases its with
    | nil => exact absurd rfl hn
    | cons a b => rfl
  by_cases k1 : k = 1
  · subst k1
    exact wpAny_binaryOp_repeat_ref (T := "tuple") (U := "int") (by decide) ⟨_, ho, rfl⟩ (fun s' => typeIs_int s' 1 t) noFill_tuple_mul F.fills_int_mul F.slot_int_rmul repeat_tuple F.slot_int_index.lookup
      (call_meets F.slot_int_rmul (typeIs_int s 1 t) F.entry_int_rmul (F.args_int_rmul_2 _ _) (int_rmul_tuple 1 t l its.toArray n dd sl)
        ⟨ho, rfl, ⟨_, ho, rfl⟩, call_meets F.slot_tuple_mul ⟨_, ho, rfl⟩ F.entry_tuple_mul (F.args_tuple_mul_2 _ _) (tuple_mul1 l its.toArray n dd sl t) ⟨ho, ⟨.ref l, H, I, rfl, q1 rfl⟩⟩⟩)
  · have c0 : (decide (k < -(2 ^ 63)) || decide (k ≥ 2 ^ 63)) = false := by
      rw [decide_eq_false (by omega), decide_eq_false (by omega)] <;> rfl
    have c1 : (its.toArray.isEmpty || k == 1) = false := by
      rw [hi, Bool.false_or]
      exact beq_eq_false_iff_ne.mpr k1
    have c2 : (decide (k ≤ 0) || its.toArray.isEmpty) = true := by
      rw [decide_eq_true (by omega), Bool.true_or]
    refine wpAny_binaryOp_repeat_ref (T := "tuple") (U := "int") (by decide) ⟨_, ho, rfl⟩ (fun s' => typeIs_int s' k t) noFill_tuple_mul F.fills_int_mul F.slot_int_rmul repeat_tuple F.slot_int_index.lookup
      (call_meets F.slot_int_rmul (typeIs_int s k t) F.entry_int_rmul (F.args_int_rmul_2 _ _) (int_rmul_tuple k t l its.toArray n dd sl)
        ⟨ho, rfl, ⟨_, ho, rfl⟩, call_meets F.slot_tuple_mul ⟨_, ho, rfl⟩ F.entry_tuple_mul (F.args_tuple_mul_2 _ _) (tuple_mul0 l its.toArray n dd sl k t c0 c1 c2) ⟨ho, ?_⟩⟩)
    have e0 : k.toNat = 0 := by omega
    have q := q k1
    rw [e0] at q
    refine ⟨.ref s.heap.objs.size, _, I.laid (t' := s.toks) (o := .tup []) (fun b ob q => Heap.get?_push_of_some _ q) (Nat.le_refl _) ?_, rfl, q _ (I.hok.fresh (Nat.le_refl _))⟩
    exact ⟨Nat.zero_le _, [], .nil, IsTup.new _ _⟩
end
theorem flat_one {α : Type} (x : α) (k : Nat) : (List.replicate k [x]).flatten = List.replicate k x := by
  induction k with
  | zero => rfl
  | succ k ih => rw [List.replicate_succ, List.flatten_cons, ih, List.replicate_succ]; rfl
/-- (x,) * k -/
theorem rRep_one {K : PySem.W.Frag} {H : Hp} {l : Addr} {x : V} {k : Nat} {Q : VK} (h : H l = some (.tup [x])) (hk : k ≤ 1000) (q : ∀ p H', Same H H' → H' p = some (.tup (List.replicate k x)) → Q (.ref p) H') : rRepA K (.ref l) (.int k) H Q := by
  refine ⟨l, k, [x], rfl, rfl, SqT.of h, (fun z => nomatch z), by omega, by omega, by show 1 ≤ 1000; decide, fun e => ?_, fun _ p hp => ?_⟩
  · have : k = 1 := by omega
    subst this
    exact q l H (fun _ _ z => z) h
  · refine q p _ (same_new hp) ?_
    rw [upd_same, flat_one]
    rfl
end K71
set_option Elab.async false
set_option linter.all false
set_option maxRecDepth 100000
set_option maxHeartbeats 4000000
/-! k71: a tuple with one place changed, by slices. -/
namespace K71
open PySem PySem.Spec PyProof.Rows L2
theorem rCat_of {K : PySem.W.Frag} {H : Hp} {a b : Addr} {xs ys : List V} {Q : VK} (ha : H a = some (.tup xs)) (hb : H b = some (.tup ys)) (hl : xs.length + ys.length ≤ 10000) (q : ∀ p H', Same H H' → H' p = some (.tup (xs ++ ys)) → Q (.ref p) H') : rCatA K (.ref a) (.ref b) H Q := by
  refine ⟨a, b, xs, ys, rfl, rfl, SqT.of ha, SqT.of hb, Nat.le_trans hl (by decide), fun e => ?_, fun _ e => ?_, fun _ _ p hp => ?_⟩
  · exact q b H (fun _ _ z => z) (by rw [e]; exact hb)
  · exact q a H (fun _ _ z => z) (by rw [e, List.append_nil]; exact ha)
  · exact q p _ (same_new hp) upd_same
theorem rSl_lo {K : PySem.W.Frag} {H : Hp} {a : Addr} {xs : List V} {k : Nat} {Q : VK} (ha : H a = some (.tup xs)) (hk : k < xs.length) (q : ∀ p H', Same H H' → H' p = some (.tup (xs.take k)) → Q (.ref p) H') : rSlA K (.ref a) none (some (k : Int)) H Q := by
  refine ⟨a, xs, rfl, SqT.of ha, fun e => ?_, fun _ p hp => q p _ (same_new hp) ?_⟩
  · rw [HT.sIx_nat, HT.sIx_none] at e
    omega
  · rw [upd_same]
    unfold cutV
    rw [HT.sIx_none, HT.sIx_nat, List.drop_zero, Nat.sub_zero, Nat.min_eq_left (Nat.le_of_lt hk)]
theorem rSl_hi {K : PySem.W.Frag} {H : Hp} {a : Addr} {xs : List V} {k : Nat} {Q : VK} (ha : H a = some (.tup xs)) (hk : k < xs.length) (q : ∀ p H', Same H H' → H' p = some (.tup (xs.drop (k + 1))) → Q (.ref p) H') : rSlA K (.ref a) (some ((k : Int) + 1)) none H Q := by
  have ec : ((k : Int) + 1) = ((k + 1 : Nat) : Int) := by omega
  rw [ec]
  refine ⟨a, xs, rfl, SqT.of ha, fun e => ?_, fun _ p hp => q p _ (same_new hp) ?_⟩
  · rw [HT.sIx_nat, HT.sIx_none] at e
    omega
  · rw [upd_same]
    unfold cutV
    rw [HT.sIx_none, HT.sIx_nat, Nat.min_eq_left hk]
    rw [List.take_of_length_le (by rw [List.length_drop]; exact Nat.le_refl _)]
theorem set_cut {α : Type} : ∀ (xs : List α) (k : Nat) (y : α), k < xs.length → (xs.take k ++ [y]) ++ xs.drop (k + 1) = xs.set k y
  | [], _, _, h => by cases h
  | x :: xs, 0, y, _ => rfl
  | x :: xs, k + 1, y, h => by
    have := set_cut xs k y (by simpa using h)
    simp only [List.take_succ_cons, List.cons_append, List.drop_succ_cons, List.set_cons_succ]
    rw [this]
theorem stV_set (st : Std) (k : Nat) (o : Option Int) : (stV st).set k (optV o) = stV (st.set k o) := by
  unfold stV
  rw [List.map_set]
theorem rowV_set (r : Row) (k : Nat) (o : Int) : (rowV r).set k (.int o) = rowV (r.set k o) := by
  unfold rowV
  rw [List.map_set]
/-- x[:k] + (y,) + x[k + 1:], all names -/
def tMid (K : PySem.W.Frag) (i j m : Nat) : TE := tOp (rCatA K) (tOp (rCatA K) (tSl (rSlA K) (tVar i) tNoPart (tPart (tVar j))) (tTup (tCons (tVar m) tNil))) (tSl (rSlA K) (tVar i) (tPart (tAdd (tVar j) (tC (.int 1)))) tNoPart)
theorem mid_of {K : PySem.W.Frag} {σ : L2.St} {H : Hp} {i j m k : Nat} {a : Addr} {xs : List V} {y : V} {Q : VK} (hi : σ[i]? = some (some (.ref a))) (hj : σ[j]? = some (some (.int k))) (hm : σ[m]? = some (some y)) (ha : H a = some (.tup xs)) (hk : k < xs.length) (hl : xs.length ≤ 100)
    (q : ∀ p H', Same H H' → H' p = some (.tup (xs.set k y)) → Q (.ref p) H') : tMid K i j m σ H Q := by
  refine ⟨_, hi, _, hj, (k : Int), rfl, ?_⟩
  refine rSl_lo ha hk fun p1 H1 s1 e1 => ?_
  refine ⟨_, hm, by show 1 ≤ sizeLine; decide, fun p2 n2 => ?_⟩
  have s2 := same_new (o := .tup [y]) n2
  refine rCat_of (s2 _ _ e1) upd_same (by rw [List.length_take]; show _ + 1 ≤ _; omega) fun p3 H3 s3 e3 => ?_
  have s13 := s1.trans (s2.trans s3)
  refine ⟨_, hi, _, hj, (k : Int), 1, rfl, rfl, ((k : Int) + 1), rfl, ?_⟩
  simp only [tNoPart]
  refine rSl_hi (s13 _ _ ha) hk fun p4 H4 s4 e4 => ?_
  refine rCat_of (s4 _ _ e3) e4 (by rw [List.length_append, List.length_take, List.length_drop]; show _ + 1 + _ ≤ _; omega) fun p5 H5 s5 e5 => ?_
  refine q p5 H5 (s13.trans (s4.trans s5)) ?_
  rw [e5, set_cut xs k y hk]
end K71
set_option Elab.async false
set_option linter.all false
set_option maxRecDepth 100000
set_option maxHeartbeats 4000000
/-! k71: the dict of reached standings. -/
namespace K71
open PySem PySem.Spec PyProof.Rows L2
theorem room_n {k : Nat} {A : Around} (r : Room k A) : A.units + 9 < cLine := by
  have := r.units
  omega
theorem fitL_set {L : RL} {st : Std} {p : Nat} {a : Int} (hp : p < st.length) (h0 : tell st p = none) : fitL L (st.set p (some a)) = partL (fitL L st) p a := by
  unfold fitL partL
  rw [List.filter_filter]
  congr 1
  funext x
  rw [fits_set hp h0, Bool.and_comm]
theorem fitL_begin (n : Nat) (L : RL) : fitL L (begin_ n) = L := by
  unfold fitL
  rw [List.filter_eq_self]
  intro x hx
  have := fit_begin n [x.2]
  unfold fit at this
  rw [List.filter_eq_self] at this
  exact this x.2 List.mem_cons_self
abbrev EE := Std × Addr × Addr
def entE (e : EE) : NE := (kSt e.1, e.2.1, .ref e.2.2)
theorem valE_some : ∀ {E : List EE} {st : Std}, st ∈ E.map (·.1) → ∃ e, e ∈ E ∧ e.1 = st ∧ valN (E.map entE) (kSt st) = some (.ref e.2.2)
  | [], _, h => by cases h
  | x :: E, st, h => by
    by_cases c : x.1 = st
    · refine ⟨x, List.mem_cons_self, c, ?_⟩
      unfold valN
      rw [List.map_cons, List.find?_cons]
      have : decide ((entE x).1 = kSt st) = true := decide_eq_true (by show kSt x.1 = _; rw [c])
      rw [this]
      rfl
    · have h' : st ∈ E.map (·.1) := by
        rcases List.mem_cons.mp h with z | z
        · exact absurd z.symm c
        · exact z
      obtain ⟨e, h1, h2, h3⟩ := valE_some h'
      refine ⟨e, List.mem_cons_of_mem _ h1, h2, ?_⟩
      rw [← h3]
      unfold valN
      rw [List.map_cons, List.find?_cons]
      have : decide ((entE x).1 = kSt st) = false := decide_eq_false fun z => c (kSt_inj z)
      rw [this]
theorem valE_none {E : List EE} {st : Std} (h : st ∉ E.map (·.1)) : valN (E.map entE) (kSt st) = none := by
  unfold valN
  rw [Option.map_eq_none_iff, List.find?_eq_none]
  intro x hx z
  obtain ⟨e, he, rfl⟩ := List.mem_map.mp hx
  exact h (List.mem_map.mpr ⟨e, he, kSt_inj (of_decide_eq_true z)⟩)
/-- the dict at d: standings to the rows that fit, each a C (tuple or list) -/
structure RDict (P : Program) (w : World) (C : List V → HO) (H : Hp) (d : Addr) (L : RL) (E : List EE) : Prop where
  ob : Rd H d (DkO P w d (E.map entE))
  en : ∀ e, e ∈ E → H e.2.1 = some (.tup (stV e.1)) ∧ H e.2.2 = some (C (refs (fitL L e.1)))
theorem keys_E {H : Hp} {E : List EE} (h : ∀ e, e ∈ E → H e.2.1 = some (.tup (stV e.1))) : ∀ x, x ∈ E.map entE → KeyAt H x.2.1 x.1 := fun x hx => by
  obtain ⟨e, he, rfl⟩ := List.mem_map.mp hx
  exact keyAt_st (h e he)
theorem RDict.nd {P : Program} {w : World} {C : List V → HO} {H : Hp} {d : Addr} {L : RL} {E : List EE} (R : RDict P w C H d L E) : NDict P w H d (E.map entE) := ⟨R.ob, keys_E fun e he => (R.en e he).1⟩
/-- while it is made -/
structure RStE (P : Program) (w : World) (C : List V → HO) (H0 H : Hp) (d wl : Addr) (L : RL) (E : List EE) (ws : List (Addr × Std)) (s : List Std × List Std) : Prop where
  same : Same H0 H
  fd : H0 d = none
  fw : H0 wl = none
  ne : d ≠ wl
  ob : H d = some (DkO P w d (E.map entE))
  en : ∀ e, e ∈ E → H e.2.1 = some (.tup (stV e.1)) ∧ H e.2.2 = some (C (refs (fitL L e.1))) ∧ e.2.2 ≠ wl
  ek : E.map (·.1) = s.1
  wo : H wl = some (.lst (ws.map fun x => .ref x.1))
  wn : ∀ x, x ∈ ws → H x.1 = some (.tup (stV x.2))
  wk : ws.map (·.2) = s.2
section
variable {P : Program} {w : World} {C : List V → HO} {H0 H H' : Hp} {d wl : Addr} {L : RL} {E : List EE} {ws : List (Addr × Std)} {s : List Std × List Std}
theorem RStE.keys (R : RStE P w C H0 H d wl L E ws s) : ∀ x, x ∈ E.map entE → KeyAt H x.2.1 x.1 := keys_E fun e he => (R.en e he).1
theorem RStE.nd (R : RStE P w C H0 H d wl L E ws s) : NDict P w H d (E.map entE) := ⟨.inl R.ob, R.keys⟩
theorem RStE.mono (R : RStE P w C H0 H d wl L E ws s) (k : Same H H') : RStE P w C H0 H' d wl L E ws s :=
  ⟨R.same.trans k, R.fd, R.fw, R.ne, k _ _ R.ob, fun e he => ⟨k _ _ (R.en e he).1, k _ _ (R.en e he).2.1, (R.en e he).2.2⟩, R.ek, k _ _ R.wo, fun x hx => k _ _ (R.wn x hx), R.wk⟩
theorem RStE.but {y : Addr} {o : HO} (R : RStE P w C H0 H d wl L E ws s) (k : But y H H') (ho : H y = some o) (h1 : ∀ xs, o ≠ .tup xs) (h2 : ∀ xs, o ≠ C xs) (h3 : ∀ ys, o ≠ .lst ys) (h4 : ∀ φ, o ≠ .ext φ) (h0 : H0 y = none) : RStE P w C H0 H' d wl L E ws s :=
  ⟨fun b u e => k b u (R.same b u e) (ne_of_none e h0), R.fd, R.fw, R.ne, k _ _ R.ob (ne_of R.ob ho fun z => h4 _ z.symm), fun e he => ⟨k _ _ (R.en e he).1 (ne_of (R.en e he).1 ho fun z => h1 _ z.symm), k _ _ (R.en e he).2.1 (ne_of (R.en e he).2.1 ho fun z => h2 _ z.symm), (R.en e he).2.2⟩, R.ek,
    k _ _ R.wo (ne_of R.wo ho fun z => h3 _ z.symm), fun x hx => k _ _ (R.wn x hx) (ne_of (R.wn x hx) ho fun z => h1 _ z.symm), R.wk⟩
/-- a new one is stored, then waits -/
theorem RStE.put {t : Std} {b a : Addr} (R : RStE P w C H0 H d wl L E ws s) (hC : ∀ xs φ, C xs ≠ .ext φ) (ht : t ∉ s.1) (hb : H b = some (.tup (stV t))) (ha : H a = some (C (refs (fitL L t)))) (hw : a ≠ wl) :
    valN (E.map entE) (kSt t) = none ∧ RStE P w C H0 (upd (upd H d (DkO P w d (putN (E.map entE) (kSt t) b (.ref a)))) wl (.lst ((ws.map fun x => .ref x.1) ++ [.ref b]))) d wl L (E ++ [(t, b, a)]) (ws ++ [(b, t)]) (push s t) := by
  have hn : valN (E.map entE) (kSt t) = none := valE_none (by rw [R.ek]; exact ht)
  refine ⟨hn, ?_⟩
  have old : ∀ c u, H c = some u → c ≠ d → c ≠ wl → (upd (upd H d (DkO P w d (putN (E.map entE) (kSt t) b (.ref a)))) wl (.lst ((ws.map fun x => .ref x.1) ++ [.ref b]))) c = some u := fun c u e n1 n2 => by
    rw [upd_ne n2, upd_ne n1]
    exact e
  have tup_ne : ∀ {c xs}, H c = some (.tup xs) → c ≠ d ∧ c ≠ wl := fun e => ⟨ne_of e R.ob (fun z => by unfold DkO at z; cases z), ne_of e R.wo (fun z => nomatch z)⟩
  have c_ne : ∀ {c xs}, H c = some (C xs) → c ≠ d := fun e => ne_of e R.ob (fun z => hC _ _ z)
  refine ⟨fun c u e => old c u (R.same c u e) (ne_of_none e R.fd) (ne_of_none e R.fw), R.fd, R.fw, R.ne, ?_, fun e he => ?_, ?_, ?_, fun x hx => ?_, ?_⟩
  · rw [upd_ne R.ne, upd_same, putN_new hn, List.map_append]
    rfl
  · rcases List.mem_append.mp he with he | he
    · obtain ⟨h1, h2, h3⟩ := R.en e he
      exact ⟨old _ _ h1 (tup_ne h1).1 (tup_ne h1).2, old _ _ h2 (c_ne h2) h3, h3⟩
    · rw [List.mem_singleton.mp he]
      exact ⟨old _ _ hb (tup_ne hb).1 (tup_ne hb).2, old _ _ ha (c_ne ha) hw, hw⟩
  · unfold push
    rw [if_neg ht, List.map_append, R.ek]
    rfl
  · rw [upd_same, List.map_append]
    rfl
  · rcases List.mem_append.mp hx with hx | hx
    · have := R.wn x hx
      exact old _ _ this (tup_ne this).1 (tup_ne this).2
    · rw [List.mem_singleton.mp hx]
      exact old _ _ hb (tup_ne hb).1 (tup_ne hb).2
  · unfold push
    rw [if_neg ht, List.map_append, R.wk]
    rfl
theorem RStE.none {t : Std} (R : RStE P w C H0 H d wl L E ws s) (ht : t ∈ s.1) : RStE P w C H0 H d wl L E ws (push s t) := by
  unfold push
  rw [if_pos ht]
  exact R
/-- the last one that waits is taken -/
theorem RStE.pop {x : Addr × Std} (R : RStE P w C H0 H d wl L E (ws ++ [x]) (s.1, s.2 ++ [x.2])) (hC : ∀ xs φ, C xs ≠ .ext φ) (hws : ws.map (·.2) = s.2) : RStE P w C H0 (upd H wl (.lst (ws.map fun x => .ref x.1))) d wl L E ws s := by
  have old : ∀ c u, H c = some u → c ≠ wl → (upd H wl (.lst (ws.map fun x => .ref x.1))) c = some u := fun c u e n => by
    rw [upd_ne n]
    exact e
  refine ⟨fun c u e => old c u (R.same c u e) (ne_of_none e R.fw), R.fd, R.fw, R.ne, old _ _ R.ob R.ne, fun e he => ?_, R.ek, upd_same, fun y hy => ?_, hws⟩
  · obtain ⟨h1, h2, h3⟩ := R.en e he
    exact ⟨old _ _ h1 (ne_of h1 R.wo (fun z => nomatch z)), old _ _ h2 h3, h3⟩
  · have := R.wn y (List.mem_append_left _ hy)
    exact old _ _ this (ne_of this R.wo (fun z => nomatch z))
theorem RStE.len {n : Nat} (R : RStE P w C H0 H d wl L E ws s) (D : DInv n (rws L) s) (hw : Wid n (rws L)) (hne : L ≠ []) (hn : n ≤ 6) (hl : L.length ≤ 100) : (E.map entE).length < sizeLine := by
  have h1 := reached_few hw (fun z => hne (List.map_eq_nil_iff.mp z)) D.nd D.re
  have h2 : E.length = s.1.length := by rw [← R.ek, List.length_map]
  have h3 : 2 ^ n ≤ 2 ^ 6 := Nat.pow_le_pow_right (by decide) hn
  have h4 : (rws L).length * 2 ^ n ≤ 100 * 2 ^ 6 := Nat.mul_le_mul (by rw [rws_len]; exact hl) h3
  have h5 : (100 * 2 ^ 6 : Nat) < sizeLine := by decide
  unfold most at h1
  rw [List.length_map]
  omega
end
theorem RStE.wlen {P : Program} {w : World} {C : List V → HO} {H0 H : Hp} {d wl : Addr} {L : RL} {E : List EE} {ws : List (Addr × Std)} {s : List Std × List Std} {n : Nat} (R : RStE P w C H0 H d wl L E ws s) (D : DInv n (rws L) s) (hw : Wid n (rws L)) (hne : L ≠ []) (hn : n ≤ 6) (hl : L.length ≤ 100) : (ws.map fun x => V.ref x.1).length < sizeLine := by
  have h1 := R.len D hw hne hn hl
  have h2 : ws.length = s.2.length := by rw [← R.wk, List.length_map]
  have h3 : E.length = s.1.length := by rw [← R.ek, List.length_map]
  have h4 := D.le
  rw [List.length_map] at h1 ⊢
  omega
/-- the thing is locked once it is made -/
def tFrz (t : TE) : TE := fun σ H Q => t σ H fun x H1 => ∃ d u, x = .ref d ∧ H1 d = some u ∧ Mut (some u) ∧ ∀ od, Q x (upd H1 d (.frz od u))
theorem pe_frz {X : Cx} {e : Expr} {t : TE} (h : PE X e t) : PE X e (tFrz t) := ⟨fun pins s σ H Q I hw => thn (h.run pins s σ H _ I hw) fun v s1 ⟨x, H1, I1, r, d, u, ex, hd, mu, q⟩ => by
  obtain ⟨od, I2⟩ := I1.lock hd mu
  exact ⟨x, _, I2, r, q od⟩⟩
/-! ### what waits, as data -/
theorem eqv_stsL (a b : List Std) : PyData.eqv (.list (a.map stD)) (.list (b.map stD)) = decide (a = b) := by
  simp only [PyData.eqv]
  exact eqvAll_map eqv_st a b
theorem stsL_shaped (a : List Std) : SeqAt.shaped (.list (a.map stD)) = true := by
  refine shaped_of ?_ ?_
  · simp only [PyData.canLay0]
    exact lay_map st_lay a
  · have := depth_map st_depth a
    simp only [PyData.depth]
    omega
theorem dpSts {K : PySem.W.Frag} {H : Hp} : ∀ {ws : List (Addr × Std)}, (∀ x, x ∈ ws → H x.1 = some (.tup (stV x.2))) → DpAll K H (ws.map fun x => V.ref x.1) ((ws.map (·.2)).map stD)
  | [], _ => .nil
  | p :: ws, h => .cons (dpSt (h p List.mem_cons_self)) (dpSts fun q hq => h q (List.mem_cons_of_mem _ hq))
theorem dpStsL {K : PySem.W.Frag} {H : Hp} {a : Addr} {ws : List (Addr × Std)} (h : SqL K H a (ws.map fun x => V.ref x.1)) (hw : ∀ x, x ∈ ws → H x.1 = some (.tup (stV x.2))) : Dp K H (.ref a) (.list ((ws.map (·.2)).map stD)) := .lst h (dpSts hw)
theorem replicate_begin (n : Nat) : List.replicate n V.non = stV (begin_ n) := by
  unfold stV begin_
  rw [List.map_replicate]
  rfl
end K71
set_option Elab.async false
set_option linter.all false
set_option maxRecDepth 100000
set_option maxHeartbeats 4000000
namespace K71
open PySem PySem.Spec PyProof.Rows L2
section
variable {P : Program} {w : World} {K : PySem.W.Frag} {mg : Str → Option Value} {base : Heap}
/-! ### sheet_reached -/
def spReached (P : Program) (w : World) (K : PySem.W.Frag) : Sp := fun vs H Q _ => ∃ (s : Addr) (sz : Row) (L : RL), vs = [.ref s] ∧ SheetAt K H s sz L ∧
  ∀ d E H', H d = none → Same H H' → H' d = some (DkO P w d (E.map entE)) → RDict P w .tup H' d L E → E.map (·.1) = reachP sz.length (rws L) → Q (.ref d) H'
theorem k_sheet_reached (B : Bi mg) (D : Placed K mg "sheet_reached" s_sheet_reached p_sheet_reached) (CD : Kept P w K mg base CX0 1 "differing" p_differing (spDiff K)) (CB : Kept P w K mg base CX0 1 "by_answers" p_by_answers (spBy K)) :
    Kept P w K mg base CX0 2 "sheet_reached" p_sheet_reached (spReached P w K) := by
  obtain ⟨fD, fdD, GD, mD, kD, bD⟩ := CD
  obtain ⟨fB, fdB, GB, mB, kB, bB⟩ := CB
  refine D.keep fun f fd F => F.ok sc_sheet_reached (fun vs H Q E h => ?_) (fun cdv A outer s H vs Q E hr h => ?_)
  · obtain ⟨s, sz, L, rfl, _⟩ := h
    rfl
  · obtain ⟨sh, sz, L, rfl, S, q⟩ := h
    have hr1 : Room 1 _ := hr.mono (by decide)
    have hw := S.wid
    refine ⟨_, pss_cons (ps_set (i := 1) sc_sheet_reached.nd rfl (Or.inl rfl) (pe_op op_repA (pe_tup (pa_cons pe_non pa_nil)) (pe_callB callLen (by rfl) B.len PySem.boot_len (pa_cons (pe_fld (pv 0) rfl) pa_nil))))
      (pss_cons (ps_set (i := 2) sc_sheet_reached.nd rfl (Or.inl rfl) (pe_none1 (P := P) (w := w) (room_n hr) (pv 1) (pe_fld (pv 0) rfl)))
      (pss_cons (ps_set (i := 3) sc_sheet_reached.nd rfl (Or.inl rfl) (pe_lst (pa_cons (pv 1) pa_nil)))
      (pss_cons (ps_while PassesOwn.never (pt_cmpR (op_neD hr.units) (pv 3) (pe_lst pa_nil) (nomark _))
        (pss_cons (ps_set (i := 4) sc_sheet_reached.nd rfl (Or.inl rfl) (pe_bm0 PySem.F.plainAttrs_list PySem.F.slot_list_pop PySem.F.type_list_pop mt_pop (pv 3)))
        (pss_one (ps_for PassesOwn.never rfl (pi_tup (pe_call GD hr1 rfl mD kD bD .nil pass0 (pa_cons (pe_nget (P := P) (w := w) (room_n hr) (pv 2) (pv 4) (fun _ _ => rfl)) pa_nil))) (pg_name (i := 5) sc_sheet_reached.nd rfl (Or.inl rfl))
          (pss_one (ps_for PassesOwn.never rfl (pi_items (pe_frz (pe_call GB hr1 rfl mB kB bB .nil pass0 (pa_cons (pe_nget (P := P) (w := w) (room_n hr) (pv 2) (pv 4) (fun _ _ => rfl)) (pa_cons (pv 5) pa_nil))))) (pg_two (K := K) (pg_name (i := 6) sc_sheet_reached.nd rfl (Or.inl rfl)) (pg_name (i := 7) sc_sheet_reached.nd rfl (Or.inl rfl)))
            (pss_cons (ps_set (i := 8) sc_sheet_reached.nd rfl (Or.inl rfl) (pe_op op_catA (pe_op op_catA (pe_slice sl_tupA (pv 4) po_none (po_some (pv 5))) (pe_tup (pa_cons (pv 6) pa_nil))) (pe_slice sl_tupA (pv 4) (po_some (pe_add (pv 5) pe_int)) po_none)))
            (pss_one (ps_if (pt_cmp (pc_nnotin (P := P) (w := w) (room_n hr) (pv 8) (pv 2)))
              (pss_cons (ps_nput (P := P) (w := w) (room_n hr) (pv 2) (pv 8) (pv 7) rfl)
              (pss_one (ps_expr (pe_bm PySem.F.plainAttrs_list PySem.F.slot_list_append PySem.F.type_list_append mt_append (pv 3) (pa_cons (pv 8) pa_nil))))) pss_nil)))))))))
      (pss_one (ps_ret (pv 2)))))), ?_⟩
    obtain ⟨⟨Cc, dx, az, ar, fs, h1, h2, h3, h4, h5, h6, h7, h8⟩, hL, hne, hrg, hn, hm⟩ := id S
    have hne' : rws L ≠ [] := fun z => hne (List.map_eq_nil_iff.mp z)
    refine ⟨by show 1 ≤ sizeLine; decide, fun t0 n0 => ?_⟩
    have s0 := same_new (o := .tup [V.non]) n0
    refine ⟨_, rfl, sh, Cc, dx, fs, _, rfl, s0 _ _ h1, h2, h3, h5, az, _, rfl, .inr (SqT.of (s0 _ _ h7)), ?_⟩
    refine rRep_one (k := (rowV sz).length) upd_same (by rw [rowV_len]; omega) fun b Hb sb eb => ?_
    rw [rowV_len, replicate_begin] at eb
    intro d nd
    have s1 := s0.trans (sb.trans (same_new (o := DkO P w d []) nd))
    refine ⟨_, rfl, _, rfl, sh, Cc, dx, fs, _, rfl, s1 _ _ h1, h2, h4, h6, b, kSt (begin_ sz.length), rfl, upd_same, keyAt_st (same_new nd _ _ eb), ?_⟩
    have s2 : Same H (upd (upd Hb d (DkO P w d [])) d (DkO P w d [(kSt (begin_ sz.length), b, V.ref ar)])) := fun c o e => by
      rw [upd_ne (ne_of_none ((s0.trans sb) _ _ e) nd)]
      exact s1 _ _ e
    refine ⟨_, rfl, by show 1 ≤ sizeLine; decide, fun wl nw => ?_⟩
    have s3 := same_new (o := .lst [V.ref b]) nw
    have s03 := s2.trans s3
    have hdH : H d = none := (s0.trans sb).free nd
    have hwH : H wl = none := s2.free nw
    have ndw : d ≠ wl := fun z => by
      rw [← z, upd_same] at nw
      cases nw
    have b0 : (upd (upd Hb d (DkO P w d [])) d (DkO P w d [(kSt (begin_ sz.length), b, V.ref ar)])) b = some (.tup (stV (begin_ sz.length))) := by
      rw [upd_ne (ne_of_none eb nd), upd_ne (ne_of_none eb nd)]
      exact eb
    have R0 : RStE P w .tup H (upd (upd (upd Hb d (DkO P w d [])) d (DkO P w d [(kSt (begin_ sz.length), b, V.ref ar)])) wl (.lst [V.ref b])) d wl L [(begin_ sz.length, b, ar)] [(b, begin_ sz.length)] ([begin_ sz.length], [begin_ sz.length]) := by
      refine ⟨s03, hdH, hwH, ndw, s3 _ _ upd_same, fun e he => ?_, rfl, upd_same, fun x hx => ?_, rfl⟩
      · rw [List.mem_singleton.mp he]
        refine ⟨s3 _ _ b0, ?_, ne_of_none h8 hwH⟩
        show _ = some (HO.tup (refs (fitL L (begin_ sz.length))))
        rw [fitL_begin]
        exact s03 _ _ h8
      · rw [List.mem_singleton.mp hx]
        exact s3 _ _ b0
    generalize (upd (upd (upd Hb d (DkO P w d [])) d (DkO P w d [(kSt (begin_ sz.length), b, V.ref ar)])) wl (.lst [V.ref b])) = Hs at R0 ⊢
    clear b0 s03 s3 nw s2 s1 nd eb sb n0 s0
    refine ⟨fun m σ H' => ∃ st E ws k x4 x5 x6 x7 x8, σ = [some (.ref sh), some (.ref b), some (.ref d), some (.ref wl), x4, x5, x6, x7, x8] ∧ RStE P w .tup H H' d wl L E ws st ∧ DInv sz.length (rws L) st ∧ Closed sz.length (rws L) st ∧ dfs sz.length (rws L) k st = reachP sz.length (rws L) ∧ mu sz.length (rws L) st ≤ k ∧ m = mu sz.length (rws L) st,
      ⟨_, ([begin_ sz.length], [begin_ sz.length]), _, _, 2 * most sz.length (rws L) + 1, none, none, none, none, none, rfl, R0, dinv_start _ _, closed_start _ _, rfl, mu_start _ _, rfl⟩, ?_⟩
    clear R0 Hs
    rintro m σ Hs ⟨st, E, ws, k, x4, x5, x6, x7, x8, rfl, R, Dv, Cl, hd, hk, rfl⟩
    refine ⟨_, rfl, Nat.zero_le _, fun t nt => ?_⟩
    have sl := same_new (o := .lst []) nt
    refine ⟨_, .list (([] : List Std).map stD), dpStsL (SqL.of (sl _ _ R.wo)) (fun x hx => sl _ _ (R.wn x hx)), .lst (SqL.of upd_same) .nil, stsL_shaped _, stsL_shaped _, ?_⟩
    rw [eqv_stsL, R.wk]
    refine ⟨_, rfl, ?_⟩
    have R1 := R.mono sl
    generalize upd Hs t (.lst []) = H1 at R1 ⊢
    obtain ⟨f1, w1⟩ := st
    induction ws using snoc_ind with
    | h0 =>
      have e0 : w1 = [] := R.wk.symm
      subst e0
      refine iteF ⟨_, rfl, ?_⟩
      refine q d E H1 hdH R1.same R1.ob ⟨.inl R1.ob, fun e he => ⟨(R1.en e he).1, (R1.en e he).2.1⟩⟩ ?_
      rw [R1.ek, ← hd, dfs_end]
    | h1 ws x _ =>
      have e0 : w1 = ws.map (·.2) ++ [x.2] := by
        have := R.wk
        rw [List.map_append] at this
        exact this.symm
      obtain ⟨xa, here⟩ := x
      have e0 : w1 = ws.map (·.2) ++ [here] := e0
      subst e0
      rw [decide_eq_false (by simp)]
      refine iteT ?_
      refine ⟨fun σ' H' => ∃ st E ws' k x4 x5 x6 x7 x8, σ' = [some (.ref sh), some (.ref b), some (.ref d), some (.ref wl), x4, x5, x6, x7, x8] ∧ RStE P w .tup H H' d wl L E ws' st ∧ DInv sz.length (rws L) st ∧ Closed sz.length (rws L) st ∧ dfs sz.length (rws L) k st = reachP sz.length (rws L) ∧ mu sz.length (rws L) st ≤ k ∧ mu sz.length (rws L) st < mu sz.length (rws L) (f1, ws.map (·.2) ++ [here]), fun σ' H' hh => ?_, ?_⟩
      · obtain ⟨st, E', ws', k, x4, x5, x6, x7, x8, a1, a2, a3, a4, a5, a6, a7⟩ := hh
        exact ⟨_, a7, st, E', ws', k, x4, x5, x6, x7, x8, a1, a2, a3, a4, a5, a6, rfl⟩
      -- one more is taken
      obtain ⟨w0, hw0⟩ : ∃ w0, w0 = ws.map (·.2) := ⟨_, rfl⟩
      obtain ⟨D0, hf⟩ := dinv_pop Dv
      have hre := Dv.re here hf
      have hlen : here.length = sz.length := hre.len
      have hxa : H1 xa = some (.tup (stV here)) := R1.wn (xa, here) (List.mem_append_right _ List.mem_cons_self)
      have dl : ((ws ++ [(xa, here)]).map fun x => V.ref x.1).dropLast = ws.map fun x => V.ref x.1 := by
        rw [List.map_append]
        exact List.dropLast_concat
      refine ⟨_, rfl, .inl ⟨rfl, _, SqL.of R1.wo⟩, wl, _, .ref xa, rfl, rfl, R1.wo, ?_, ?_⟩
      · rw [List.map_append]
        simp
      rw [dl]
      have R2 : RStE P w .tup H (upd H1 wl (.lst (ws.map fun x => .ref x.1))) d wl L E ws (f1, ws.map (·.2)) := RStE.pop (x := (xa, here)) R1 (fun _ _ z => nomatch z) rfl
      rw [← hw0] at R2 D0 Cl hd hk ⊢
      have hxa2 : (upd H1 wl (.lst (ws.map fun x => V.ref x.1))) xa = some (.tup (stV here)) := by
        rw [upd_ne (ne_of hxa R1.wo (fun z => nomatch z))]
        exact hxa
      generalize (upd H1 wl (.lst (ws.map fun x => V.ref x.1))) = H2 at R2 hxa2 ⊢
      obtain ⟨e1, m1, k1, v1⟩ := valE_some (E := E) (st := here) (by rw [R2.ek]; exact hf)
      obtain ⟨j1, j2, j3⟩ := R2.en e1 m1
      rw [k1] at j2
      have hLf : ∀ {Hx : Hp}, Same H Hx → AllAt Hx (fitL L here) := fun s => (hL.mono (.of_same s)).sub fun q hq => (List.mem_filter.mp hq).1
      have hfw : Wid sz.length (rws (fitL L here)) := by
        rw [rws_fit]
        exact hw.sub fun r hr => (mem_fit.mp hr).1
      have hfn : fitL L here ≠ [] := fun z => by
        obtain ⟨r, _, hr⟩ := hre.ne hne'
        rw [← rws_fit, z] at hr
        cases hr
      have hfl : (fitL L here).length ≤ 100 := Nat.le_trans (List.length_filter_le _ _) hm
      have er : rws (fitL L here) = fit (rws L) here := rws_fit L here
      refine ⟨_, rfl, _, rfl, d, xa, kSt here, _, _, rfl, rfl, R2.nd, keyAt_st hxa2, v1, ?_⟩
      refine ⟨e1.2.2, fitL L here, sz.length, rfl, .inr (SqT.of j2), hLf R2.same, hfn, hfw, by omega, hfl, fun pl H3 npl s3 epl => ?_⟩
      rw [er] at epl
      refine ⟨pl, rfl, ⟨_, SqT.of epl⟩, ?_⟩
      have hkid : ∀ p, p ∈ opn sz.length (fit (rws L) here) → ∀ a, a ∈ firsts (fit (rws L) here) p → Reached sz.length (rws L) (here.set p (some a)) := fun p hp a ha => by
        obtain ⟨r, hr', rfl⟩ := mem_firsts.mp ha
        exact hre.kid ⟨p, hp, r, hr', rfl⟩
      have hkids : ∀ l : List Nat, (∀ p, p ∈ l → p ∈ opn sz.length (fit (rws L) here)) → ∀ t, t ∈ (l.flatMap fun p => (firsts (fit (rws L) here) p).map fun a => here.set p (some a)) → Reached sz.length (rws L) t := fun l hl t ht => by
        obtain ⟨p, hp, ht⟩ := List.mem_flatMap.mp ht
        obtain ⟨a, ha, rfl⟩ := List.mem_map.mp ht
        exact hkid p (hl p hp) a ha
      have wp := walk_tup (K := K) (a := pl) (xs := intsV (opn sz.length (fit (rws L) here)))
      have ilen : (intsV (opn sz.length (fit (rws L) here))).length = (opn sz.length (fit (rws L) here)).length := List.length_map _
      refine for_it wp (fun i σ H' => ∃ E ws x5 x6 x7 x8, σ = [some (.ref sh), some (.ref b), some (.ref d), some (.ref wl), some (.ref xa), x5, x6, x7, x8] ∧ H' pl = some (.tup (intsV (opn sz.length (fit (rws L) here)))) ∧ H' xa = some (.tup (stV here)) ∧
          RStE P w .tup H H' d wl L E ws ((((opn sz.length (fit (rws L) here)).take i).flatMap fun p => (firsts (fit (rws L) here) p).map fun a => here.set p (some a)).foldl push (f1, w0)))
        ⟨E, ws, x5, x6, x7, x8, rfl, epl, s3 _ _ hxa2, R2.mono s3⟩ (fun i σ H' _ p => by obtain ⟨_, _, _, _, _, _, _, q1, _⟩ := p; exact SqT.of q1) ?_ ?_
      · rintro i x σ H4 _ hi ⟨E4, ws4, y5, y6, y7, y8, rfl, e4, exa, R4⟩ ⟨rfl, hx⟩
        obtain ⟨p, hp, rfl⟩ := intsV_get hx
        have hpm : p ∈ opn sz.length (fit (rws L) here) := List.mem_of_getElem? hp
        have hpn : p < sz.length := (mem_opn.mp hpm).1
        obtain ⟨o1, o2⟩ := open_untold hlen hpm
        have hti : ∀ q, q ∈ (opn sz.length (fit (rws L) here)).take i → q ∈ opn sz.length (fit (rws L) here) := fun q hq => List.mem_of_mem_take hq
        obtain ⟨Di, Pi, _⟩ := fold_pushed _ (f1, w0) D0 (hkids _ hti)
        have eti : (opn sz.length (fit (rws L) here)).take (i + 1) = (opn sz.length (fit (rws L) here)).take i ++ [p] := by rw [List.take_add_one, hp]; rfl
        rw [eti, List.flatMap_append, List.foldl_append, List.flatMap_cons, List.flatMap_nil, List.append_nil]
        generalize (((opn sz.length (fit (rws L) here)).take i).flatMap fun p => (firsts (fit (rws L) here) p).map fun a => here.set p (some a)).foldl push (f1, w0) = si at R4 Di Pi ⊢
        have hfi : here ∈ si.1 := Pi.sub _ hf
        obtain ⟨e2, m2, k2, v2⟩ := valE_some (E := E4) (st := here) (by rw [R4.ek]; exact hfi)
        obtain ⟨l1, l2, l3⟩ := R4.en e2 m2
        rw [k2] at l2
        refine ⟨_, rfl, _, rfl, d, xa, kSt here, _, _, rfl, rfl, R4.nd, keyAt_st exa, v2, ?_⟩
        refine ⟨_, rfl, e2.2.2, fitL L here, sz.length, p, rfl, l2, hLf R4.same, hfw, hpn, hfl, fun dd ts H5 ndd s5 by5 => ?_⟩
        obtain ⟨b1, b2, b3⟩ := by5
        rw [er] at b1
        refine ⟨dd, _, rfl, b2, True.intro, fun od => ?_⟩
        have hdd0 : H dd = none := R4.same.free ndd
        have bu : But dd H5 (upd H5 dd (.frz od (.dK (dkOf ts)))) := (But.refl dd H5).upd
        have R5 := (R4.mono s5).but bu b2 (fun _ z => nomatch z) (fun _ z => nomatch z) (fun _ z => nomatch z) (fun _ z => nomatch z) hdd0
        have p5 : (upd H5 dd (.frz od (.dK (dkOf ts)))) pl = some (.tup (intsV (opn sz.length (fit (rws L) here)))) := bu _ _ (s5 _ _ e4) (ne_of_none e4 ndd)
        have xa5 : (upd H5 dd (.frz od (.dK (dkOf ts)))) xa = some (.tup (stV here)) := bu _ _ (s5 _ _ exa) (ne_of_none exa ndd)
        have t5 : ∀ t, t ∈ ts → (upd H5 dd (.frz od (.dK (dkOf ts)))) t.2 = some (.tup (refs (partL (fitL L here) p t.1))) := fun t ht => bu _ _ (b3 t ht) (ne_of (b3 t ht) b2 (fun z => nomatch z))
        have d5 : (upd H5 dd (.frz od (.dK (dkOf ts)))) dd = some (.frz od (.dK (dkOf ts))) := upd_same
        generalize (upd H5 dd (.frz od (.dK (dkOf ts)))) = H6 at R5 p5 xa5 t5 d5 ⊢
        refine ⟨dd, od, dkOf ts, rfl, d5, ?_⟩
        have kl : (dkOf ts).length = ts.length := List.length_map _
        have tl : ts.length = (firsts (fit (rws L) here) p).length := by rw [← b1, List.length_map]
        refine for_it (n := ts.length) (by rw [← kl]; exact walk_items (d := dd) (o := od) (kvs := dkOf ts)) (fun j σ H' => ∃ E ws x6 x7 x8, σ = [some (.ref sh), some (.ref b), some (.ref d), some (.ref wl), some (.ref xa), some (.int p), x6, x7, x8] ∧ H' pl = some (.tup (intsV (opn sz.length (fit (rws L) here)))) ∧ H' xa = some (.tup (stV here)) ∧
            H' dd = some (.frz od (.dK (dkOf ts))) ∧ (∀ t, t ∈ ts → H' t.2 = some (.tup (refs (partL (fitL L here) p t.1)))) ∧ RStE P w .tup H H' d wl L E ws ((((firsts (fit (rws L) here) p).take j).map fun a => here.set p (some a)).foldl push si))
          ⟨E4, ws4, y6, y7, y8, rfl, p5, xa5, d5, t5, R5⟩ (fun j σ H' _ q => by obtain ⟨_, _, _, _, _, _, _, _, q1, _⟩ := q; exact q1) ?_ ?_
        · rintro j x σ H7 H8 hj ⟨E7, ws7, z6, z7, z8, rfl, p7, xa7, d7, t7, R7⟩ ⟨T, y, z, rfl, nT, rfl, hy, hz⟩
          have hkj : ts[j]? = some ts[j] := List.getElem?_eq_getElem hj
          have hkm : ts[j] ∈ ts := List.getElem_mem hj
          have hy : (dkOf ts)[j]?.map (fun kv => kV kv.1) = some y := hy
          have hz : (dkOf ts)[j]?.map Prod.snd = some z := hz
          have hd1 : (dkOf ts)[j]? = some (Sum.inl ts[j].1, V.ref ts[j].2) := by
            unfold dkOf
            rw [List.getElem?_map, hkj]
            rfl
          rw [hd1] at hy hz
          obtain rfl : y = .int ts[j].1 := (Option.some.inj hy).symm
          obtain rfl : z = .ref ts[j].2 := (Option.some.inj hz).symm
          have sT : Same H7 (upd H7 T (.tup [.int ts[j].1, .ref ts[j].2])) := same_new nT
          refine gTwo upd_same ?_
          have hfj : (firsts (fit (rws L) here) p)[j]? = some ts[j].1 := by
            rw [← b1, List.getElem?_map, hkj]
            rfl
          have ham : ts[j].1 ∈ firsts (fit (rws L) here) p := List.mem_of_getElem? hfj
          have etj : (firsts (fit (rws L) here) p).take (j + 1) = (firsts (fit (rws L) here) p).take j ++ [ts[j].1] := by rw [List.take_add_one, hfj]; rfl
          rw [etj, List.map_append, List.foldl_append]
          have Dj : DInv sz.length (rws L) ((((firsts (fit (rws L) here) p).take j).map fun a => here.set p (some a)).foldl push si) := (fold_pushed _ si Di fun t ht => by
            obtain ⟨a, ha, rfl⟩ := List.mem_map.mp ht
            exact hkid p hpm a (List.mem_of_mem_take ha)).1
          generalize ((((firsts (fit (rws L) here) p).take j).map fun a => here.set p (some a)).foldl push si) = sj at R7 Dj ⊢
          have hset : fitL L (here.set p (some ts[j].1)) = partL (fitL L here) p ts[j].1 := fitL_set o1 o2
          have hpt := t7 _ hkm
          generalize ts[j] = tj at hset hpt ham sT ⊢
          refine mid_of (i := 4) (j := 5) (m := 6) (k := p) rfl rfl rfl (sT _ _ xa7) (by rw [stV_len]; exact o1) (by rw [stV_len]; omega) fun c H9 s9 e9 => ?_
          rw [show V.int tj.1 = optV (some tj.1) from rfl, stV_set] at e9
          have s79 := sT.trans s9
          have R9 := R7.mono s79
          have p9 := s79 _ _ p7
          have xa9 := s79 _ _ xa7
          have d9 := s79 _ _ d7
          have t9 : ∀ t, t ∈ ts → H9 t.2 = some (.tup (refs (partL (fitL L here) p t.1))) := fun t ht => s79 _ _ (t7 t ht)
          refine ⟨_, rfl, _, rfl, d, c, kSt (here.set p (some tj.1)), E7.map entE, rfl, rfl, R9.nd, keyAt_st e9, _, rfl, ?_⟩
          by_cases hin : here.set p (some tj.1) ∈ sj.1
          · obtain ⟨e3, m3, k3, v3⟩ := valE_some (E := E7) (st := here.set p (some tj.1)) (by rw [R9.ek]; exact hin)
            rw [v3]
            exact iteF ⟨E7, ws7, _, _, _, rfl, p9, xa9, d9, t9, R9.none hin⟩
          · obtain ⟨vn, Rp⟩ := R9.put (fun _ _ z => nomatch z) hin e9 (a := tj.2) (by rw [hset]; exact s79 _ _ hpt) (ne_of (s79 _ _ hpt) R9.wo (fun z => nomatch z))
            rw [vn]
            have wo' : (upd H9 d (DkO P w d (putN (E7.map entE) (kSt (here.set p (some tj.1))) c (.ref tj.2)))) wl = some (.lst (ws7.map fun x => .ref x.1)) := by
              rw [upd_ne R9.ne.symm]
              exact R9.wo
            refine iteT ⟨_, rfl, _, rfl, _, rfl, d, c, _, _, rfl, rfl, R9.ob, R9.keys, keyAt_st e9, R9.len Dj hw hne hn hm, ?_⟩
            refine ⟨_, rfl, .inl ⟨rfl, _, SqL.of wo'⟩, _, rfl, wl, _, _, rfl, rfl, wo', R9.wlen Dj hw hne hn hm, ?_⟩
            have keep : ∀ c' u, H9 c' = some u → c' ≠ d → c' ≠ wl → (upd (upd H9 d (DkO P w d (putN (E7.map entE) (kSt (here.set p (some tj.1))) c (.ref tj.2)))) wl (.lst ((ws7.map fun x => .ref x.1) ++ [.ref c]))) c' = some u := fun c' u e n1 n2 => by
              rw [upd_ne n2, upd_ne n1]
              exact e
            have tup_ne : ∀ {c' xs}, H9 c' = some (.tup xs) → c' ≠ d ∧ c' ≠ wl := fun e => ⟨ne_of e R9.ob (fun z => by unfold DkO at z; cases z), ne_of e R9.wo (fun z => nomatch z)⟩
            exact ⟨_, _, _, _, _, rfl, keep _ _ p9 (tup_ne p9).1 (tup_ne p9).2, keep _ _ xa9 (tup_ne xa9).1 (tup_ne xa9).2, keep _ _ d9 (ne_of d9 R9.ob (fun z => by unfold DkO at z; cases z)) (ne_of d9 R9.wo (fun z => nomatch z)),
              fun t ht => keep _ _ (t9 t ht) (tup_ne (t9 t ht)).1 (tup_ne (t9 t ht)).2, Rp⟩
        · rintro σ H7 ⟨E7, ws7, z6, z7, z8, rfl, p7, xa7, d7, t7, R7⟩
          rw [tl, List.take_length] at R7
          exact ⟨E7, ws7, _, _, _, _, rfl, p7, xa7, R7⟩
      · rintro σ H4 ⟨E5, ws5, y5, y6, y7, y8, rfl, e4, e5, R5⟩
        rw [ilen, List.take_length] at R5
        obtain ⟨Da, Pa, Ka⟩ := fold_pushed (kidsP sz.length (rws L) here) (f1, w0) D0 fun u hu => hre.kid (mem_kidsP.mp hu)
        obtain ⟨Ca, ma⟩ := step_ok hw hne' Cl Da Pa fun u ku => Ka u (mem_kidsP.mpr ku)
        cases k with
        | zero => exact absurd hk (by omega)
        | succ k =>
          rw [dfs_step] at hd
          exact ⟨_, E5, ws5, k, _, _, _, _, _, rfl, R5, Da, Ca, hd, by show mu sz.length (rws L) ((kidsP sz.length (rws L) here).foldl push (f1, w0)) ≤ k; omega, ma⟩
end
end K71
set_option Elab.async false
set_option linter.all false
set_option maxRecDepth 100000
set_option maxHeartbeats 4000000
/-! k71: in, not in: a thing among the rows of a tuple. -/
namespace K71
open PySem PySem.Spec PyProof.Rows L2
section
variable {X : Cx}
def rInT (K : PySem.W.Frag) : R2 := fun x y H Q => ∃ d ds, Dp K H x d ∧ Dp K H y (.tuple ds) ∧ SeqAt.shaped d = true ∧ SeqAt.shaped (.tuple ds) = true ∧ Q (.bl (ds.any fun z => PyData.eqv z d)) H
def rNotInT (K : PySem.W.Frag) : R2 := fun x y H Q => ∃ d ds, Dp K H x d ∧ Dp K H y (.tuple ds) ∧ SeqAt.shaped d = true ∧ SeqAt.shaped (.tuple ds) = true ∧ Q (.bl (!ds.any fun z => PyData.eqv z d)) H
theorem op_inT (hu : X.A.units + 65 < cLine) : OpR X (compareOp .In) (rInT X.K) := by
  intro pins s σ H x y v u Q I rx ry h
  obtain ⟨d, ds, hd, he, sd, se, q⟩ := h
  obtain ⟨as, r1⟩ := Dp.reads I d x v hd rx
  obtain ⟨bs, r2⟩ := Dp.reads I (.tuple ds) y u he ry
  exact SeqAt.in_tuple_reads r2 r1 (SeqAt.canLay_of_shaped se) (SeqAt.canLay_of_shaped sd) (room_in_shaped sd hu) ⟨.bl _, H, I, rfl, q⟩
theorem op_notInT (hu : X.A.units + 65 < cLine) : OpR X (compareOp .NotIn) (rNotInT X.K) := by
  intro pins s σ H x y v u Q I rx ry h
  obtain ⟨d, ds, hd, he, sd, se, q⟩ := h
  obtain ⟨as, r1⟩ := Dp.reads I d x v hd rx
  obtain ⟨bs, r2⟩ := Dp.reads I (.tuple ds) y u he ry
  exact SeqAt.notIn_tuple_reads r2 r1 (SeqAt.canLay_of_shaped se) (SeqAt.canLay_of_shaped sd) (room_in_shaped sd hu) ⟨.bl _, H, I, rfl, q⟩
theorem room65 {k : Nat} {A : Around} (r : Room k A) : A.units + 65 < cLine := by
  have := r.un
  omega
end
end K71
set_option Elab.async false
set_option linter.all false
set_option maxRecDepth 100000
set_option maxHeartbeats 4000000
namespace K71
open PySem PySem.Spec PyProof.Rows L2
theorem rCat_new {K : PySem.W.Frag} {H : Hp} {a b : Addr} {xs ys : List V} {Q : VK} (ha : H a = some (.tup xs)) (hb : H b = some (.tup ys)) (hx : xs ≠ []) (hy : ys ≠ []) (hl : xs.length + ys.length ≤ 10000) (q : ∀ p, H p = none → Q (.ref p) (upd H p (.tup (xs ++ ys)))) : rCatA K (.ref a) (.ref b) H Q :=
  ⟨a, b, xs, ys, rfl, rfl, SqT.of ha, SqT.of hb, Nat.le_trans hl (by decide), fun e => absurd e hx, fun _ e => absurd e hy, fun _ _ p hp => q p hp⟩
def looseF (n : Nat) (L : RL) : Option (Std × (Addr × Row) × Nat × Nat) := (reachP n (rws L)).findSome? fun st => (looseAtF n (fitL L st)).map fun t => (st, t)
theorem findSome_at {α β : Type} {f : α → Option β} : ∀ {l : List α} {i : Nat} {x : α} {b : β}, l[i]? = some x → (∀ y, y ∈ l.take i → f y = none) → f x = some b → l.findSome? f = some b
  | [], _, _, _, h, _, _ => by cases h
  | y :: l, 0, x, b, h, _, hb => by
    have : y = x := Option.some.inj h
    rw [List.findSome?_cons, this, hb]
  | y :: l, i + 1, x, b, h, hn, hb => by
    rw [List.findSome?_cons, hn y (by rw [List.take_succ_cons]; exact List.mem_cons_self)]
    exact findSome_at (by simpa using h) (fun z hz => hn z (by rw [List.take_succ_cons]; exact List.mem_cons_of_mem _ hz)) hb
theorem looseB_at {n : Nat} {L : RL} {r : Row} {p q : Nat} : looseB n L r p q = true ↔ p ≠ q ∧ opnAt (part (rws L) p r) q = false ∧ opnAt (part (rws L) q r) p = true := by
  unfold looseB
  rw [Bool.and_eq_true, Bool.and_eq_true, bne_iff_ne, Bool.not_eq_true']
  constructor
  · rintro ⟨⟨a, b⟩, c⟩; exact ⟨a, b, c⟩
  · rintro ⟨a, b, c⟩; exact ⟨⟨a, b⟩, c⟩
theorem looseF_some {n : Nat} {L : RL} (hw : Wid n (rws L)) (hne : L ≠ []) {st : Std} {t : (Addr × Row) × Nat × Nat} (h : looseF n L = some (st, t)) : Reached n (rws L) st ∧ t.1 ∈ fitL L st ∧ LooseAt n (fit (rws L) st) t.1.2 t.2.1 t.2.2 := by
  unfold looseF at h
  obtain ⟨x, hx, e⟩ := List.exists_of_findSome?_eq_some h
  obtain ⟨t', ht, e⟩ := Option.map_eq_some_iff.mp e
  cases e
  have hr := (mem_reachP hw (fun z => hne (List.map_eq_nil_iff.mp z))).mp hx
  unfold looseAtF at ht
  have hb := List.find?_some ht
  have hm := List.mem_of_find?_eq_some ht
  unfold triples at hm
  obtain ⟨r, hr', hm⟩ := List.mem_flatMap.mp hm
  obtain ⟨p, hp, hm⟩ := List.mem_flatMap.mp hm
  obtain ⟨q, hq, rfl⟩ := List.mem_map.mp hm
  obtain ⟨b1, b2, b3⟩ := looseB_at.mp hb
  rw [rws_fit] at hp hq b2 b3
  refine ⟨hr, hr', ?_, hp, hq, b1, b2, b3⟩
  rw [← rws_fit]
  exact mem_rws hr'
theorem looseF_none {n : Nat} {L : RL} (hw : Wid n (rws L)) (hne : L ≠ []) (h : looseF n L = none) {st : Std} {r : Row} {p q : Nat} (hr : Reached n (rws L) st) : ¬ LooseAt n (fit (rws L) st) r p q := by
  intro hl
  unfold looseF at h
  have h1 := List.findSome?_eq_none_iff.mp h st ((mem_reachP hw (fun z => hne (List.map_eq_nil_iff.mp z))).mpr hr)
  have h2 : looseAtF n (fitL L st) = none := Option.map_eq_none_iff.mp h1
  unfold looseAtF at h2
  obtain ⟨l1, l2, l3, l4, l5, l6⟩ := hl
  rw [← rws_fit] at l1 l2 l3 l5 l6
  obtain ⟨x, hx, rfl⟩ := List.mem_map.mp l1
  have := List.find?_eq_none.mp h2 (x, p, q) (by
    unfold triples
    exact List.mem_flatMap.mpr ⟨x, hx, List.mem_flatMap.mpr ⟨p, l2, List.mem_map.mpr ⟨q, l3, rfl⟩⟩⟩)
  exact this (looseB_at.mpr ⟨l4, l5, l6⟩)
/-- loose tells nothing just if for each row both counts are the same -/
theorem looseF_unlike {n : Nat} {L : RL} (hw : Wid n (rws L)) (hne : L ≠ []) : (looseF n L).isSome = true ↔ ∃ r, r ∈ rws L ∧ (cnt n (rws L) r).1 ≠ (cnt n (rws L) r).2 := by
  rw [unlike_reached]
  cases h : looseF n L with
  | none =>
    constructor
    · intro z; cases z
    · rintro ⟨st, r, p, q, h1, h2⟩
      exact absurd h2 (looseF_none hw hne h h1)
  | some x =>
    obtain ⟨st, t⟩ := x
    obtain ⟨h1, _, h2⟩ := looseF_some hw hne h
    exact ⟨fun _ => ⟨st, t.1.2, t.2.1, t.2.2, h1, h2⟩, fun _ => rfl⟩
section
variable {P : Program} {w : World} {K : PySem.W.Frag} {mg : Str → Option Value} {base : Heap}
/-! ### loose -/
def spLoose (K : PySem.W.Frag) : Sp := fun vs H Q _ => ∃ (s : Addr) (sz : Row) (L : RL), vs = [.ref s] ∧ SheetAt K H s sz L ∧
  (looseF sz.length L = none → ∀ H', Same H H' → Q .non H') ∧
  (∀ st t, looseF sz.length L = some (st, t) → ∀ x b H', H x = none → Same H H' → H' b = some (.tup (stV st)) → H' x = some (.tup [.ref b, .ref t.1.1, .int t.2.1, .int t.2.2]) → Q (.ref x) H')
theorem k_loose (B : Bi mg) (D : Placed K mg "loose" s_loose p_loose) (CR : Kept P w K mg base CX0 2 "sheet_reached" p_sheet_reached (spReached P w K)) (CL : Kept P w K mg base CX0 3 "loose_at" p_loose_at (spLooseAt K)) :
    Kept P w K mg base CX0 4 "loose" p_loose (spLoose K) := by
  obtain ⟨fR, fdR, GR, mR, kR, bR⟩ := CR
  obtain ⟨fL, fdL, GL, mL, kL, bL⟩ := CL
  refine D.keep fun f fd F => F.ok sc_loose (fun vs H Q E h => ?_) (fun cdv A outer s H vs Q E hr h => ?_)
  · obtain ⟨s, sz, L, rfl, _⟩ := h
    rfl
  · obtain ⟨sh, sz, L, rfl, S, q0, q1⟩ := h
    have hr2 : Room 2 _ := hr.mono (by decide)
    have hr3 : Room 3 _ := hr.mono (by decide)
    have hw := S.wid
    refine ⟨_, pss_cons (ps_set (i := 1) sc_loose.nd rfl (Or.inl rfl) (pe_call GR hr2 rfl mR kR bR .nil pass0 (pa_cons (pv 0) pa_nil)))
      (pss_cons (ps_for PassesOwn.never rfl (pi_nitems (P := P) (w := w) (pe_frz (pv 1))) (pg_two (K := K) (pg_name (i := 2) sc_loose.nd rfl (Or.inl rfl)) (pg_name (i := 3) sc_loose.nd rfl (Or.inl rfl)))
        (pss_cons (ps_set (i := 4) sc_loose.nd rfl (Or.inl rfl) (pe_call GL hr3 rfl mL kL bL .nil pass0 (pa_cons (pv 3) pa_nil)))
        (pss_one (ps_if (pt_cmpR op_notN (pv 4) pe_non (nomark _)) (pss_one (ps_ret (pe_op op_catA (pe_tup (pa_cons (pv 2) pa_nil)) (pv 4)))) pss_nil))))
      (pss_one (ps_ret pe_non))), ?_⟩
    refine ⟨_, rfl, sh, sz, L, rfl, S, fun d E H1 nd s1 ho RD ek => ?_⟩
    have hne := S.ne
    have hL := S.all
    have hm := S.many
    have hn := S.few
    refine ⟨_, rfl, d, _, rfl, ho, True.intro, fun od => ?_⟩
    have bu : But d H1 (upd H1 d (.frz od (DkO P w d (E.map entE)))) := (But.refl d H1).upd
    have s2 : Same H (upd H1 d (.frz od (DkO P w d (E.map entE)))) := fun c o e => bu _ _ (s1 _ _ e) (ne_of_none e nd)
    have en2 : ∀ e, e ∈ E → (upd H1 d (.frz od (DkO P w d (E.map entE)))) e.2.1 = some (.tup (stV e.1)) ∧ (upd H1 d (.frz od (DkO P w d (E.map entE)))) e.2.2 = some (.tup (refs (fitL L e.1))) := fun e he =>
      ⟨bu _ _ (RD.en e he).1 (ne_of (RD.en e he).1 ho (fun z => by unfold DkO at z; cases z)), bu _ _ (RD.en e he).2 (ne_of (RD.en e he).2 ho (fun z => by unfold DkO at z; cases z))⟩
    have d2 : (upd H1 d (.frz od (DkO P w d (E.map entE)))) d = some (.frz od (DkO P w d (E.map entE))) := upd_same
    generalize (upd H1 d (.frz od (DkO P w d (E.map entE)))) = H2 at s2 en2 d2 ⊢
    refine ⟨d, od, E.map entE, rfl, d2, ?_⟩
    have el : (E.map entE).length = (reachP sz.length (rws L)).length := by rw [← ek, List.length_map, List.length_map]
    refine for_it (walk_nitems (P := P) (w := w) (d := d) (o := od) (xs := E.map entE)) (fun i σ H' => Same H2 H' ∧ (∃ x2 x3 x4, σ = [some (.ref sh), some (.ref d), x2, x3, x4]) ∧ ∀ st, st ∈ (reachP sz.length (rws L)).take i → looseAtF sz.length (fitL L st) = none)
      ⟨Same.refl _, ⟨none, none, none, rfl⟩, fun st hs => nomatch hs⟩ (fun i σ H' _ p => p.1 _ _ d2) ?_ ?_
    · rintro i x σ H3 H4 hi ⟨s3, ⟨x2, x3, x4, rfl⟩, ok⟩ ⟨T, e0, he0, rfl, nT, rfl⟩
      rw [List.getElem?_map] at he0
      obtain ⟨e, he, rfl⟩ := Option.map_eq_some_iff.mp he0
      have hem : e ∈ E := List.mem_of_getElem? he
      have sT : Same H3 (upd H3 T (.tup [.ref (entE e).2.1, (entE e).2.2])) := same_new nT
      have s4 := s3.trans sT
      obtain ⟨j1, j2⟩ := en2 e hem
      have hst : (reachP sz.length (rws L))[i]? = some e.1 := by rw [← ek, List.getElem?_map, he]; rfl
      have hre : Reached sz.length (rws L) e.1 := (mem_reachP hw (fun z => hne (List.map_eq_nil_iff.mp z))).mp (List.mem_of_getElem? hst)
      refine gTwo upd_same ?_
      have er : rws (fitL L e.1) = fit (rws L) e.1 := rws_fit L e.1
      refine ⟨_, rfl, e.2.2, fitL L e.1, sz.length, rfl, s4 _ _ j2, (hL.mono (.of_same (s2.trans s4))).sub fun q hq => (List.mem_filter.mp hq).1, ?_, ?_, by omega, Nat.le_trans (List.length_filter_le _ _) hm, fun hno H5 s5 => ?_, fun t ht y H5 ny s5 ey => ?_⟩
      · intro z
        obtain ⟨r, _, hr⟩ := hre.ne (fun z => hne (List.map_eq_nil_iff.mp z))
        rw [← rws_fit, z] at hr
        cases hr
      · rw [er]
        exact hw.sub fun r hr => (mem_fit.mp hr).1
      · refine ⟨_, rfl, rfl, _, rfl, ?_⟩
        exact iteF ⟨s4.trans s5, ⟨_, _, _, rfl⟩, fun st hs => (take_mem hst hs).elim (ok st) fun z => by rw [z]; exact hno⟩
      · refine ⟨_, rfl, rfl, _, rfl, ?_⟩
        refine iteT ⟨_, rfl, by show 1 ≤ sizeLine; decide, fun u nu => ⟨_, rfl, ?_⟩⟩
        have su := same_new (o := .tup [V.ref e.2.1]) nu
        refine rCat_new upd_same (su _ _ ey) (fun z => nomatch z) (fun z => nomatch z) (by show 1 + 3 ≤ _; decide) fun z nz => ?_
        have s6 := same_new (o := .tup ([V.ref e.2.1] ++ [.ref t.1.1, .int t.2.1, .int t.2.2])) nz
        have s6' := (s2.trans s4).trans (s5.trans (su.trans s6))
        refine q1 e.1 t ?_ z e.2.1 _ ((s2.trans s4).trans (s5.trans su) |>.free nz) s6' (s6 _ _ (su _ _ (s5 _ _ (s4 _ _ j1)))) upd_same
        · unfold looseF
          refine findSome_at hst (fun y hy => ?_) ?_
          · rw [ok y hy]
            rfl
          · rw [ht]
            rfl
    · rintro σ H3 ⟨s3, ⟨x2, x3, x4, rfl⟩, ok⟩
      rw [el, List.take_length] at ok
      refine q0 ?_ _ (s2.trans s3)
      unfold looseF
      rw [List.findSome?_eq_none_iff]
      intro st hs
      rw [ok st hs]
      rfl
end
end K71
set_option Elab.async false
set_option linter.all false
set_option maxRecDepth 100000
set_option maxHeartbeats 4000000
namespace K71
open PySem PySem.Spec PyProof.Rows L2
section
variable {X : Cx} {K : PySem.W.Frag}
theorem pg_four {a b c d : Expr} {k : Nat} {pos : Pos} {g1 g2 g3 g4 : TG} (h1 : PG X a g1) (h2 : PG X b g2) (h3 : PG X c g3) (h4 : PG X d g4) (hc : X.calm = true := by rfl) (h : X.K = K := by rfl) (e1 : (assignEach [a, b, c, d] X.env).map (·.2) = assign a X.env :: (assignEach [b, c, d] X.env).map (·.2) := by rfl)
    (e2 : (assignEach [b, c, d] X.env).map (·.2) = assign b X.env :: (assignEach [c, d] X.env).map (·.2) := by rfl) (e3 : (assignEach [c, d] X.env).map (·.2) = assign c X.env :: (assignEach [d] X.env).map (·.2) := by rfl)
    (e4 : (assignEach [d] X.env).map (·.2) = assign d X.env :: (assignEach [] X.env).map (·.2) := by rfl) (e5 : (assignEach [a, b, c, d] X.env).length = 4 := by rfl) (e6 : (assignEach [a, b, c, d] X.env).findIdx? (·.1) = none := by rfl) :
    PG X (.Tuple [a, b, c, d] k pos) (gTup K 4 (gCons g1 (gCons g2 (gCons g3 (gCons g4 gNil))))) := h ▸ pg_tup hc (pgs_cons h1 (pgs_cons h2 (pgs_cons h3 (pgs_cons h4 pgs_nil e4) e3) e2) e1) e5 e6
end
section
variable {P : Program} {w : World} {K : PySem.W.Frag} {mg : Str → Option Value} {base : Heap}
theorem isAns_row {sz r : Row} (h : InR sz r) : isAns (rowV r) sz = true := by
  unfold isAns
  rw [rowV_len, decide_eq_true h.1, Bool.true_and, List.all_eq_true]
  intro i hi
  have hi' := List.mem_range.mp hi
  obtain ⟨b1, b2⟩ := h.2 i hi'
  rw [List.getD_eq_getElem?_getD, rowV_get (by rw [h.1]; exact hi')]
  show (decide (0 ≤ ans r i) && decide (ans r i < ans sz i)) = true
  rw [decide_eq_true b1, decide_eq_true b2]
  rfl
/-! ### is_loose, of what is loose -/
def spIsLoose (K : PySem.W.Frag) : Sp := fun vs H Q _ => ∃ (s x b r : Addr) (sz : Row) (L : RL) (st : Std) (row : Row) (p q : Nat), vs = [.ref s, .ref x] ∧ SheetAt K H s sz L ∧ H x = some (.tup [.ref b, .ref r, .int p, .int q]) ∧ H b = some (.tup (stV st)) ∧ H r = some (.tup (rowV row)) ∧
  Reached sz.length (rws L) st ∧ LooseAt sz.length (fit (rws L) st) row p q ∧ ∀ H', Same H H' → Q (.bl true) H'
theorem k_is_loose (B : Bi mg) (D : Placed K mg "is_loose" s_is_loose p_is_loose) (CD : Kept P w K mg base CX0 1 "differing" p_differing (spDiff K)) (CA : Kept P w K mg base CX0 2 "is_answers" p_is_answers (spIsAns K)) (CR : Kept P w K mg base CX0 2 "sheet_reached" p_sheet_reached (spReached P w K))
    (CS : Kept P w K mg base CX0 3 "is_sheet_standing" p_is_sheet_standing (spIsSt K)) (CP : Kept P w K mg base CX0 2 "is_sheet_place" p_is_sheet_place (spIsPl K)) (CH : Kept P w K mg base CX0 2 "hangs" p_hangs (spHangs K)) :
    Kept P w K mg base CX0 4 "is_loose" p_is_loose (spIsLoose K) := by
  obtain ⟨fD, fdD, GD, mD, kD, bD⟩ := CD
  obtain ⟨fA, fdA, GA, mA, kA, bA⟩ := CA
  obtain ⟨fR, fdR, GR, mR, kR, bR⟩ := CR
  obtain ⟨fS, fdS, GS, mS, kS, bS⟩ := CS
  obtain ⟨fP, fdP, GP, mP, kP, bP⟩ := CP
  obtain ⟨fH, fdH, GH, mH, kH, bH⟩ := CH
  refine D.keep fun f fd F => F.ok sc_is_loose (fun vs H Q E h => ?_) (fun cdv A outer s H vs Q E hr h => ?_)
  · obtain ⟨s, x, b, r, sz, L, st, row, p, q, rfl, _⟩ := h
    rfl
  · obtain ⟨sh, x, b, r, sz, L, st, row, p, q, rfl, S, hx, hb, hr', hre, hlo, qq⟩ := h
    have hr1 : Room 1 _ := hr.mono (by decide)
    have hr2 : Room 2 _ := hr.mono (by decide)
    have hr3 : Room 3 _ := hr.mono (by decide)
    have hw := S.wid
    refine ⟨_, pss_cons (ps_if (PW.pt (pw_or (pt_not (pt_val (pe_callB callIsi (by rfl) B.isi boot_isinstance (pa_cons (pv 1) (pa_cons (pe_bltn (v := .ty "tuple") (by rfl) B.tuple PyProof.Rows.boot_tuple rfl) pa_nil)))))
        (pw_or (pt_cmpR op_ne (pe_callB callLen (by rfl) B.len PySem.boot_len (pa_cons (pv 1) pa_nil)) pe_int (nomark _)) (pw_or1 (pt_not (pt_val (pe_call GS hr3 rfl mS kS bS .nil pass0 (pa_cons (pv 0) (pa_cons (pe_ix ix_tup (pv 1) pe_int (fun _ _ => rfl)) pa_nil)))))))))
        (pss_one (ps_ret pe_bl)) pss_nil)
      (pss_cons (ps_asg (pv 1) (pg_four (K := K) (pg_name (i := 2) sc_is_loose.nd rfl (Or.inl rfl)) (pg_name (i := 3) sc_is_loose.nd rfl (Or.inl rfl)) (pg_name (i := 4) sc_is_loose.nd rfl (Or.inl rfl)) (pg_name (i := 5) sc_is_loose.nd rfl (Or.inl rfl))))
      (pss_cons (ps_set (i := 6) sc_is_loose.nd rfl (Or.inl rfl) (pe_call GR hr2 rfl mR kR bR .nil pass0 (pa_cons (pv 0) pa_nil)))
      (pss_cons (ps_if (PW.pt (pw_or (pt_cmp (pc_nnotin (P := P) (w := w) (room_n hr) (pv 2) (pv 6))) (pw_or (pt_not (pt_val (pe_call GA hr2 rfl mA kA bA .nil pass0 (pa_cons (pv 3) (pa_cons (pe_fld (pv 0) rfl) pa_nil)))))
          (pw_or1 (pt_cmpR (op_notInT (room65 hr)) (pv 3) (pe_nget (P := P) (w := w) (room_n hr) (pv 6) (pv 2) (fun _ _ => rfl)) rfl)))))
        (pss_one (ps_ret pe_bl)) pss_nil)
      (pss_cons (ps_if (PW.pt (pw_or (pt_not (pt_val (pe_call GP hr2 rfl mP kP bP .nil pass0 (pa_cons (pv 0) (pa_cons (pv 4) pa_nil))))) (pw_or (pt_not (pt_val (pe_call GP hr2 rfl mP kP bP .nil pass0 (pa_cons (pv 0) (pa_cons (pv 5) pa_nil)))))
          (pw_or1 (pt_cmpR op_eq (pv 4) (pv 5) (nomark _))))))
        (pss_one (ps_ret pe_bl)) pss_nil)
      (pss_cons (ps_set (i := 7) sc_is_loose.nd rfl (Or.inl rfl) (pe_nget (P := P) (w := w) (room_n hr) (pv 6) (pv 2) (fun _ _ => rfl)))
      (pss_cons (ps_set (i := 8) sc_is_loose.nd rfl (Or.inl rfl) (pe_call GD hr1 rfl mD kD bD .nil pass0 (pa_cons (pv 7) pa_nil)))
      (pss_one (ps_ret (pe_and (pe_cmpR op_in_seq (pv 4) (pv 8) rfl) (pe_and (pe_cmpR op_in_seq (pv 5) (pv 8) rfl) (pe_and (pe_call GH hr2 rfl mH kH bH .nil pass0 (pa_cons (pv 7) (pa_cons (pv 3) (pa_cons (pv 5) (pa_cons (pv 4) pa_nil)))))
        (pe_one (pe_not (pe_call GH hr2 rfl mH kH bH .nil pass0 (pa_cons (pv 7) (pa_cons (pv 3) (pa_cons (pv 4) (pa_cons (pv 5) pa_nil)))))))))))))))))), ?_⟩
    obtain ⟨⟨Cc, dx, az, ar, fs, h1, h2, h3, h4, h5, h6, h7, h8⟩, hL, hne, hrg, hn, hm⟩ := id S
    obtain ⟨o1, o2, o3, o4, o5, o6⟩ := hlo
    have hrm : row ∈ rws L := (mem_fit.mp o1).1
    have hir := hrg row hrm
    have hpn := (mem_opn.mp o2).1
    have hqn := (mem_opn.mp o3).1
    have er : rws (fitL L st) = fit (rws L) st := rws_fit L st
    have hfn : fitL L st ≠ [] := fun z => by
      rw [← er, z] at o1
      cases o1
    have hfw : Wid sz.length (rws (fitL L st)) := by
      rw [er]
      exact hw.sub fun r hr => (mem_fit.mp hr).1
    have hfl : (fitL L st).length ≤ 100 := Nat.le_trans (List.length_filter_le _ _) hm
    refine ⟨.ref x, rfl, .ref x, .ty "tuple", .type "tuple", .type "tuple", true, rfl, .ty _, tyTup hx, kitTT, true, rfl, ?_⟩
    refine ⟨_, rfl, x, _, rfl, .inr (SqT.of hx), rfl, _, rfl, ?_⟩
    refine ⟨_, rfl, _, rfl, rIxT_of hx rfl ⟨sh, b, sz, L, st, rfl, S, hb, hre.len, hfn, fun H1 s1 => ⟨_, rfl, ?_⟩⟩⟩
    refine iteF ?_
    refine ⟨_, rfl, x, _, rfl, SqT.of (s1 _ _ hx), rfl, _, _, rfl, _, _, rfl, _, _, rfl, _, _, rfl, rfl, ?_⟩
    refine ⟨_, rfl, sh, sz, L, rfl, S.mono s1, fun d E H2 nd s2 ho RD ek => ?_⟩
    have s02 := s1.trans s2
    have hin : st ∈ E.map (·.1) := by
      rw [ek]
      exact (mem_reachP hw (fun z => hne (List.map_eq_nil_iff.mp z))).mpr hre
    obtain ⟨e1, m1, k1, v1⟩ := valE_some hin
    obtain ⟨j1, j2⟩ := RD.en e1 m1
    rw [k1] at j2
    refine ⟨_, rfl, _, rfl, d, b, kSt st, _, rfl, rfl, RD.nd, keyAt_st (s02 _ _ hb), _, rfl, ?_⟩
    rw [v1]
    refine iteF ?_
    refine ⟨_, rfl, _, rfl, sh, Cc, dx, fs, _, rfl, s02 _ _ h1, h2, h3, h5, .ref r, az, sz, isAns (rowV row) sz, rfl, s02 _ _ h7, by omega, .tup (s02 _ _ hr') (by rw [rowV_len, hir.1]; omega) (fun y hy => ?_), fun H3 s3 => ⟨_, rfl, ?_⟩⟩
    · obtain ⟨i, _, rfl⟩ := List.mem_map.mp hy
      exact .inl ⟨i, rfl⟩
    rw [isAns_row hir]
    refine iteF ?_
    have s03 := s02.trans s3
    have RD3 : RDict P w .tup H3 d L E := ⟨.inl (s3 _ _ ho), fun e he => ⟨s3 _ _ (RD.en e he).1, s3 _ _ (RD.en e he).2⟩⟩
    have hL3 : ∀ {Hx : Hp}, Same H Hx → AllAt Hx (fitL L st) := fun s => (hL.mono (.of_same s)).sub fun q hq => (List.mem_filter.mp hq).1
    refine ⟨_, rfl, _, rfl, _, rfl, d, b, kSt st, _, _, rfl, rfl, RD3.nd, keyAt_st (s03 _ _ hb), v1, ?_⟩
    refine ⟨rowD row, rowsD (rws (fitL L st)), dpRow (s03 _ _ hr'), dpRowsT (s3 _ _ j2) (hL3 s03), row_shaped _, rowsT_shaped _, ?_⟩
    rw [any_rows]
    have hc : (rws (fitL L st)).contains row = true := List.contains_iff_mem.mpr (by rw [er]; exact o1)
    rw [hc]
    refine ⟨_, rfl, ?_⟩
    refine iteF ?_
    refine ⟨_, rfl, _, rfl, sh, sz, L, p, rfl, S.mono s03, hpn, fun H4 s4 => ⟨_, rfl, ?_⟩⟩
    refine iteF ?_
    have s04 := s03.trans s4
    refine ⟨_, rfl, _, rfl, sh, sz, L, q, rfl, S.mono s04, hqn, fun H5 s5 => ⟨_, rfl, ?_⟩⟩
    refine iteF ?_
    have s05 := s04.trans s5
    refine ⟨_, rfl, _, rfl, rfl, _, rfl, ?_⟩
    have ed : decide (V.int (p : Int) = V.int (q : Int)) = false := decide_eq_false (fun z => o4 (by injection z with z; omega))
    rw [ed]
    refine iteF ?_
    have s35 := s3.trans (s4.trans s5)
    have RD5 : RDict P w .tup H5 d L E := ⟨.inl (s35 _ _ ho), fun e he => ⟨s35 _ _ (RD.en e he).1, s35 _ _ (RD.en e he).2⟩⟩
    refine ⟨_, rfl, _, rfl, d, b, kSt st, _, _, rfl, rfl, RD5.nd, keyAt_st (s05 _ _ hb), v1, ?_⟩
    refine ⟨_, rfl, e1.2.2, fitL L st, sz.length, rfl, .inr (SqT.of (s35 _ _ j2)), hL3 s05, hfn, hfw, by omega, hfl, fun pl H6 npl s6 epl => ?_⟩
    rw [er] at epl
    have s06 := s05.trans s6
    refine ⟨_, rfl, _, rfl, pl, _, rfl, .inr (SqT.of epl), rfl, flat_ints _, ?_⟩
    rw [if_neg Bool.false_ne_true, inV_ints, contains_opn hpn, (mem_opn.mp o2).2]
    refine ⟨true, rfl, ?_⟩
    refine ⟨_, rfl, _, rfl, pl, _, rfl, .inr (SqT.of epl), rfl, flat_ints _, ?_⟩
    rw [if_neg Bool.false_ne_true, inV_ints, contains_opn hqn, (mem_opn.mp o3).2]
    refine ⟨true, rfl, ?_⟩
    have s36 := s35.trans s6
    refine ⟨_, rfl, _, rfl, _, rfl, _, rfl, e1.2.2, r, fitL L st, sz.length, q, p, row, rfl, s36 _ _ j2, hL3 s06, s06 _ _ hr', by rw [er]; exact o1, hfw, by omega, hfl, hqn, hpn, fun H7 s7 => ?_⟩
    rw [er, o5]
    refine ⟨true, rfl, ?_⟩
    have s37 := s36.trans s7
    have s07 := s06.trans s7
    refine ⟨_, rfl, _, rfl, _, rfl, _, rfl, e1.2.2, r, fitL L st, sz.length, p, q, row, rfl, s37 _ _ j2, hL3 s07, s07 _ _ hr', by rw [er]; exact o1, hfw, by omega, hfl, hpn, hqn, fun H8 s8 => ?_⟩
    rw [er, o6]
    exact ⟨false, rfl, qq _ (s07.trans s8)⟩
end
end K71
set_option Elab.async false
set_option linter.all false
set_option maxRecDepth 100000
set_option maxHeartbeats 4000000
/-! k71: what is known of counts. -/
namespace K71
open PySem PySem.Spec PyProof.Rows L2
def cntRow (n : Nat) (rs : List Row) (r : Row) : Row := [(cnt n rs r).1, (cnt n rs r).2]
def cost : Nat → Nat
  | 0 => 0
  | j + 1 => 2 + 6 * cost j
theorem putN_mem {xs : List NE} {k : NestedKey} {b : Addr} {v : V} {x : NE} (h : x ∈ putN xs k b v) : (x ∈ xs ∧ x.1 ≠ k) ∨ (x.1 = k ∧ x.2.2 = v ∧ (x.2.1 = b ∨ ∃ y, y ∈ xs ∧ y.1 = k ∧ y.2.1 = x.2.1)) := by
  unfold putN at h
  cases c : (valN xs k).isSome with
  | true =>
    rw [c] at h
    have h : x ∈ xs.map _ := h
    obtain ⟨y, hy, rfl⟩ := List.mem_map.mp h
    by_cases e : y.1 = k
    · rw [if_pos e]
      exact .inr ⟨e, rfl, .inr ⟨y, hy, e, rfl⟩⟩
    · rw [if_neg e]
      exact .inl ⟨hy, e⟩
  | false =>
    rw [c] at h
    have h : x ∈ xs ++ _ := h
    rcases List.mem_append.mp h with hx | hx
    · refine .inl ⟨hx, fun e => ?_⟩
      unfold valN at c
      rw [Option.isSome_map] at c
      have : (xs.find? fun x => decide (x.1 = k)).isSome = true := List.find?_isSome.mpr ⟨x, hx, decide_eq_true e⟩
      rw [this] at c
      cases c
    · rw [List.mem_singleton.mp hx]
      exact .inr ⟨rfl, rfl, .inl rfl⟩
theorem valN_put (xs : List NE) (k : NestedKey) (b : Addr) (v : V) : valN (putN xs k b v) k = some v := by
  have h1 : (putN xs k b v).find? (fun x => decide (x.1 = k)) ≠ none := by
    rw [ne_eq, List.find?_eq_none]
    intro z
    unfold putN at z
    cases c : (valN xs k).isSome with
    | true =>
      rw [c] at z
      unfold valN at c
      rw [Option.isSome_map] at c
      obtain ⟨y, hy, e⟩ := List.find?_isSome.mp c
      have z : ∀ x, x ∈ xs.map (fun x : NE => if x.1 = k then (x.1, x.2.1, v) else x) → ¬ decide (x.1 = k) = true := z
      refine z _ (List.mem_map.mpr ⟨y, hy, rfl⟩) ?_
      rw [if_pos (of_decide_eq_true e)]
      exact e
    | false =>
      rw [c] at z
      have z : ∀ x, x ∈ xs ++ [(k, b, v)] → ¬ decide (x.1 = k) = true := z
      exact z (k, b, v) (List.mem_append_right _ List.mem_cons_self) (decide_eq_true rfl)
  unfold valN
  cases e : (putN xs k b v).find? (fun x => decide (x.1 = k)) with
  | none => exact absurd e h1
  | some x =>
    have hm := List.mem_of_find?_eq_some e
    have hk := List.find?_some e
    rcases putN_mem hm with ⟨_, n⟩ | ⟨_, h, _⟩
    · exact absurd (of_decide_eq_true hk) n
    · show some x.2.2 = some v
      rw [h]
structure MemoAt (P : Program) (w : World) (n : Nat) (row : Row) (H : Hp) (d : Addr) (xs : List NE) : Prop where
  ob : H d = some (DkO P w d xs)
  en : ∀ x, x ∈ xs → ∃ M a, x.1 = kRows (rws M) ∧ H x.2.1 = some (.tup (refs M)) ∧ AllAt H M ∧ x.2.2 = .ref a ∧ H a = some (.tup (rowV (cntRow n (rws M) row)))
section
variable {P : Program} {w : World} {n : Nat} {row : Row} {H H' : Hp} {d : Addr} {xs : List NE}
theorem MemoAt.keys (m : MemoAt P w n row H d xs) : ∀ x, x ∈ xs → KeyAt H x.2.1 x.1 := fun x hx => by
  obtain ⟨M, a, h1, h2, h3, _⟩ := m.en x hx
  rw [h1]
  exact keyAt_rows h2 h3
theorem MemoAt.nd (m : MemoAt P w n row H d xs) : NDict P w H d xs := ⟨.inl m.ob, m.keys⟩
theorem MemoAt.mono (m : MemoAt P w n row H d xs) (t : Tups H H') (e : H' d = some (DkO P w d xs)) : MemoAt P w n row H' d xs :=
  ⟨e, fun x hx => let ⟨M, a, h1, h2, h3, h4, h5⟩ := m.en x hx; ⟨M, a, h1, t _ _ h2, h3.mono t, h4, t _ _ h5⟩⟩
theorem MemoAt.same (m : MemoAt P w n row H d xs) (s : Same H H') : MemoAt P w n row H' d xs := m.mono (.of_same s) (s _ _ m.ob)
theorem MemoAt.hit {rs : List Row} {v : V} (m : MemoAt P w n row H d xs) (h : valN xs (kRows rs) = some v) : ∃ a, v = .ref a ∧ H a = some (.tup (rowV (cntRow n rs row))) := by
  unfold valN at h
  obtain ⟨x, hx, rfl⟩ := Option.map_eq_some_iff.mp h
  have hm := List.mem_of_find?_eq_some hx
  have hk := List.find?_some hx
  obtain ⟨M, a, h1, h2, h3, h4, h5⟩ := m.en x hm
  have e : rws M = rs := kRows_inj (h1.symm.trans (of_decide_eq_true hk))
  rw [e] at h5
  exact ⟨a, h4, h5⟩
/-- all but the key k -/
def entX (n : Nat) (row : Row) (k : NestedKey) (H : Hp) (x : NE) : Prop := ∃ M, x.1 = kRows (rws M) ∧ H x.2.1 = some (.tup (refs M)) ∧ AllAt H M ∧ (x.1 ≠ k → ∃ a, x.2.2 = .ref a ∧ H a = some (.tup (rowV (cntRow n (rws M) row))))
theorem entX.mono {k : NestedKey} {x : NE} (h : entX n row k H x) (t : Tups H H') : entX n row k H' x := by
  obtain ⟨M, h1, h2, h3, h4⟩ := h
  exact ⟨M, h1, t _ _ h2, h3.mono t, fun z => let ⟨a, e1, e2⟩ := h4 z; ⟨a, e1, t _ _ e2⟩⟩
theorem MemoAt.entX (m : MemoAt P w n row H d xs) (k : NestedKey) : ∀ x, x ∈ xs → entX n row k H x := fun x hx => by
  obtain ⟨M, a, h1, h2, h3, h4, h5⟩ := m.en x hx
  exact ⟨M, h1, h2, h3, fun _ => ⟨a, h4, h5⟩⟩
theorem keysX {k : NestedKey} (m : ∀ x, x ∈ xs → entX n row k H x) : ∀ x, x ∈ xs → KeyAt H x.2.1 x.1 := fun x hx => by
  obtain ⟨M, h1, h2, h3, _⟩ := m x hx
  rw [h1]
  exact keyAt_rows h2 h3
theorem entX_put {L : RL} {b : Addr} {v : V} (m : ∀ x, x ∈ xs → entX n row (kRows (rws L)) H x) (hb : H b = some (.tup (refs L))) (hL : AllAt H L) : ∀ x, x ∈ putN xs (kRows (rws L)) b v → entX n row (kRows (rws L)) H x := fun x hx => by
  rcases putN_mem hx with ⟨h1, _⟩ | ⟨h1, h2, h3⟩
  · exact m x h1
  · rcases h3 with h3 | ⟨y, hy, ey, h3⟩
    · exact ⟨L, h1, by rw [h3]; exact hb, hL, fun z => absurd h1 z⟩
    · obtain ⟨M, e1, e2, e3, _⟩ := m y hy
      exact ⟨M, by rw [h1, ← ey]; exact e1, by rw [← h3]; exact e2, e3, fun z => absurd h1 z⟩
theorem memo_put {L : RL} {b a : Addr} (m : ∀ x, x ∈ xs → entX n row (kRows (rws L)) H x) (hb : H b = some (.tup (refs L))) (hL : AllAt H L) (ha : H a = some (.tup (rowV (cntRow n (rws L) row)))) (t : Tups H H') (e : H' d = some (DkO P w d (putN xs (kRows (rws L)) b (.ref a)))) :
    MemoAt P w n row H' d (putN xs (kRows (rws L)) b (.ref a)) := by
  refine ⟨e, fun x hx => ?_⟩
  have hX := entX_put (v := .ref a) m hb hL x hx
  obtain ⟨M, e1, e2, e3, e4⟩ := hX
  by_cases c : x.1 = kRows (rws L)
  · rcases putN_mem hx with ⟨_, n⟩ | ⟨_, h2, _⟩
    · exact absurd c n
    · have er : rws M = rws L := kRows_inj (e1.symm.trans c)
      exact ⟨M, a, e1, t _ _ e2, e3.mono t, h2, by rw [er]; exact t _ _ ha⟩
  · obtain ⟨a', f1, f2⟩ := e4 c
    exact ⟨M, a', e1, t _ _ e2, e3.mono t, f1, t _ _ f2⟩
theorem memo_of {L : RL} {a : Addr} (m : ∀ x, x ∈ xs → entX n row (kRows (rws L)) H x) (only : ∀ x, x ∈ xs → x.1 = kRows (rws L) → x.2.2 = .ref a) (ha : H a = some (.tup (rowV (cntRow n (rws L) row)))) (e : H d = some (DkO P w d xs)) : MemoAt P w n row H d xs := by
  refine ⟨e, fun x hx => ?_⟩
  obtain ⟨M, e1, e2, e3, e4⟩ := m x hx
  by_cases c : x.1 = kRows (rws L)
  · have er : rws M = rws L := kRows_inj (e1.symm.trans c)
    exact ⟨M, a, e1, e2, e3, only x hx c, by rw [er]; exact ha⟩
  · obtain ⟨a', f1, f2⟩ := e4 c
    exact ⟨M, a', e1, e2, e3, f1, f2⟩
end
theorem dk_tups {P : Program} {w : World} {H : Hp} {d : Addr} {xs : List NE} {o : HO} (h : H d = some (DkO P w d xs)) : Tups H (upd H d o) := .set fun ys e => by
  rw [h] at e
  unfold DkO at e
  cases e
theorem eqv_rowsL (a b : List Row) : PyData.eqv (.list (rowsD a)) (.list (rowsD b)) = decide (a = b) := by
  simp only [PyData.eqv, rowsD]
  exact eqvAll_map eqv_row a b
theorem opn_len (n : Nat) (rs : List Row) : (opn n rs).length ≤ n := by
  have := List.length_filter_le (opnAt rs) (List.range n)
  rw [List.length_range] at this
  exact this
end K71
set_option Elab.async false
set_option linter.all false
set_option maxRecDepth 100000
set_option maxHeartbeats 4000000
namespace K71
open PySem PySem.Spec PyProof.Rows L2
section
variable {P : Program} {w : World} {K : PySem.W.Frag} {mg : Str → Option Value} {base : Heap}
/-- [q[c] for q in found] -/
theorem lc_pairs {σ : L2.St} {H : Hp} {i j : Nat} {c : Int} {vs : List Nat} {fl : Addr} {FL : RL} {Q : VK} (g : Row → Int) (hi : σ[i]? = some (some (.ref fl))) (hw : ∀ x, wipe ((wipe σ vs).set j (some x)) vs = wipe σ vs) (hj : ∀ x, ((wipe σ vs).set j (some x))[j]? = some (some x))
    (hf : H fl = some (.lst (refs FL))) (hF : AllAt H FL) (hl : FL.length ≤ 1000) (hc : ∀ q, q ∈ FL → atI (rowV q.2) c = some (.int (g q.2)))
    (q : ∀ D H', Same H H' → H' D = some (.lst (((rws FL).map g).map V.int)) → Q (.ref D) H') : tLc (iList K (tVar i)) (gName j) tYes (tOp (rIxT K) (tVar j) (tC (.int c))) vs σ H Q := by
  refine ⟨_, hi, fl, rfl, ⟨_, SqL.of hf⟩, fun D hD => ?_⟩
  have wk := walk_list (K := K) (a := fl) (xs := refs FL)
  rw [refs_len] at wk
  refine lc_same wk (fun _ => true) (fun i y _ => y = V.int (((rws FL).map g).getD i 0)) (fun _ _ _ _ _ e => e) hD (by omega) (fun H' s => s.seq (SqL.of hf)) ?_ (fun H1 acc s1 hd pr => ?_)
  · rintro i x H1 H2 N hi s1 ⟨rfl, hx⟩ kt _
    obtain ⟨p, hp, rfl⟩ := refs_get hx
    have hpm : p ∈ FL := List.mem_of_getElem? hp
    refine ⟨hw _, ?_⟩
    refine ⟨_, hj _, rIxT_of (s1 _ _ (hF p hpm)) (hc p hpm) (kt rfl _ _ (Same.refl _) ?_)⟩
    rw [List.getD_eq_getElem?_getD, List.getElem?_map]
    unfold rws
    rw [List.getElem?_map, hp]
    rfl
  · rw [filter_all] at pr
    have e := paired_map (v := fun i => V.int (((rws FL).map g).getD i 0)) pr
    have el : FL.length = ((rws FL).map g).length := by rw [List.length_map, rws_len]
    refine q D _ s1 ?_
    rw [hd, e, el, range_map ((rws FL).map g) 0 V.int]
theorem room_1 {k : Nat} {A : Around} (r : Room k A) : A.units + 1 < cLine := by
  have := r.units
  omega
/-! ### counts_from -/
def spCF (P : Program) (w : World) : Nat → Sp
  | 0 => fun _ _ _ _ => False
  | j + 1 => fun vs H Q _ => ∃ (d a rr : Addr) (L : RL) (n : Nat) (row : Row) (xs : List NE), vs = [.ref d, .ref a, .ref rr] ∧ H a = some (.tup (refs L)) ∧ AllAt H L ∧ Wid n (rws L) ∧ n ≤ 6 ∧ L.length ≤ 100 ∧ H rr = some (.tup (rowV row)) ∧ row ∈ rws L ∧
    (opn n (rws L)).length ≤ j ∧ MemoAt P w n row H d xs ∧ xs.length + cost (j + 1) < sizeLine ∧
    ∀ v xs' H', But d H H' → MemoAt P w n row H' d xs' → xs'.length ≤ xs.length + cost (j + 1) → H' v = some (.tup (rowV (cntRow n (rws L) row))) → Q (.ref v) H'
theorem k_counts_from (B : Bi mg) (D : Placed K mg "counts_from" s_counts_from p_counts_from) (CD : Kept P w K mg base CX0 1 "differing" p_differing (spDiff K)) (CB : Kept P w K mg base CX0 1 "by_answers" p_by_answers (spBy K)) :
    ∀ j : Nat, Kept P w K mg base CX0 (1 + j) "counts_from" p_counts_from (spCF P w j) := by
  obtain ⟨fD, fdD, GD, mD, kD, bD⟩ := CD
  obtain ⟨fB, fdB, GB, mB, kB, bB⟩ := CB
  intro j
  induction j with
  | zero => exact D.keep fun f fd F => F.ok sc_counts_from (fun vs H Q E h => h.elim) (fun cdv A outer s H vs Q E hr h => h.elim)
  | succ j ih =>
  obtain ⟨fC, fdC, GC, mC, kC, bC⟩ := ih
  refine D.keep fun f fd F => F.ok sc_counts_from (fun vs H Q E h => ?_) (fun cdv A outer s H vs Q E hr h => ?_)
  · obtain ⟨d, a, rr, L, n, row, xs, rfl, _⟩ := h
    rfl
  · obtain ⟨d, a, rr, L, n, row, xs, rfl, ha, hL, hw, hn, hl, hrr, hrow, hop, M, hsz, q⟩ := h
    have hr1 : Room 1 _ := hr.mono (Nat.le_add_right 1 j)
    refine ⟨_, pss_cons (ps_if (pt_cmp (pc_nnotin (P := P) (w := w) (room_n hr) (pv 1) (pv 0)))
        (pss_cons (ps_set (i := 3) sc_counts_from.nd rfl (Or.inl rfl) (pe_lst pa_nil))
        (pss_cons (ps_for PassesOwn.never rfl (pi_tup (pe_call GD hr1 rfl mD kD bD .nil pass0 (pa_cons (pv 1) pa_nil))) (pg_name (i := 4) sc_counts_from.nd rfl (Or.inl rfl))
          (pss_one (ps_expr (pe_bm PySem.F.plainAttrs_list PySem.F.slot_list_append PySem.F.type_list_append mt_append (pv 3) (pa_cons
            (pe_call GC hr rfl mC kC bC .nil pass0 (pa_cons (pv 0) (pa_cons (pe_dget (room_1 hr) (pe_call GB hr1 rfl mB kB bB .nil pass0 (pa_cons (pv 1) (pa_cons (pv 4) pa_nil))) (pe_ix ix_tup (pv 2) (pv 4) (fun _ _ => rfl)) (fun _ _ => rfl)) (pa_cons (pv 2) pa_nil)))) pa_nil)))))
        (pss_cons (ps_nput (P := P) (w := w) (room_n hr) (pv 0) (pv 1) (pe_tup (pa_cons pe_int (pa_cons pe_int pa_nil))) rfl)
        (pss_one (ps_if (pt_cmpR (op_neD hr.units) (pv 3) (pe_lst pa_nil) (nomark _))
          (pss_one (ps_nput (P := P) (w := w) (room_n hr) (pv 0) (pv 1) (pe_tup (pa_cons (pe_add pe_int (pe_callB callMin (by rfl) B.min PyProof.Rows.boot_min (pa_cons
              (pe_lc (own := [("pair", 5)]) (g := gName 5) (by rfl) sc_counts_from.nd (pi_ls (K := K) (pv 3)) (blkOk_by (N := n_counts_from) (sc := defScope s_counts_from) (by decide +kernel)) (fun _ _ _ _ _ => pg_name (i := 5) sc_counts_from.nd rfl (Or.inl rfl)) (fun _ _ _ _ _ => pts_nil)
                (fun _ _ _ _ _ => pe_ix (ixT (K := K)) (pv 5) pe_int (fun _ _ => rfl))) pa_nil)))
            (pa_cons (pe_add pe_int (pe_callB callMax (by rfl) B.max PyProof.Rows.boot_max (pa_cons
              (pe_lc (own := [("pair", 5)]) (g := gName 5) (by rfl) sc_counts_from.nd (pi_ls (K := K) (pv 3)) (blkOk_by (N := n_counts_from) (sc := defScope s_counts_from) (by decide +kernel)) (fun _ _ _ _ _ => pg_name (i := 5) sc_counts_from.nd rfl (Or.inl rfl)) (fun _ _ _ _ _ => pts_nil)
                (fun _ _ _ _ _ => pe_ix (ixT (K := K)) (pv 5) pe_int (fun _ _ => rfl))) pa_nil))) pa_nil))) rfl))
          pss_nil))))) pss_nil)
      (pss_one (ps_ret (pe_nget (P := P) (w := w) (room_n hr) (pv 0) (pv 1) (fun _ _ => rfl)))), ?_⟩
    have hLne : L ≠ [] := fun z => by
      rw [z] at hrow
      cases hrow
    refine ⟨_, rfl, _, rfl, d, a, kRows (rws L), xs, rfl, rfl, M.nd, keyAt_rows ha hL, _, rfl, ?_⟩
    cases hv : valN xs (kRows (rws L)) with
    | some v =>
      obtain ⟨v1, rfl, hv1⟩ := M.hit hv
      refine iteF ?_
      refine ⟨_, rfl, _, rfl, d, a, kRows (rws L), xs, _, rfl, rfl, M.nd, keyAt_rows ha hL, hv, ?_⟩
      exact q v1 xs H (But.refl d H) M (by omega) hv1
    | none =>
      refine iteT ?_
      refine ⟨Nat.zero_le _, fun fl nfl => ?_⟩
      have s1 := same_new (o := .lst []) nfl
      refine ⟨_, rfl, a, L, n, rfl, .inr (SqT.of (s1 _ _ ha)), hL.mono (.of_same s1), hLne, hw, by omega, hl, fun pl H2 npl s2 epl => ?_⟩
      refine ⟨pl, rfl, ⟨_, SqT.of epl⟩, ?_⟩
      have wp := walk_tup (K := K) (a := pl) (xs := intsV (opn n (rws L)))
      have ilen : (intsV (opn n (rws L))).length = (opn n (rws L)).length := List.length_map _
      have hol := opn_len n (rws L)
      refine for_it wp (fun i σ H' => ∃ FL xs' x4, σ = [some (.ref d), some (.ref a), some (.ref rr), some (.ref fl), x4, none] ∧ But d H H' ∧ H' fl = some (.lst (refs FL)) ∧ AllAt H' FL ∧ rws FL = ((opn n (rws L)).take i).map (fun p => cntRow n (part (rws L) p row) row) ∧
          MemoAt P w n row H' d xs' ∧ xs'.length ≤ xs.length + i * cost j ∧ H' pl = some (.tup (intsV (opn n (rws L)))))
        ⟨[], xs, none, rfl, .of_same (s1.trans s2), s2 _ _ upd_same, (fun p hp => nomatch hp), rfl, M.same (s1.trans s2), by omega, epl⟩ (fun i σ H' _ p => by obtain ⟨_, _, _, _, _, _, _, _, _, _, q1⟩ := p; exact SqT.of q1) ?_ ?_
      · rintro i x σ _ H3 hi ⟨FL, xs', x4, rfl, b3, f3, F3, e3, M3, l3, p3⟩ ⟨rfl, hx⟩
        obtain ⟨p, hp, rfl⟩ := intsV_get hx
        have hpm : p ∈ opn n (rws L) := List.mem_of_getElem? hp
        have hpn : p < n := (mem_opn.mp hpm).1
        have hii : i < (opn n (rws L)).length := by omega
        have hpl := opn_part_lt (r := row) hpm
        obtain ⟨j', rfl⟩ : ∃ j', j = j' + 1 := ⟨j - 1, by omega⟩
        have tn : ∀ {c ys}, H c = some (.tup ys) → c ≠ d := fun e => ne_of e M.ob (fun z => by unfold DkO at z; cases z)
        have ha3 := b3 _ _ ha (tn ha)
        have hrr3 := b3 _ _ hrr (tn hrr)
        have hL3 : AllAt H3 L := fun p hp => b3 _ _ (hL p hp) (tn (hL p hp))
        refine ⟨_, rfl, .inl ⟨rfl, _, SqL.of f3⟩, _, rfl, ?_⟩
        refine ⟨_, rfl, _, rfl, a, L, n, p, rfl, ha3, hL3, hw, hpn, hl, fun dd ts H4 ndd s4 by4 => ?_⟩
        obtain ⟨y1, y2, y3⟩ := by4
        have hmem : ans row p ∈ ts.map (·.1) := by
          rw [y1]
          exact mem_firsts.mpr ⟨row, hrow, rfl⟩
        obtain ⟨t, htm, et⟩ := List.mem_map.mp hmem
        have g : DGet H4 dd (.int (ans row p)) (some (.ref t.2)) := by
          have e1 := valV_dk (ks := ts) (by rw [y1]; exact firsts_nodup _ _) htm
          have e2 := DGet.k (k := (Sum.inl t.1 : Key)) y2
          rw [e1] at e2
          rw [← et]
          exact e2
        refine ⟨_, rfl, _, rfl, rIxT_of (s4 _ _ hrr3) (rowV_at (by rw [hw row hrow]; exact hpn)) ⟨dd, .ref t.2, rfl, g, ?_⟩⟩
        have ep : rws (partL L p t.1) = part (rws L) p row := by
          rw [rws_part, et]
          rfl
        have hcost : (i + 1) * cost (j' + 1) ≤ 6 * cost (j' + 1) := Nat.mul_le_mul_right _ (by omega)
        have hcs : cost (j' + 1 + 1) = 2 + 6 * cost (j' + 1) := rfl
        have hc1 : (i + 1) * cost (j' + 1) = i * cost (j' + 1) + cost (j' + 1) := by rw [Nat.add_mul, Nat.one_mul]
        refine ⟨_, rfl, d, t.2, rr, partL L p t.1, n, row, xs', rfl, y3 t htm, (hL3.mono (.of_same s4)).sub (fun q hq => (List.mem_filter.mp hq).1), ?_, hn, Nat.le_trans (List.length_filter_le _ _) hl, s4 _ _ hrr3, ?_, ?_, M3.same s4, by omega, fun v xs4 H5 b5 M5 l5 e5 => ?_⟩
        · rw [ep]
          exact hw.sub fun r hr => part_sub hr
        · rw [ep]
          exact self_part hrow
        · rw [ep]
          omega
        rw [ep] at e5
        have nfd : fl ≠ d := fun z => by
          have z2 := M.ob
          rw [← z, nfl] at z2
          cases z2
        have f5 : H5 fl = some (.lst (refs FL)) := b5 _ _ (s4 _ _ f3) nfd
        have tn5 : ∀ {c ys}, H5 c = some (.tup ys) → c ≠ fl := fun e => ne_of e f5 (fun z => nomatch z)
        have tu : Tups H5 (upd H5 fl (.lst (refs FL ++ [.ref v]))) := .setL f5
        have fln : (refs FL).length < sizeLine := by
          rw [refs_len, ← rws_len, e3, List.length_map, List.length_take]
          exact Nat.lt_of_le_of_lt (show min i (opn n (rws L)).length ≤ 6 by omega) (by decide)
        refine ⟨fl, _, .ref v, rfl, rfl, f5, fln, FL ++ [(v, cntRow n (part (rws L) p row) row)], xs4, _, rfl, fun c u e nc => ?_, ?_, fun y hy => ?_, ?_, M5.mono tu ?_, by omega, ?_⟩
        · rw [upd_ne (ne_of_none e nfl)]
          exact b5 _ _ (s4 _ _ (b3 _ _ e nc)) nc
        · rw [upd_same, refs_snoc]
        · rcases List.mem_append.mp hy with hy | hy
          · exact tu _ _ (b5 _ _ (s4 _ _ (F3 y hy)) (ne_of (s4 _ _ (F3 y hy)) (s4 _ _ M3.ob) (fun z => by unfold DkO at z; cases z)))
          · rw [List.mem_singleton.mp hy]
            exact tu _ _ e5
        · rw [rws_snoc, e3, List.take_add_one, hp, List.map_append]
          rfl
        · rw [upd_ne nfd.symm]
          exact M5.ob
        · exact tu _ _ (b5 _ _ (s4 _ _ p3) (ne_of (s4 _ _ p3) (s4 _ _ M3.ob) (fun z => by unfold DkO at z; cases z)))
      · rintro σ H3 ⟨FL, xs', x4, rfl, b3, f3, F3, e3, M3, l3, p3⟩
        rw [ilen] at l3
        rw [ilen, List.take_length] at e3
        have tn : ∀ {c ys}, H c = some (.tup ys) → c ≠ d := fun e => ne_of e M.ob (fun z => by unfold DkO at z; cases z)
        have ha3 := b3 _ _ ha (tn ha)
        have hL3 : AllAt H3 L := fun p hp => b3 _ _ (hL p hp) (tn (hL p hp))
        have hcs : cost (j + 1) = 2 + 6 * cost j := rfl
        have hco : (opn n (rws L)).length * cost j ≤ 6 * cost j := Nat.mul_le_mul_right _ (by omega)
        refine ⟨by show 2 ≤ sizeLine; decide, fun z0 nz0 => ?_⟩
        have s4 := same_new (o := .tup [V.int 0, V.int 0]) nz0
        have M4 := M3.same s4
        refine ⟨_, rfl, _, rfl, d, a, kRows (rws L), xs', rfl, rfl, M4.ob, M4.keys, keyAt_rows (s4 _ _ ha3) (hL3.mono (.of_same s4)), by omega, ?_⟩
        have tu4 : Tups (upd H3 z0 (.tup [V.int 0, V.int 0])) (upd (upd H3 z0 (.tup [V.int 0, V.int 0])) d (DkO P w d (putN xs' (kRows (rws L)) a (.ref z0)))) := dk_tups M4.ob
        have X4 := entX_put (v := .ref z0) (M4.entX (kRows (rws L))) (s4 _ _ ha3) (hL3.mono (.of_same s4))
        have z04 : (upd H3 z0 (.tup [V.int 0, V.int 0])) z0 = some (.tup [V.int 0, V.int 0]) := upd_same
        have nfd : fl ≠ d := fun z => by
          have z2 := M.ob
          rw [← z, nfl] at z2
          cases z2
        have f4 : (upd (upd H3 z0 (.tup [V.int 0, V.int 0])) d (DkO P w d (putN xs' (kRows (rws L)) a (.ref z0)))) fl = some (.lst (refs FL)) := by
          rw [upd_ne nfd]
          exact s4 _ _ f3
        have F4 := (F3.mono (.of_same s4)).mono tu4
        have b4 : But d H (upd (upd H3 z0 (.tup [V.int 0, V.int 0])) d (DkO P w d (putN xs' (kRows (rws L)) a (.ref z0)))) := (b3.then s4).upd
        have d4 : (upd (upd H3 z0 (.tup [V.int 0, V.int 0])) d (DkO P w d (putN xs' (kRows (rws L)) a (.ref z0)))) d = some (DkO P w d (putN xs' (kRows (rws L)) a (.ref z0))) := upd_same
        have ha4 := tu4 _ _ (s4 _ _ ha3)
        have hL4 := (hL3.mono (.of_same s4)).mono tu4
        have z4 := tu4 _ _ z04
        have X4' := fun x hx => (X4 x hx).mono tu4
        have l4 := putN_len xs' (kRows (rws L)) a (.ref z0)
        have v4 := valN_put xs' (kRows (rws L)) a (.ref z0)
        have only4 : ∀ x, x ∈ putN xs' (kRows (rws L)) a (.ref z0) → x.1 = kRows (rws L) → x.2.2 = .ref z0 := fun x hx e => by
          rcases putN_mem hx with ⟨_, n⟩ | ⟨_, h, _⟩
          · exact absurd e n
          · exact h
        generalize putN xs' (kRows (rws L)) a (.ref z0) = ys at *
        generalize (upd (upd H3 z0 (.tup [V.int 0, V.int 0])) d (DkO P w d ys)) = H4 at *
        clear X4 tu4 M4 s4 z04 nz0
        refine ⟨_, rfl, Nat.zero_le _, fun t nt => ?_⟩
        have s5 := same_new (o := .lst []) nt
        refine ⟨_, .list (rowsD []), dpRowsL (SqL.of (s5 _ _ f4)) (F4.mono (.of_same s5)), .lst (SqL.of upd_same) .nil, rowsL_shaped _, rowsL_shaped _, ?_⟩
        rw [eqv_rowsL, e3]
        refine ⟨_, rfl, ?_⟩
        by_cases hemp : opn n (rws L) = []
        · rw [hemp]
          refine iteF ?_
          have ec : cntRow n (rws L) row = [0, 0] := by
            unfold cntRow
            rw [cnt_nil hemp]
          have M5 : MemoAt P w n row (upd H4 t (.lst [])) d ys := memo_of (fun x hx => (X4' x hx).mono (.of_same s5)) only4 (by rw [ec]; exact s5 _ _ z4) (s5 _ _ d4)
          exact ⟨_, rfl, _, rfl, d, a, kRows (rws L), ys, _, rfl, rfl, M5.nd, keyAt_rows (s5 _ _ ha4) (hL4.mono (.of_same s5)), v4, q z0 ys _ (b4.then s5) M5 (by omega) (by rw [ec]; exact s5 _ _ z4)⟩
        · rw [decide_eq_false (fun z => hemp (List.map_eq_nil_iff.mp z))]
          refine iteT ?_
          have f5 := s5 _ _ f4
          have F5 := F4.mono (.of_same s5)
          have M5d := s5 _ _ d4
          have fl5 : FL.length ≤ 1000 := by
            rw [← rws_len, e3, List.length_map]
            omega
          have two : ∀ q, q ∈ FL → ∃ u v : Int, q.2 = [u, v] := fun q hq => by
            have := mem_rws hq
            rw [e3] at this
            obtain ⟨p, _, e⟩ := List.mem_map.mp this
            exact ⟨_, _, e.symm⟩
          have hpos : ∀ g : Row → Int, 0 < ((rws FL).map g).length := fun g => by
            rw [List.length_map, e3, List.length_map]
            exact Nat.pos_of_ne_zero fun z => hemp (List.length_eq_zero_iff.mp z)
          have hne0 : ∀ g : Row → Int, (rws FL).map g ≠ [] := fun g z => by
            have := hpos g
            rw [z] at this
            cases this
          unfold sNPut tTup tCons tAdd t2I tCB tC
          refine lc_pairs (K := K) (σ := [some (.ref d), some (.ref a), some (.ref rr), some (.ref fl), x4, none]) (vs := [5]) (i := 3) (j := 5) (c := 0) (fun r => ans r 0) rfl (fun _ => rfl) (fun _ => rfl) f5 F5 fl5 (fun q hq => ?_) fun D1 H6 s6 e6 => ?_
          · obtain ⟨u, v, e⟩ := two q hq
            rw [e]
            rfl
          refine ⟨D1, _, rfl, SqL.of e6, hpos _, fun m hm hmin => ⟨1, m, rfl, rfl, ?_⟩⟩
          refine lc_pairs (K := K) (σ := [some (.ref d), some (.ref a), some (.ref rr), some (.ref fl), x4, none]) (vs := [5]) (i := 3) (j := 5) (c := 1) (fun r => ans r 1) rfl (fun _ => rfl) (fun _ => rfl) (s6 _ _ f5) (F5.mono (.of_same s6)) fl5 (fun q hq => ?_) fun D2 H7 s7 e7 => ?_
          · obtain ⟨u, v, e⟩ := two q hq
            rw [e]
            rfl
          refine ⟨D2, _, rfl, SqL.of e7, hpos _, fun m2 hm2 hmax => ⟨1, m2, rfl, rfl, ?_⟩⟩
          have em : m = minI ((rws FL).map fun r => ans r 0) := minI_eq hm hmin
          have em2 : m2 = maxI ((rws FL).map fun r => ans r 1) := maxI_eq hm2 hmax
          have ec : cntRow n (rws L) row = [1 + m, 1 + m2] := by
            unfold cntRow
            rw [cnt_cons hemp, em, em2, e3, List.map_map, List.map_map]
            rfl
          refine ⟨by show 2 ≤ sizeLine; decide, fun z1 nz1 => ?_⟩
          have s8 := same_new (o := .tup [V.int (1 + m), V.int (1 + m2)]) nz1
          have s58 := s5.trans (s6.trans (s7.trans s8))
          have e8 : (upd H7 z1 (.tup [V.int (1 + m), V.int (1 + m2)])) z1 = some (.tup (rowV (cntRow n (rws L) row))) := by
            rw [upd_same, ec]
            rfl
          generalize (upd H7 z1 (.tup [V.int (1 + m), V.int (1 + m2)])) = H8 at s58 e8 ⊢
          have X8 := fun x hx => (X4' x hx).mono (.of_same s58)
          refine ⟨_, rfl, _, rfl, d, a, kRows (rws L), ys, rfl, rfl, s58 _ _ d4, keysX X8, keyAt_rows (s58 _ _ ha4) (hL4.mono (.of_same s58)), by omega, ?_⟩
          have tu8 : Tups H8 (upd H8 d (DkO P w d (putN ys (kRows (rws L)) a (.ref z1)))) := dk_tups (s58 _ _ d4)
          have M9 := memo_put X8 (s58 _ _ ha4) (hL4.mono (.of_same s58)) e8 tu8 (P := P) (w := w) (d := d) upd_same
          have l9 : (putN ys (kRows (rws L)) a (.ref z1)).length = ys.length := by
            unfold putN
            rw [v4]
            exact List.length_map _
          exact ⟨_, rfl, _, rfl, d, a, kRows (rws L), _, _, rfl, rfl, M9.nd, keyAt_rows (tu8 _ _ (s58 _ _ ha4)) ((hL4.mono (.of_same s58)).mono tu8), valN_put _ _ _ _, q z1 _ _ ((b4.then s58).upd) M9 (by omega) (tu8 _ _ e8)⟩
end
end K71
set_option Elab.async false
set_option linter.all false
set_option maxRecDepth 100000
set_option maxHeartbeats 4000000
namespace K71
open PySem PySem.Spec PyProof.Rows L2
/-- X(), X an own exception class without own init -/
theorem pmk_own0 {X : Cx} {C : Addr} {bmB : List Value} {B newId initId : String} {x : Str} {p pos : Pos} (F : ExcBaseFacts B newId initId bmB) (q : PySem.W.excIn X.K C bmB newId = true) (gC : X.mg x = some (.ref C))
    (kC : PySem.W.keepIn X.K (.ref C) = true) (r : Raises X (.ref C)) (hg : Gl X x) (hdb : (x == ("__debug__" : Str)) = false := by decide) :
    PMk X (.Call (.Name x p) [] [] pos) (fun _ H Q => Q (.ref C) none H) := by
  intro pins s σ H Q I h
  refine wpAny_Call_Name_kw (ld_glob I hg gC ?_ hdb)
  refine PySem.W.callWith_K0 I.kIn kC ?_
  show wpAny _ _ (call (.ref C) []) _ _ _
  obtain ⟨bm, N, nm, qn, bs, hdct, sn, sub, ab, col, dd, k0, k1, k2, k3, k5, mN, hC, hN, hni, T⟩ := exc_obj I.kIn q
  refine wpAny_call_exc_subT F T hC hN hni (fun h' e hm => ?_) (Nat.zero_le _)
  exact mk_of I hm r h (I.hok.gone hm.new)
/-- what must be known of BadRow -/
structure BadR (K : PySem.W.Frag) (mg : Str → Option Value) (C : Addr) : Prop where
  g : mg "BadRow" = some (.ref C)
  x : PySem.W.excIn K C [.type "ValueError", .type "Exception", .type "BaseException", .type "object"] "ValueError.__new__" = true
  k : PySem.W.keepIn K (.ref C) = true
  b : PySem.W.subIn K (.ref C) (.type "BaseException") = some true
  t : PySem.W.typeIn K (.ref C) = some (.type "type")
section
variable {P : Program} {w : World} {K : PySem.W.Frag} {mg : Str → Option Value} {base : Heap}
/-! ### counts -/
def badRow (K : PySem.W.Frag) (H : Hp) (sz : Row) (L : RL) (x : V) : Prop := AnsOf K H sz x false ∨ ∃ r row, x = .ref r ∧ H r = some (.tup (rowV row)) ∧ row.length ≤ 100 ∧ row ∉ rws L
def spCounts (K : PySem.W.Frag) (C : Addr) : Sp := fun vs H Q E => ∃ (s : Addr) (sz : Row) (L : RL) (x : V), vs = [.ref s, x] ∧ SheetAt K H s sz L ∧
  ((∃ r row, x = .ref r ∧ H r = some (.tup (rowV row)) ∧ row ∈ rws L ∧ ∀ v H', Same H H' → H' v = some (.tup (rowV (cntRow sz.length (rws L) row))) → Q (.ref v) H') ∨
   badRow K H sz L x ∧ ∀ H', Same H H' → E (.ref C) none H')
theorem k_counts (B : Bi mg) {C : Addr} (T : BadR K mg C) (D : Placed K mg "counts" s_counts p_counts) (CA : Kept P w K mg base CX0 2 "is_answers" p_is_answers (spIsAns K)) (CF : Kept P w K mg base CX0 8 "counts_from" p_counts_from (spCF P w 7)) :
    Kept P w K mg base (L2.CX P w) 9 "counts" p_counts (spCounts K C) := by
  obtain ⟨fA, fdA, GA, mA, kA, bA⟩ := CA
  obtain ⟨fC, fdC, GC, mC, kC, bC⟩ := CF
  refine D.keep fun f fd F => F.okX sc_counts (fun vs H Q E h => ?_) (fun cdv A outer s H vs Q E hr h => ?_)
  · obtain ⟨s, sz, L, x, rfl, _⟩ := h
    rfl
  · obtain ⟨sh, sz, L, x, rfl, S, way⟩ := h
    have hr2 : Room 2 _ := hr.mono (by decide)
    have hw := S.wid
    refine ⟨_, pss_cons (ps_if (PW.pt (pw_or (pt_not (pt_val (pe_call GA hr2 rfl mA kA bA .nil pass0 (pa_cons (pv 1) (pa_cons (pe_fld (pv 0) rfl) pa_nil))))) (pw_or1 (pt_cmpR (op_notInT (room65 hr)) (pv 1) (pe_fld (pv 0) rfl) rfl))))
        (pss_one (ps_raise rfl (takes_of rfl rfl rfl rfl) (pmk_own0 PySem.F.excBase_ValueError T.x T.g T.k (raises_own T.b T.t) rfl))) pss_nil)
      (pss_one (ps_ret (pe_call GC hr rfl mC kC bC .nil pass0 (pa_cons (pe_nnew (P := P) (w := w)) (pa_cons (pe_fld (pv 0) rfl) (pa_cons (pv 1) pa_nil)))))), ?_⟩
    obtain ⟨⟨Cc, dx, az, ar, fs, h1, h2, h3, h4, h5, h6, h7, h8⟩, hL, hne, hrg, hn, hm⟩ := id S
    -- a row of ints: what is_answers tells, then whether it is there
    have rows : ∀ (r : Addr) (row : Row), x = .ref r → H r = some (.tup (rowV row)) → row.length ≤ 100 → AnsOf K H sz x (isAns (rowV row) sz) := fun r row e hr' hl => by
      rw [e]
      refine .tup hr' (by rw [rowV_len]; exact hl) fun y hy => ?_
      obtain ⟨i, _, rfl⟩ := List.mem_map.mp hy
      exact .inl ⟨i, rfl⟩
    rcases way with ⟨r, row, rfl, hr', hrow, q⟩ | ⟨bad, q⟩
    · have hir := hrg row hrow
      refine ⟨_, rfl, _, rfl, sh, Cc, dx, fs, _, rfl, h1, h2, h3, h5, .ref r, az, sz, isAns (rowV row) sz, rfl, h7, by omega, rows r row rfl hr' (by rw [hir.1]; omega), fun H1 s1 => ⟨_, rfl, ?_⟩⟩
      rw [isAns_row hir]
      refine iteF ?_
      refine ⟨_, rfl, _, rfl, sh, Cc, dx, fs, _, rfl, s1 _ _ h1, h2, h4, h6, ?_⟩
      refine ⟨rowD row, rowsD (rws L), dpRow (s1 _ _ hr'), dpRowsT (s1 _ _ h8) (hL.mono (.of_same s1)), row_shaped _, rowsT_shaped _, ?_⟩
      rw [any_rows, List.contains_iff_mem.mpr hrow]
      refine ⟨_, rfl, ?_⟩
      refine iteF ?_
      intro d nd
      have s2 := same_new (o := DkO P w d []) nd
      have s12 := s1.trans s2
      refine ⟨_, rfl, sh, Cc, dx, fs, _, rfl, s12 _ _ h1, h2, h4, h6, _, rfl, ?_⟩
      refine ⟨d, ar, r, L, sz.length, row, [], rfl, s12 _ _ h8, hL.mono (.of_same s12), hw, hn, hm, s12 _ _ hr', hrow, Nat.le_trans (opn_len _ _) hn, ⟨upd_same, fun x hx => nomatch hx⟩, by decide, fun v xs' H' b' M' _ e' => ?_⟩
      exact q v H' (fun c o e => b' _ _ (s12 _ _ e) (ne_of_none e (s1.free nd))) e'
    · rcases bad with bad | ⟨r, row, rfl, hr', hl, hno⟩
      · refine ⟨_, rfl, _, rfl, sh, Cc, dx, fs, _, rfl, h1, h2, h3, h5, x, az, sz, false, rfl, h7, by omega, bad, fun H1 s1 => ⟨_, rfl, ?_⟩⟩
        exact iteT (iteT (q _ s1))
      · refine ⟨_, rfl, _, rfl, sh, Cc, dx, fs, _, rfl, h1, h2, h3, h5, .ref r, az, sz, isAns (rowV row) sz, rfl, h7, by omega, rows r row rfl hr' hl, fun H1 s1 => ⟨_, rfl, ?_⟩⟩
        cases isAns (rowV row) sz with
        | false => exact iteT (iteT (q _ s1))
        | true =>
          refine iteF ?_
          refine ⟨_, rfl, _, rfl, sh, Cc, dx, fs, _, rfl, s1 _ _ h1, h2, h4, h6, ?_⟩
          refine ⟨rowD row, rowsD (rws L), dpRow (s1 _ _ hr'), dpRowsT (s1 _ _ h8) (hL.mono (.of_same s1)), row_shaped _, rowsT_shaped _, ?_⟩
          rw [any_rows, show (rws L).contains row = false from Bool.eq_false_iff.mpr fun z => hno (List.contains_iff_mem.mp z)]
          exact ⟨_, rfl, iteT (q _ s1)⟩
end
end K71
set_option Elab.async false
set_option linter.all false
set_option maxRecDepth 100000
set_option maxHeartbeats 4000000
namespace K71
open PySem PySem.Spec PyProof.Rows L2
/-- the rows ascend -/
def Asc (rs : List Row) : Prop := rs.Pairwise fun a b => TS.code 7 a < TS.code 7 b
theorem asc_eq : ∀ {L M : RL}, Asc (rws L) → (M.Pairwise fun a b => TS.code 7 a.2 ≤ TS.code 7 b.2) → M.Perm L → M = L
  | [], M, _, _, p => p.eq_nil
  | x :: L, [], _, _, p => by cases p.symm.eq_nil
  | x :: L, y :: M, a, b, p => by
    have a' : (∀ r, r ∈ rws L → TS.code 7 x.2 < TS.code 7 r) ∧ Asc (rws L) := List.pairwise_cons.mp a
    have b' := List.pairwise_cons.mp b
    have hy : y ∈ x :: L := p.mem_iff.mp List.mem_cons_self
    have hx : x ∈ y :: M := p.mem_iff.mpr List.mem_cons_self
    have e : y = x := by
      rcases List.mem_cons.mp hy with e | hy
      · exact e
      · rcases List.mem_cons.mp hx with e | hx
        · exact e.symm
        · have h1 := a'.1 y.2 (mem_rws hy)
          have h2 := b'.1 x hx
          omega
    subst e
    rw [asc_eq a'.2 b'.2 ((List.perm_cons _).mp p)]
theorem asc_nodup {rs : List Row} (h : Asc rs) : rs.Nodup := List.Pairwise.imp (fun {a b} h e => by rw [e] at h; omega) h
/-- the constants -/
structure Con (mg : Str → Option Value) : Prop where
  sizes : ∃ t, mg "MOST_SIZES" = some (.int 6 t)
  size : ∃ t, mg "MOST_SIZE" = some (.int 6 t)
  rows : ∃ t, mg "MOST_ROWS" = some (.int 64 t)
/-- what must be known of Sheet -/
structure ShC (K : PySem.W.Frag) (C : Addr) : Prop where
  c : Cls K C
  s : NoAttr K C "sizes"
  r : NoAttr K C "rows"
section
variable {P : Program} {w : World} {K : PySem.W.Frag} {mg : Str → Option Value} {base : Heap}
theorem kitLT {x : V} {H : Hp} (h : TyX K H x (.type "list") ∨ TyX K H x (.type "tuple")) : ∃ t, TyX K H x t ∧ PySem.W.kitAny K t [.type "list", .type "tuple"] = some true := by
  rcases h with h | h
  · exact ⟨_, h, kitAny_cons (r := true) (b := true) (kit_ty (by decide +kernel)) (fun z => nomatch z) (fun _ => rfl)⟩
  · exact ⟨_, h, kitAny_cons (r := true) (b := false) (kit_ty (by decide +kernel)) (fun _ => kitAny_cons (r := true) (b := true) (kit_ty (by decide +kernel)) (fun z => nomatch z) (fun _ => rfl)) (fun z => nomatch z)⟩
def spInit (K : PySem.W.Frag) (C : Addr) : Sp := fun vs H Q _ => ∃ (x b a dx : Addr) (sz : Row) (L : RL), vs = [.ref x, .ref b, .ref a] ∧ H x = some (.ins C dx []) ∧ H b = some (.tup (rowV sz)) ∧ 1 ≤ sz.length ∧ sz.length ≤ 6 ∧ (∀ i, i < sz.length → 1 ≤ ans sz i ∧ ans sz i ≤ 6) ∧
  H a = some (.lst (refs L)) ∧ AllAt H L ∧ 1 ≤ L.length ∧ L.length ≤ 40 ∧ (∀ r, r ∈ rws L → InR sz r) ∧ Asc (rws L) ∧ ∀ H', But x H H' → SheetAt K H' x sz L → Q .non H'
theorem k_sheet_init {C : Addr} (B : Bi mg) (T : Con mg) (S : ShC K C) {f : Addr} {fd : FuncData} (F : Fun K "__init__" "Sheet.__init__" s_sheet_init f fd) (CI : Kept P w K mg base CX0 1 "is_integer" p_is_integer (spIsInt K)) (CA : Kept P w K mg base CX0 2 "is_answers" p_is_answers (spIsAns K)) :
    FnOk P w K mg base CX0 3 f fd p_sheet_init (spInit K C) := by
  obtain ⟨fI, fdI, GI, mI, kI, bI⟩ := CI
  obtain ⟨fA, fdA, GA, mA, kA, bA⟩ := CA
  obtain ⟨⟨t1, T1⟩, ⟨t2, T2⟩, ⟨t3, T3⟩⟩ := T
  refine F.ok sc_sheet_init (fun vs H Q E h => ?_) (fun cdv A outer s H vs Q E hr h => ?_)
  · obtain ⟨x, b, a, dx, sz, L, rfl, _⟩ := h
    rfl
  · obtain ⟨x, b, a, dx, sz, L, rfl, hx, hb, hz1, hz6, hsz, ha, hL, hl1, hl40, hrg, hasc, q⟩ := h
    have hr1 : Room 1 _ := hr.mono (by decide)
    refine ⟨_, pss_cons (ps_if (PW.pt (pw_or (pt_not (pt_val (pe_callB callIsiT (by rfl) B.isi boot_isinstance (pa_cons (pv 1) (pa_cons (pe_tup (pa_cons (pe_bltn (v := .ty "list") (by rfl) B.list PyProof.Rows.boot_list rfl) (pa_cons (pe_bltn (v := .ty "tuple") (by rfl) B.tuple PyProof.Rows.boot_tuple rfl) pa_nil))) pa_nil)))))
        (pw_or1 (pt_not (pt_chain op_le op_le pe_int (pe_callB callLen (by rfl) B.len PySem.boot_len (pa_cons (pv 1) pa_nil)) (pe_glob (v := .int 6) (by rfl) T1 ⟨_, rfl⟩)))))) (pss_one ps_never) pss_nil)
      (pss_cons (ps_if (pt_not (pt_val (pe_callB callAll (by rfl) B.all PyProof.Rows.boot_all (pa_cons
          (pe_lc (own := [("size", 5)]) (g := gName 5) (by rfl) sc_sheet_init.nd (pi_tp (K := K) (pv 1)) (blkOk_by (N := n_sheet_init) (sc := defScope s_sheet_init) (by decide +kernel)) (fun _ _ _ _ _ => pg_name (i := 5) sc_sheet_init.nd rfl (Or.inl rfl)) (fun _ _ _ _ _ => pts_nil)
            (fun _ _ _ _ _ => pe_and (pe_call GI hr1 rfl mI kI bI .nil pass0 (pa_cons (pv 5) pa_nil)) (pe_one (pe_chain op_le op_le pe_int (pv 5) (pe_glob (v := .int 6) (by rfl) T2 ⟨_, rfl⟩))))) pa_nil)))) (pss_one ps_never) pss_nil)
      (pss_cons (ps_if (PW.pt (pw_or (pt_not (pt_val (pe_callB callIsiT (by rfl) B.isi boot_isinstance (pa_cons (pv 2) (pa_cons (pe_tup (pa_cons (pe_bltn (v := .ty "list") (by rfl) B.list PyProof.Rows.boot_list rfl) (pa_cons (pe_bltn (v := .ty "tuple") (by rfl) B.tuple PyProof.Rows.boot_tuple rfl) pa_nil))) pa_nil)))))
        (pw_or1 (pt_not (pt_chain op_le op_le pe_int (pe_callB callLen (by rfl) B.len PySem.boot_len (pa_cons (pv 2) pa_nil)) (pe_glob (v := .int 64) (by rfl) T3 ⟨_, rfl⟩)))))) (pss_one ps_never) pss_nil)
      (pss_cons (ps_for PassesOwn.never rfl (pi_enum (by rfl) B.enum (pa_cons (pv 2) pa_nil)) (pg_two (K := K) (pg_name (i := 3) sc_sheet_init.nd rfl (Or.inl rfl)) (pg_name (i := 4) sc_sheet_init.nd rfl (Or.inl rfl)))
        (pss_one (ps_if (PW.pt (pw_or (pt_not (pt_val (pe_call GA hr rfl mA kA bA .nil pass0 (pa_cons (pv 4) (pa_cons (pv 1) pa_nil))))) (pw_or1 (pt_cmpR (op_inD (room65 hr)) (pv 4) (pe_slice sl_list (pv 2) po_none (po_some (pv 3))) rfl)))) (pss_one ps_never) pss_nil)))
      (pss_cons (ps_fld (pv 0) (pe_callTy callTup (by rfl) B.tuple PyProof.Rows.boot_tuple (pa_cons (pv 1) pa_nil)) rfl)
      (pss_one (ps_fld (pv 0) (pe_callTy callTup (by rfl) B.tuple PyProof.Rows.boot_tuple (pa_cons (pe_callB (cr_sortT (d := sz.length) (B := 7) hz1) (by rfl) B.sorted PyProof.Rows.boot_sorted (pa_cons (pv 2) pa_nil)) pa_nil)) rfl)))))), ?_⟩
    have clsP : Paired ClsV [V.ty "list", V.ty "tuple"] [Value.type "list", Value.type "tuple"] := .cons (.ty _) (.cons (.ty _) .nil)
    have nx : ∀ {c xs}, H c = some (.tup xs) → c ≠ x := fun e => ne_of e hx (fun z => nomatch z)
    -- the sizes: a tuple of one to six
    refine ⟨_, rfl, by show 2 ≤ sizeLine; decide, fun p0 n0 => ?_⟩
    have s0 := same_new (o := .tup [V.ty "list", V.ty "tuple"]) n0
    obtain ⟨tt, ety, kk⟩ := kitLT (K := K) (.inr (tyTup (s0 _ _ hb)))
    refine ⟨.ref b, p0, _, tt, _, true, rfl, upd_same, clsP, ety, kk, true, rfl, ?_⟩
    refine iteF ?_
    refine ⟨_, rfl, b, _, rfl, .inr (SqT.of (s0 _ _ hb)), 1, _, rfl, rfl, _, rfl, ?_⟩
    rw [rowV_len, decide_eq_true (show (1 : Int) ≤ (sz.length : Int) by omega)]
    refine iteT ⟨_, _, rfl, rfl, _, rfl, ?_⟩
    rw [decide_eq_true (show (sz.length : Int) ≤ 6 by omega)]
    refine iteF ?_
    -- each from one to six
    refine ⟨_, rfl, b, rfl, ⟨_, SqT.of (s0 _ _ hb)⟩, fun D1 nD1 => ?_⟩
    have wk := walk_tup (K := K) (a := b) (xs := rowV sz)
    rw [rowV_len] at wk
    refine lc_same wk (fun _ => true) (fun i y _ => y = V.bl true) (fun _ _ _ _ _ e => e) nD1 (by omega) (fun H' s => SqT.of (s _ _ (s0 _ _ hb))) ?_ (fun H1 acc s1 hd pr => ?_)
    · rintro i y H1 H2 N hi s1 ⟨rfl, hy⟩ kt _
      rw [rowV_get hi] at hy
      obtain rfl : V.int (ans sz i) = y := Option.some.inj hy
      obtain ⟨b1, b2⟩ := hsz i hi
      refine ⟨rfl, ?_⟩
      refine ⟨_, rfl, _, "int", rfl, .base (.int _), by decide, true, by rfl, ?_⟩
      refine ⟨_, rfl, 1, ans sz i, rfl, rfl, true, ?_, ?_⟩
      · show V.bl (decide ((1 : Int) ≤ ans sz i)) = _
        rw [decide_eq_true b1]
      refine iteT ⟨_, _, rfl, rfl, ?_⟩
      show N (some (V.bl (decide (ans sz i ≤ 6)))) _
      rw [decide_eq_true b2]
      exact kt rfl _ _ (Same.refl _) rfl
    have ea : acc = ((List.range sz.length).map fun _ => true).map V.bl := by
      rw [filter_all] at pr
      rw [paired_map (v := fun _ => V.bl true) pr, List.map_map]
      rfl
    refine ⟨D1, _, rfl, SqL.of (by rw [hd, ea]), _, rfl, ?_⟩
    have eall : ((List.range sz.length).map fun _ => true).all id = true := by
      rw [List.all_map, List.all_eq_true]
      intro _ _
      rfl
    rw [eall]
    refine iteF ?_
    have s01 := s0.trans s1
    -- the rows: a list of some
    refine ⟨_, rfl, by show 2 ≤ sizeLine; decide, fun p1 n1 => ?_⟩
    have s2 := same_new (o := .tup [V.ty "list", V.ty "tuple"]) n1
    have s02 := s01.trans s2
    obtain ⟨tt, ety, kk⟩ := kitLT (K := K) (H := upd H1 p1 (.tup [V.ty "list", V.ty "tuple"])) (x := .ref a) (.inl (.base (.lst (s02 _ _ ha))))
    refine ⟨.ref a, p1, _, tt, _, true, rfl, upd_same, clsP, ety, kk, true, rfl, ?_⟩
    refine iteF ?_
    refine ⟨_, rfl, a, _, rfl, .inl (SqL.of (s02 _ _ ha)), 1, _, rfl, rfl, _, rfl, ?_⟩
    rw [refs_len, decide_eq_true (show (1 : Int) ≤ (L.length : Int) by omega)]
    refine iteT ⟨_, _, rfl, rfl, _, rfl, ?_⟩
    rw [decide_eq_true (show (L.length : Int) ≤ 64 by omega)]
    refine iteF ?_
    generalize (upd H1 p1 (.tup [V.ty "list", V.ty "tuple"])) = Hs at s02 ⊢
    have hnd := asc_nodup hasc
    refine ⟨_, rfl, a, _, rfl, SqL.of (s02 _ _ ha), ?_⟩
    have we := walk_enum (K := K) (a := a) (xs := refs L)
    rw [refs_len] at we
    refine for_it we (fun i σ H' => Same H H' ∧ ∃ x3 x4, σ = [some (.ref x), some (.ref b), some (.ref a), x3, x4, none]) ⟨s02, none, none, rfl⟩ (fun i σ H' _ p => SqL.of (p.1 _ _ ha)) ?_ ?_
    · rintro i v σ H1 H2 hi ⟨s1, x3, x4, rfl⟩ ⟨T, y, z, rfl, nT, rfl, hy, hz⟩
      obtain rfl : V.int (i : Nat) = y := Option.some.inj hy
      obtain ⟨r, hr', rfl⟩ := refs_get hz
      have hrm : r ∈ L := List.mem_of_getElem? hr'
      have hir := hrg r.2 (mem_rws hrm)
      have sT : Same H1 (upd H1 T (.tup [V.int (i : Nat), V.ref r.1])) := same_new nT
      have s2 := s1.trans sT
      refine gTwo upd_same ?_
      refine ⟨_, rfl, _, rfl, .ref r.1, b, sz, isAns (rowV r.2) sz, rfl, s2 _ _ hb, by omega, .tup (s2 _ _ (hL r hrm)) (by rw [rowV_len, hir.1]; omega) (fun y hy => ?_), fun H3 s3 => ⟨_, rfl, ?_⟩⟩
      · obtain ⟨k, _, rfl⟩ := List.mem_map.mp hy
        exact .inl ⟨k, rfl⟩
      rw [isAns_row hir]
      refine iteF ?_
      have s23 := s2.trans s3
      refine ⟨_, rfl, _, rfl, _, rfl, (i : Int), rfl, a, _, rfl, SqL.of (s23 _ _ ha), fun p np => ?_⟩
      have ec : cutV (refs L) none (some (i : Int)) = refs (L.take i) := by
        unfold cutV
        rw [HT.sIx_none, HT.sIx_nat, List.drop_zero, Nat.sub_zero, refs_len, Nat.min_eq_left (Nat.le_of_lt hi)]
        unfold refs
        rw [List.map_take]
      rw [ec]
      have s4 := same_new (o := .lst (refs (L.take i))) np
      have s24 := s23.trans s4
      refine ⟨rowD r.2, rowsD (rws (L.take i)), dpRow (s24 _ _ (hL r hrm)), dpRowsL (SqL.of upd_same) ((hL.mono (.of_same s24)).sub fun q hq => List.mem_of_mem_take hq), row_shaped _, rowsL_shaped _, ?_⟩
      have hno : (rws (L.take i)).contains r.2 = false := by
        refine Bool.eq_false_iff.mpr fun z => ?_
        have hm := List.contains_iff_mem.mp z
        have e1 : L = L.take i ++ r :: L.drop (i + 1) := cut_at hr'
        have e2 : rws L = rws (L.take i) ++ r.2 :: rws (L.drop (i + 1)) := by
          have := congrArg rws e1
          unfold rws at this ⊢
          rw [List.map_append, List.map_cons] at this
          exact this
        rw [e2, List.nodup_append] at hnd
        exact hnd.2.2 _ hm _ List.mem_cons_self rfl
      rw [any_rows, hno]
      exact ⟨_, rfl, iteF ⟨s24, _, _, rfl⟩⟩
    · rintro σ H1 ⟨s1, x3, x4, rfl⟩
      refine ⟨_, rfl, b, _, rfl, .inr ⟨SqT.of (s1 _ _ hb), ?_⟩⟩
      refine ⟨_, rfl, x, C, dx, [], rfl, s1 _ _ hx, S.c, S.s, by show 0 < 1000; decide, ?_⟩
      have bx : But x H (upd H1 x (.ins C dx (putF "sizes" (.ref b) []))) := (But.of_same s1).upd
      have nax : a ≠ x := ne_of ha hx (fun z => nomatch z)
      have ha2 := bx _ _ ha nax
      have hL2 : AllAt (upd H1 x (.ins C dx (putF "sizes" (.ref b) []))) L := fun p hp => bx _ _ (hL p hp) (nx (hL p hp))
      have hx2 : (upd H1 x (.ins C dx (putF "sizes" (.ref b) []))) x = some (.ins C dx (putF "sizes" (.ref b) [])) := upd_same
      generalize (upd H1 x (.ins C dx (putF "sizes" (.ref b) []))) = H2 at bx ha2 hL2 hx2 ⊢
      refine ⟨_, rfl, a, refs L, rfl, SqL.of ha2, by rw [refs_len]; omega, fun y hy => ?_, fun ys p hp hw np => ?_⟩
      · obtain ⟨r, hr', rfl⟩ := List.mem_map.mp hy
        refine ⟨r.2, ⟨r.1, rfl, SqT.of (hL2 r hr')⟩, (hrg r.2 (mem_rws hr')).1, fun m hm => ?_⟩
        obtain ⟨k, hk, e⟩ := List.getElem_of_mem hm
        have h1 := (hrg r.2 (mem_rws hr')).2 k (by rw [← (hrg r.2 (mem_rws hr')).1]; exact hk)
        have h2 := hsz k (by rw [← (hrg r.2 (mem_rws hr')).1]; exact hk)
        have h3 : ans r.2 k = m := by
          unfold ans
          rw [List.getD_eq_getElem?_getD, List.getElem?_eq_getElem hk, e]
          rfl
        omega
      obtain ⟨M, hM, eM⟩ := perm_lift (fun q : Addr × Row => V.ref q.1) hp L rfl
      have eM : ys = refs M := eM.symm
      subst eM
      have hML : ∀ q, q ∈ M → q ∈ L := fun q hq => hM.mem_iff.mp hq
      have eL : M = L := by
        refine asc_eq hasc ?_ hM
        have := hw
        unfold refs at this
        rw [List.pairwise_map] at this
        exact this.imp_of_mem fun {u v} hu hv z => z _ _ ⟨u.1, rfl, SqT.of (hL2 u (hML u hu))⟩ ⟨v.1, rfl, SqT.of (hL2 v (hML v hv))⟩
      subst eL
      have s3 := same_new (o := .lst (refs M)) np
      refine ⟨p, _, rfl, .inl ⟨SqL.of upd_same, fun l nl => ?_⟩⟩
      have s4 := same_new (o := .tup (refs M)) nl
      have s34 := s3.trans s4
      refine ⟨_, rfl, x, C, dx, _, rfl, s34 _ _ hx2, S.c, S.r, by show 1 < 1000; decide, ?_⟩
      have bx' := (bx.then s34).upd (o := .ins C dx (putF "rows" (.ref l) (putF "sizes" (.ref b) [])))
      have nbx := nx hb
      have nlx : l ≠ x := fun z => by
        have := s3 _ _ hx2
        rw [← z, nl] at this
        cases this
      refine q _ bx' ⟨⟨C, dx, b, l, _, upd_same, S.c, S.s, S.r, ?_, ?_, bx' _ _ hb nbx, by rw [upd_ne nlx, upd_same]⟩, fun p hp => bx' _ _ (hL p hp) (nx (hL p hp)), fun z => ?_, hrg, hz6, by omega⟩
      · rw [lookup_putF, if_neg (by decide +kernel), lookup_putF, if_pos rfl]
      · rw [lookup_putF, if_pos rfl]
      · rw [z] at hl1
        exact absurd hl1 (by decide)
end
end K71
set_option Elab.async false
set_option linter.all false
set_option maxRecDepth 100000
set_option maxHeartbeats 4000000
/-! k71: sets of ints of a list, as HandS.SetFor has them of a tuple. -/
namespace K71
open PySem PySem.W PySem.Spec PyProof.Rows L2 PySem.Calls
section
variable {P : Program} {w : World} {A : Around} {E : Value → Shared → Prop} {s : Shared}
theorem call_set_intsL {l : Addr} {items : Array Value} (ns : List Int) {Q : Value → Shared → Prop} (hh : A.handled = none) (hl : s.heap.IsList l items) (hit : IntsAre items.toList ns) (hb : ns.length + 1 < scanBound)
    (h : ∀ (h' : Heap) (tk c : Nat), SetR w h' s.heap.objs.size (fun j => decide (j ∈ ns)) c → c ≤ ns.length → (∀ b o, s.heap.get? b = some o → h'.get? b = some o) → Q (.ref s.heap.objs.size) { s with heap := h', toks := tk }) :
    wpAny (model P w) A (call (.type "set") [.ref l]) Q E s := by
  have hisz : items.size = ns.length := by
    have q := IntsAre.length hit
    rw [Array.length_toList] at q
    exact q
  obtain ⟨c, tl, hmro⟩ := F.called_set.mro
  have hmade := F.called_set.made
  have hsub := F.called_set.sub
  refine wpAny_call (codeAny_of_tree ?_)
  show wpAny _ _ (PySem.callAny (.type "set") _) _ _ _
  refine wpAny_pure ⟨Code.quiet_builtin _ (by decide +kernel), codeAny_builtin F.entry_type_call ?_⟩
  rw [Around.under_plain (weight_type_call_type "set" [.ref l] []) rfl]
  have h1 := F.called_set.notType
  have h2 := F.called_set.canCreate
  have hct := F.typeCall_set_1 (.ref l)
  repeat (any_goals (first | assumption | wp_step))

  refine codeAny_mono (code_set_led1 (.ref l) (E := E) (Q₁ := fun obj s₁ => obj = .ref s.heap.objs.size ∧ s₁ = { s with heap := s.heap.push { cls := .type "set", dict := none, data := .set #[] 0 (.fresh 0 0 (!w.params.followText "set-order")) } }) ⟨rfl, rfl⟩) fun r s₁ hr => ?_
  cases r with
  | error e => exact hr
  | ok fl =>
    cases fl with
    | ret obj =>
      obtain ⟨rfl, rfl⟩ := hr
      have hS : (s.heap.push { cls := .type "set", dict := none, data := .set #[] 0 (.fresh 0 0 (!w.params.followText "set-order")) }).get? s.heap.objs.size = some { cls := .type "set", dict := none, data := .set #[] 0 (.fresh 0 0 (!w.params.followText "set-order")) } := Heap.get?_push_size _ rfl
      have hT : Shared.TypeIs { s with heap := s.heap.push { cls := .type "set", dict := none, data := .set #[] 0 (.fresh 0 0 (!w.params.followText "set-order")) } } (.ref s.heap.objs.size) "set" := ⟨_, hS, rfl⟩
      have hli := F.called_set.init.lookup
      have hbi := F.called_set.init.bind (.ref s.heap.objs.size)
      repeat (any_goals (first | assumption | wp_step))

      refine codeAny_mono (codeAny_call_builtin (R := wants (fun r s₂ => r = .none ∧ ∃ h' tk c, s₂ = { s with heap := h', toks := tk } ∧ SetR w h' s.heap.objs.size (fun j => decide (j ∈ ns)) c ∧ c ≤ ns.length ∧
          (∀ b o, s.heap.get? b = some o → h'.get? b = some o)) E) F.called_set.init.plain F.entry_set_init (check_set_init_1 hT ?_)) fun r₂ s₂ hr₂ => ?_
      · obtain ⟨ol, hol, hcl, nl, hdl⟩ := hl
        obtain ⟨ocls, odict, odata, oslots⟩ := ol
        simp only at hcl hdl
        subst hcl; subst hdl
        have hol' : (s.heap.push { cls := .type "set", dict := none, data := .set #[] 0 (.fresh 0 0 (!w.params.followText "set-order")) }).get? l = some { cls := .type "list", dict := odict, data := .seq items nl, slots := oslots } := Heap.get?_push_of_some _ hol
        have hsls := F.sub_list_set
        have hslf := F.sub_list_frozenset
        have hne : (Value.type "list" == Value.type "dict") = false := by decide
        have hl1 : (s.heap.push { cls := .type "set", dict := none, data := .set #[] 0 (.fresh 0 0 (!w.params.followText "set-order")) }).IsList l items := ⟨_, hol', rfl, nl, rfl⟩
        unfold Builtin.«set.__init__» noKeywords Builtin.Frozenset.updateFrom
        generalize hPI : pyIter = PI
        wp_walk
        subst hPI

        refine wpAny_pyIter_list hl1 ?_
        refine wpAny_bind (wpAny_runValue ?_)
        have hlS : l < s.heap.objs.size := Heap.lt_size hol
        have hh3 : A.in1.in1.in1.handled = none := by simp [hh]
        have hz1 : (s.heap.push { cls := .type "set", dict := none, data := .set #[] 0 (.fresh 0 0 (!w.params.followText "set-order")) }).objs.size = s.heap.objs.size + 1 := Heap.size_push ..
        have hneI : l ≠ (s.heap.push { cls := .type "set", dict := none, data := .set #[] 0 (.fresh 0 0 (!w.params.followText "set-order")) }).objs.size := by
          rw [Heap.size_push]; exact Nat.ne_of_lt (Nat.lt_succ_of_lt hlS)
        have hSf : s.heap.objs.size ∉ [(s.heap.push { cls := .type "set", dict := none, data := .set #[] 0 (.fresh 0 0 (!w.params.followText "set-order")) }).objs.size, l] := by
          rw [Heap.size_push]; simp only [List.mem_cons, List.mem_singleton, List.not_mem_nil, or_false, not_or]
          exact ⟨Nat.ne_of_lt (Nat.lt_succ_self _), Nat.ne_of_gt hlS⟩
        have hval : ∀ (i : Nat) (v : Value), items[i]? = some v → ∃ k t, ns[i]? = some k ∧ v = .int k t := fun i v hv => by
          have hi : i < ns.length := by rw [← hisz]; exact (Array.getElem?_eq_some_iff.mp hv).1
          obtain ⟨t, e⟩ := PyProof.Rows.IntsAre.int_at hit i v (by rw [Array.getElem?_toList]; exact hv)
          refine ⟨ns[i], t, List.getElem?_eq_getElem hi, ?_⟩
          rw [e, List.getD_eq_getElem?_getD, List.getElem?_eq_getElem hi] <;> rfl
        refine set_update_ints ((Walks.list hh3 _ l hneI items).toS) s.heap.objs.size
          hSf ns hisz hb hval (items.size - 0) 0 _ (by omega) (Nat.zero_le _)
          ⟨⟨_, Heap.get?_push_size _ rfl, rfl, rfl⟩, (hl1.push _)⟩ ?hS0 ?hR
        case hS0 =>
          have hget : ((s.heap.push { cls := .type "set", dict := none, data := .set #[] 0 (.fresh 0 0 (!w.params.followText "set-order")) }).push { cls := .type "list_iterator", data := .fields #[.ref l, .int 0 0] }).get? s.heap.objs.size
              = some { cls := .type "set", dict := none, data := .set #[] 0 (.fresh 0 0 (!w.params.followText "set-order")) } := Heap.get?_push_of_some _ hS
          exact ⟨0, Nat.le_refl 0, setR_new_at hget⟩
        case hR =>
          intro s' c' hm hc' hS'
          obtain ⟨h', g2, d', tk', os'⟩ := s'
          have eg : g2 = s.gens := hm.gens
          have ed : d' = s.drawn := hm.drawn
          have eo : os' = s.os := hm.os
          subst eg; subst ed; subst eo
          show wpAny _ _ _ _ _ _
          refine wpAny_pure ?_
          show wpAny _ _ (ret Value.none) _ _ _
          rw [hisz] at hc'
          refine wpAny_pure ⟨rfl, h', tk', c', rfl, hS', hc', fun b o e => ?_⟩
          have hb0 : b < s.heap.objs.size := Heap.lt_size e
          have hb1 : b ≠ s.heap.objs.size := Nat.ne_of_lt hb0
          have hb2 : b ≠ (s.heap.push { cls := .type "set", dict := none, data := .set #[] 0 (.fresh 0 0 (!w.params.followText "set-order")) }).objs.size := by
            rw [Heap.size_push]; exact Nat.ne_of_lt (Nat.lt_succ_of_lt hb0)
          exact hm.heap b o (by simp only [List.mem_cons, List.mem_singleton, List.not_mem_nil, or_false, not_or]; exact ⟨hb1, hb2⟩) (Heap.get?_push_of_some _ (Heap.get?_push_of_some _ e))

      · cases r₂ with
        | error e => exact hr₂
        | ok fl₂ =>
          cases fl₂ with
          | ret r =>
            obtain ⟨rfl, h', tk, c', rfl, hS', hc', hk'⟩ := hr₂
            repeat (any_goals (first | assumption | wp_step))
            exact h _ _ _ hS' hc' hk'
          | _ => exact hr₂.elim
    | _ => exact hr.elim

end
end K71
set_option Elab.async false
set_option linter.all false
set_option maxRecDepth 100000
set_option maxHeartbeats 4000000
/-! k71: sets of ints: their rules. -/
namespace K71
open PySem PySem.W PySem.Spec PyProof.Rows L2
theorem oss_nd : ∀ l : List Int, (ossOf l).Nodup := by
  intro l
  induction l using snoc_ind with
  | h0 => exact List.nodup_nil
  | h1 l x ih =>
    rw [oss_next]
    by_cases c : x ∈ ossOf l
    · rw [if_pos c]; exact ih
    · rw [if_neg c, List.nodup_append]
      refine ⟨ih, List.nodup_cons.mpr ⟨(fun z => nomatch z), List.nodup_nil⟩, fun a ha b hb e => ?_⟩
      rw [List.mem_singleton.mp hb] at e
      exact c (e ▸ ha)
theorem nd_same_len {l m : List Int} (h1 : l.Nodup) (h2 : m.Nodup) (h : ∀ x, x ∈ l ↔ x ∈ m) : l.length = m.length :=
  Nat.le_antisymm (nodup_sub_len l m h1 fun x hx => (h x).mp hx) (nodup_sub_len m l h2 fun x hx => (h x).mpr hx)
section
variable {X : Cx}
/-- set(xs), xs a list of ints -/
def rSetL (K : PySem.W.Frag) (w : World) : List V → Hp → VK → Prop := fun xs H Q => ∃ (l : Addr) (ns : List Int), xs = [V.ref l] ∧ SqL K H l (ns.map V.int) ∧ ns.length ≤ 60 ∧
  ∀ a c, H a = none → c ≤ 60 → Q (.ref a) (upd H a (SetO w a (fun j => decide (j ∈ ns)) c))
theorem cr_setL (hc : X.calm = true) : CallR X (.type "set") (rSetL X.K X.w) := by
  intro pins s σ H xs us Q I r h
  obtain ⟨l, ns, rfl, hl, hf, q⟩ := h
  rw [Vals.ref1 r]
  obtain ⟨its, rv, pl, hz⟩ := I.list hl
  have hn : H s.heap.objs.size = none := I.hok.fresh (Nat.le_refl _)
  refine call_set_intsL (P := X.prog) (w := X.w) ns (I.ok.hd hc) pl.isList (by simpa using rv.ints) (by unfold scanBound; omega) fun h' tk c R hcl k => ?_
  exact ⟨.ref s.heap.objs.size, upd H s.heap.objs.size (SetO X.w s.heap.objs.size (fun j => decide (j ∈ ns)) c), I.laid (t' := tk) k (Nat.le_refl _) (setO_new R), rfl, q _ c hn (by omega)⟩
def tLenSetD (K : PySem.W.Frag) (ta : TE) : TE := fun σ H Q => ta σ H fun x H1 => ∃ (l : Addr) (ns : List Int), x = V.ref l ∧ SqL K H1 l (ns.map V.int) ∧ ns.length < 64 ∧ Q (.int (ossOf ns).length) H1
theorem pe_lenSetD {a : Expr} {ta : TE} {p p2 q pos : Pos} (hg : Gl X "len") (hm : X.mg "len" = none) (hg2 : Gl X "set") (hm2 : X.mg "set" = none) (ha : PE X a ta) (hc : X.calm = true := by rfl) {K : PySem.W.Frag} (hk : X.K = K := by rfl)
    (na : starEach [a] X.env = (false, eval a X.env) :: starEach [] X.env := by rfl) : PE X (.Call (.Name "len" p) [.Call (.Name "set" p2) [a] [] q] [] pos) (tLenSetD K ta) := by
  subst hk
  refine ⟨fun pins s σ H Q I h => ?_⟩
  refine Call_ (ld_blt I hg hm PySem.boot_len ?_)
  refine callWith_builtin1 (args_cons ?_ rfl) rfl rfl
  refine Call_ (ld_blt I hg2 hm2 boot_set ?_)
  refine callWith_type1 (args_cons (thn (ha.run pins s σ H _ I h) fun v s1 ⟨x, H1, I1, r1, q1⟩ => args_nil ?_) na) na rfl
  obtain ⟨l, ns, rfl, hq, h1, q1⟩ := q1
  cases r1
  obtain ⟨its, r, pl, hz⟩ := I1.list hq
  have hl : its.toArray.size = ns.length := by rw [List.size_toArray, ← r.length, List.length_map]
  refine call_set_list (I1.ok.hd hc) pl.isList (ns := ns) (by simpa using r.ints) (by unfold scanBound; omega) fun h' tk hS hkp => ?_
  rw [hl, oss_met] at hS
  refine args_nil ?_
  obtain ⟨o, es, ep, t, ho, hex, hd, _, _, _, hf, hn⟩ := hS
  have I2 : Inv X pins σ H1 { s1 with heap := h', toks := tk } := I1.kept fun b o e => hkp b o (Heap.lt_size e) e
  have hll := oss_len ns
  refine call_len_set ho hex hd hf (by rw [hn] <;> omega) ⟨.int (ossOf ns).length, H1, I2.tok _, ⟨_, by rw [hn]⟩, q1⟩
/-- len(a set of tuples) -/
def rLenST (K : PySem.W.Frag) (P : Program) (w : World) : List V → Hp → VK → Prop := fun vs H Q => ∃ (a : Addr) (L : List (Addr × List Int)), vs = [V.ref a] ∧ H a = some (SetTO P w a L) ∧ (∀ p ∈ L, SqT K H p.1 (p.2.map V.int)) ∧ ((L.map (·.2)).Nodup → Q (.int L.length) H)
theorem cr_lenST : CallR X (.builtin "len") (rLenST X.K X.prog X.w) := by
  intro pins s σ H vs us Q I r h
  obtain ⟨a, L, rfl, ha, hk, q⟩ := h
  have R0 : SetT0 X.prog X.w s.heap a L := (I.hok a _ ha).1
  obtain ⟨es, ep, t, R⟩ := R0.full fun p hp => I.isT (hk p hp)
  rw [Vals.ref1 r]
  obtain ⟨o, ho, hex, hd⟩ := R.ob
  have hs := R.size
  have hf := R.few
  exact call_len_set ho hex hd R.fits (by omega) ⟨.int L.length, H, I.tok _, ⟨_, by rw [hs]⟩, q R.nd⟩
end
end K71
set_option Elab.async false
set_option linter.all false
set_option maxRecDepth 100000
set_option maxHeartbeats 4000000
/-! k71: the law's own small defs. -/
namespace K71
open PySem PySem.W PySem.Spec PyProof.Rows L2
section
variable {P : Program} {w : World} {K : PySem.W.Frag} {mg : Str → Option Value} {base : Heap}
/-- [row[place] for row in rows] -/
theorem lc_col {σ : L2.St} {H : Hp} {i j m pl n : Nat} {vs : List Nat} {a : Addr} {L : RL} {Q : VK} (hi : (wipe σ vs)[i]? = some (some (.ref a))) (hi0 : σ[i]? = some (some (.ref a))) (hw : ∀ x, wipe ((wipe σ vs).set j (some x)) vs = wipe σ vs) (hj : ∀ x, ((wipe σ vs).set j (some x))[j]? = some (some x))
    (hm : ∀ x, ((wipe σ vs).set j (some x))[m]? = some (some (.int (pl : Int)))) (hA : SqA K H a (refs L)) (hL : AllAt H L) (hl : L.length ≤ 1000) (hwd : Wid n (rws L)) (hp : pl < n)
    (q : ∀ D H', Same H H' → H' D = some (.lst (((rws L).map fun r => ans r pl).map V.int)) → Q (.ref D) H') : tLc (iSeq K (tVar i)) (gName j) tYes (tOp (rIxT K) (tVar j) (tVar m)) vs σ H Q := by
  unfold tLc
  refine iSeq_var hi0 hA ?_
  intro J G hG wk D hD
  rw [refs_len] at wk
  refine lc_same wk (fun _ => true) (fun k y _ => y = V.int (((rws L).map fun r => ans r pl).getD k 0)) (fun _ _ _ _ _ e => e) hD (by omega) hG ?_ (fun H1 acc s1 hd pr => ?_)
  · rintro k x H1 H2 N hk s1 ⟨rfl, hx⟩ kt _
    obtain ⟨p, hp', rfl⟩ := refs_get hx
    have hpm : p ∈ L := List.mem_of_getElem? hp'
    refine ⟨hw _, ?_⟩
    refine ⟨_, hj _, _, hm _, rIxT_of (s1 _ _ (hL p hpm)) (rowV_at (by rw [hwd p.2 (mem_rws hpm)]; exact hp)) (kt rfl _ _ (Same.refl _) ?_)⟩
    rw [List.getD_eq_getElem?_getD, List.getElem?_map]
    unfold rws
    rw [List.getElem?_map, hp']
    rfl
  · rw [filter_all] at pr
    have e := paired_map (v := fun k => V.int (((rws L).map fun r => ans r pl).getD k 0)) pr
    have el : L.length = ((rws L).map fun r => ans r pl).length := by rw [List.length_map, rws_len]
    refine q D _ s1 ?_
    rw [hd, e, el, range_map ((rws L).map fun r => ans r pl) 0 V.int]
/-! ### l_part -/
def spPart (K : PySem.W.Frag) : Sp := fun vs H Q _ => ∃ (a : Addr) (L : RL) (n p : Nat) (v : Int), vs = [.ref a, .int p, .int v] ∧ SqA K H a (refs L) ∧ AllAt H L ∧ Wid n (rws L) ∧ p < n ∧ L.length ≤ 100 ∧
  ∀ l H', H l = none → Same H H' → H' l = some (.lst (refs (partL L p v))) → Q (.ref l) H'
theorem k_l_part (B : Bi mg) (D : Placed K mg "_law_part" s_l_part p_l_part) : Kept P w K mg base CX0 1 "_law_part" p_l_part (spPart K) := by
  refine D.keep fun f fd F => F.ok sc_l_part (fun vs H Q E h => ?_) (fun cdv A outer s H vs Q E hr h => ?_)
  · obtain ⟨a, L, n, p, v, rfl, _⟩ := h
    rfl
  · obtain ⟨a, L, n, p, v, rfl, hA, hL, hw, hp, hl, q⟩ := h
    refine ⟨_, pss_one (ps_ret (pe_lc (own := [("_law_row", 3)]) (g := gName 3) (by rfl) sc_l_part.nd (pi_sq (K := K) (pv 0)) (blkOk_by (N := n_l_part) (sc := defScope s_l_part) (by decide +kernel))
      (fun _ _ _ _ _ => pg_name (i := 3) sc_l_part.nd rfl (Or.inl rfl)) (fun _ _ _ _ _ => pts_one (pt_cmpR op_eq (pe_ix (ixT (K := K)) (pv 3) (pv 1) (fun _ _ => rfl)) (pv 2) (nomark _))) (fun _ _ _ _ _ => pv 3))), ?_⟩
    unfold tRet tLc
    refine iSeq_var rfl hA ?_
    intro J G hG wk D hD
    rw [refs_len] at wk
    refine lc_same wk (fun i => (L[i]?.map fun q => ans q.2 p == v).getD false) (fun i y _ => y = (refs L).getD i .non) (fun _ _ _ _ _ e => e) hD (by omega) hG ?_ (fun H1 acc s1 hd pr => ?_)
    · rintro i x H1 H2 N hi s1 ⟨rfl, hx⟩ kt kf
      obtain ⟨r, hr', rfl⟩ := refs_get hx
      have hrm : r ∈ L := List.mem_of_getElem? hr'
      refine ⟨rfl, ?_⟩
      refine ⟨_, rfl, _, rfl, rIxT_of (s1 _ _ (hL r hrm)) (rowV_at (by rw [hw r.2 (mem_rws hrm)]; exact hp)) ⟨_, rfl, rfl, _, rfl, ?_⟩⟩
      rw [dec_int]
      rw [hr'] at kt kf
      cases c : ans r.2 p == v with
      | true => exact ⟨_, rfl, kt c _ _ (Same.refl _) (by rw [List.getD_eq_getElem?_getD, hx]; rfl)⟩
      | false => exact kf c _ (Same.refl _)
    · have e := filter_turns (fun q => ans q.2 p == v) pr
      exact q D _ hD s1 (by rw [hd, e]; rfl)
end
end K71
set_option Elab.async false
set_option linter.all false
set_option maxRecDepth 100000
set_option maxHeartbeats 4000000
namespace K71
open PySem PySem.W PySem.Spec PyProof.Rows L2
theorem oss_one {l : List Int} {v : Int} (h0 : l ≠ []) (h : ∀ x, x ∈ l → x = v) : (ossOf l).length = 1 := by
  have := nd_same_len (oss_nd l) (List.nodup_cons.mpr ⟨(fun z => nomatch z), List.nodup_nil⟩ : [v].Nodup) fun x => by
    rw [oss_has, List.mem_singleton]
    refine ⟨h x, fun e => ?_⟩
    obtain ⟨y, hy⟩ := List.exists_mem_of_ne_nil l h0
    rw [e, ← h y hy]
    exact hy
  rw [this]
  rfl
theorem oss_two {l : List Int} {x y : Int} (hx : x ∈ l) (hy : y ∈ l) (n : x ≠ y) : 1 < (ossOf l).length := by
  have := nodup_sub_len [x, y] (ossOf l) (List.nodup_cons.mpr ⟨by simpa using n, List.nodup_cons.mpr ⟨(fun z => nomatch z), List.nodup_nil⟩⟩) fun z hz => by
    rw [oss_has]
    rcases List.mem_cons.mp hz with e | hz
    · rw [e]; exact hx
    · rw [List.mem_singleton.mp hz]; exact hy
  exact this
theorem oss_shut {rs : List Row} {p : Nat} (hne : rs ≠ []) (h : opnAt rs p = false) : (ossOf (rs.map fun r => ans r p)).length = 1 := by
  obtain ⟨r, hr⟩ := List.exists_mem_of_ne_nil rs hne
  refine oss_one (v := ans r p) (fun z => hne (List.map_eq_nil_iff.mp z)) fun x hx => ?_
  obtain ⟨o, ho, rfl⟩ := List.mem_map.mp hx
  exact (shut_of hr).mp h o ho
theorem oss_open {rs : List Row} {p : Nat} (h : opnAt rs p = true) : 1 < (ossOf (rs.map fun r => ans r p)).length := by
  obtain ⟨a, ha, b, hb, n⟩ := opnAt_iff.mp h
  exact oss_two (List.mem_map.mpr ⟨a, ha, rfl⟩) (List.mem_map.mpr ⟨b, hb, rfl⟩) n
theorem lc_seq {K : PySem.W.Frag} {σ : L2.St} {H : Hp} {i : Nat} {g : TG} {tt : TT} {te : TE} {vs : List Nat} {a : Addr} {L : RL} {Q : VK} (hi0 : σ[i]? = some (some (.ref a))) (hA : SqA K H a (refs L)) (hl : L.length ≤ 1000) (f : Nat → Bool) (E : Nat → V → Hp → Prop) (hE : ∀ i y H H', Tups H H' → E i y H → E i y H')
    (turn : ∀ k r H' (N : Option V → Hp → Prop), k < L.length → L[k]? = some r → Same H H' → (f k = true → ∀ y H4, Same H' H4 → E k y H4 → N (some y) H4) → (f k = false → ∀ H4, Same H' H4 → N none H4) →
      g (.ref r.1) (wipe σ vs) H' fun σ2 H2 => wipe σ2 vs = wipe σ vs ∧ tt σ2 H2 fun b H3 => if b = true then te σ2 H3 fun y H4 => N (some y) H4 else N none H3)
    (done : ∀ D H' acc, H D = none → Same H H' → H' D = some (.lst acc) → Paired (fun i y => E i y H') ((List.range L.length).filter f) acc → Q (.ref D) H') : tLc (iSeq K (tVar i)) g tt te vs σ H Q := by
  unfold tLc
  refine iSeq_var hi0 hA ?_
  intro J G hG wk D hD
  rw [refs_len] at wk
  refine lc_same wk f E hE hD (by omega) hG ?_ (fun H1 acc s1 hd pr => done D H1 acc hD s1 hd pr)
  rintro k x H1 H2 N hk s1 ⟨rfl, hx⟩ kt kf
  obtain ⟨r, hr', rfl⟩ := refs_get hx
  exact turn k r H2 N hk hr' s1 kt kf
theorem col_turns : ∀ (L : RL) (o : Nat) (r : Row) (p : Nat), ((List.range L.length).filter fun i => (L[i]?.map fun q => ans q.2 o == ans r o).getD false).map (fun i => V.int (ans ((rws L).getD i []) p)) = ((part (rws L) o r).map fun q => ans q p).map V.int
  | [], o, r, p => rfl
  | x :: L, o, r, p => by
    have ih := col_turns L o r p
    rw [List.length_cons, List.range_succ_eq_map, List.filter_cons, List.filter_map]
    have e1 : (List.filter ((fun i => ((x :: L)[i]?.map fun q => ans q.2 o == ans r o).getD false) ∘ Nat.succ) (List.range L.length)) = (List.range L.length).filter fun i => (L[i]?.map fun q => ans q.2 o == ans r o).getD false := by
      congr 1
    rw [e1]
    have e2 : List.map (fun i => V.int (ans ((rws (x :: L)).getD i []) p)) (List.map Nat.succ ((List.range L.length).filter fun i => (L[i]?.map fun q => ans q.2 o == ans r o).getD false)) = ((part (rws L) o r).map fun q => ans q p).map V.int := by
      rw [List.map_map, ← ih]
      rfl
    have e3 : part (rws (x :: L)) o r = if (ans x.2 o == ans r o) = true then x.2 :: part (rws L) o r else part (rws L) o r := by
      unfold part partA rws
      rw [List.map_cons, List.filter_cons]
    rw [e3]
    cases c : (ans x.2 o == ans r o) with
    | true =>
      have : (((x :: L)[0]?.map fun q => ans q.2 o == ans r o).getD false) = true := c
      rw [if_pos this, if_pos rfl, List.map_cons, e2]
      rfl
    | false =>
      have : ¬ (((x :: L)[0]?.map fun q => ans q.2 o == ans r o).getD false) = true := by show ¬ (ans x.2 o == ans r o) = true; rw [c]; exact Bool.false_ne_true
      rw [if_neg this, if_neg Bool.false_ne_true, e2]
def spLHangs (K : PySem.W.Frag) : Sp := fun vs H Q _ => ∃ (a b : Addr) (L : RL) (n p o : Nat) (r : Row), vs = [.ref a, .ref b, .int p, .int o] ∧ SqA K H a (refs L) ∧ AllAt H L ∧ H b = some (.tup (rowV r)) ∧ r ∈ rws L ∧ Wid n (rws L) ∧ p < n ∧ o < n ∧ L.length ≤ 60 ∧
  ∀ H', Same H H' → Q (.bl (!opnAt (part (rws L) o r) p)) H'
section
variable {P : Program} {w : World} {K : PySem.W.Frag} {mg : Str → Option Value} {base : Heap}
/-! ### l_open -/
def spOpen (K : PySem.W.Frag) : Sp := fun vs H Q _ => ∃ (a : Addr) (L : RL) (n : Nat), vs = [.ref a] ∧ SqA K H a (refs L) ∧ AllAt H L ∧ L ≠ [] ∧ Wid n (rws L) ∧ n ≤ 100 ∧ L.length ≤ 60 ∧
  ∀ l H', H l = none → Same H H' → H' l = some (.lst (intsV (opn n (rws L)))) → Q (.ref l) H'
theorem k_l_open (B : Bi mg) (D : Placed K mg "_law_open" s_l_open p_l_open) : Kept P w K mg base CX0 1 "_law_open" p_l_open (spOpen K) := by
  refine D.keep fun f fd F => F.ok sc_l_open (fun vs H Q E h => ?_) (fun cdv A outer s H vs Q E hr h => ?_)
  · obtain ⟨a, L, n, rfl, _⟩ := h
    rfl
  · obtain ⟨a, L, n, rfl, hA, hL, hne, hw, hn, hl, q⟩ := h
    refine ⟨_, pss_one (ps_ret (pe_lc (own := [("_law_place", 1)]) (g := gName 1) (by rfl) sc_l_open.nd (pi_range1 (by rfl) B.range (pa_cons (pe_callB (callLen (K := K)) (by rfl) B.len PySem.boot_len (pa_cons (pe_ix (ixA (K := K)) (pv 0) pe_int (fun _ _ => rfl)) pa_nil)) pa_nil))
      (blkOk_by (N := n_l_open) (sc := defScope s_l_open) (by decide +kernel)) (fun _ _ _ _ _ => pg_name (i := 1) sc_l_open.nd rfl (Or.inr rfl))
      (fun _ _ _ _ _ => pts_one (pt_cmpR op_gt (pe_lenSetD (K := K) (by rfl) B.len (by rfl) B.set
        (pe_lc (own := [("_law_row", 2)]) (g := gName 2) (by rfl) sc_l_open.nd (pi_sq (K := K) (pv 0)) (blkOk_by (by kernel_rfl)) (fun _ _ _ _ _ => pg_name (i := 2) sc_l_open.nd rfl (Or.inl rfl)) (fun _ _ _ _ _ => pts_nil)
          (fun _ _ _ _ _ => pe_ix (ixT (K := K)) (pv 2) (pv 1) (fun _ _ => rfl)))) pe_int (nomark _)))
      (fun _ _ _ _ _ => pv 1))), ?_⟩
    obtain ⟨p0, L', rfl⟩ : ∃ p L', L = p :: L' := by
      cases L with
      | nil => exact absurd rfl hne
      | cons p L' => exact ⟨p, L', rfl⟩
    have h0 : H p0.1 = some (.tup (rowV p0.2)) := hL p0 List.mem_cons_self
    have n0 : p0.2.length = n := hw p0.2 List.mem_cons_self
    refine ⟨_, rfl, rIx_of hA (atI_nat (j := 0) (v := .ref p0.1) rfl) ?_⟩
    refine ⟨p0.1, _, rfl, .inr (SqT.of h0), _, rfl, ?_, ?_, fun Dl hD => ?_⟩
    · omega
    · rw [rowV_len, n0]; omega
    rw [show (((rowV p0.2).length : Nat) : Int).toNat = n by rw [rowV_len, n0]; rfl]
    refine lc_same walk_range0 (opnAt (rws (p0 :: L'))) (fun i y _ => y = .int (i : Int)) (fun _ _ _ _ _ e => e) hD (by omega) (fun _ _ => trivial) ?_ (fun H1 acc s1 hd pr => ?_)
    · rintro i x H1 H2 N hi s1 ⟨rfl, rfl⟩ kt kf
      refine ⟨rfl, ?_⟩
      unfold tTest tOp tLenSetD
      refine lc_col (K := K) (i := 0) (j := 2) (m := 1) (pl := i) (n := n) rfl rfl (fun _ => rfl) (fun _ => rfl) (fun _ => rfl) (same_a s1 hA) (hL.mono (.of_same s1)) (by omega) hw hi fun D2 H3 s3 e3 => ?_
      refine ⟨D2, _, rfl, SqL.of e3, by rw [List.length_map, rws_len]; omega, ?_⟩
      cases c : opnAt (rws (p0 :: L')) i with
      | true =>
        have h1 := oss_open c
        refine ⟨_, _, rfl, rfl, _, rfl, ?_⟩
        rw [decide_eq_true (show ((ossOf ((rws (p0 :: L')).map fun r => ans r i)).length : Int) > 1 by omega)]
        exact ⟨_, rfl, kt c _ _ s3 rfl⟩
      | false =>
        have h1 := oss_shut (rs := rws (p0 :: L')) (fun z => by cases z) c
        refine ⟨_, _, rfl, rfl, _, rfl, ?_⟩
        rw [h1]
        exact kf c _ s3
    · have e := paired_map (v := fun i => V.int (i : Int)) pr
      exact q Dl _ hD s1 (by rw [hd, e]; rfl)
/-! ### l_answers -/
def spAns (K : PySem.W.Frag) : Sp := fun vs H Q _ => ∃ (a : Addr) (L : RL) (n p : Nat), vs = [.ref a, .int p] ∧ SqA K H a (refs L) ∧ AllAt H L ∧ Wid n (rws L) ∧ p < n ∧ L.length ≤ 60 ∧
  ∀ (as : List Int) l H', H l = none → Same H H' → (∀ v, v ∈ as ↔ v ∈ firsts (rws L) p) → as.Nodup → H' l = some (.lst (as.map V.int)) → Q (.ref l) H'
theorem k_l_answers (B : Bi mg) (D : Placed K mg "_law_answers" s_l_answers p_l_answers) : Kept P w K mg base CX0 1 "_law_answers" p_l_answers (spAns K) := by
  refine D.keep fun f fd F => F.ok sc_l_answers (fun vs H Q E h => ?_) (fun cdv A outer s H vs Q E hr h => ?_)
  · obtain ⟨a, L, n, p, rfl, _⟩ := h
    rfl
  · obtain ⟨a, L, n, p, rfl, hA, hL, hw, hp, hl, q⟩ := h
    refine ⟨_, pss_one (ps_ret (pe_callB (cr_sortedSet (by rfl)) (by rfl) B.sorted PyProof.Rows.boot_sorted (pa_cons (pe_callTy (cr_setL (by rfl)) (by rfl) B.set PyProof.Rows.boot_set (pa_cons
        (pe_lc (own := [("_law_row", 2)]) (g := gName 2) (by rfl) sc_l_answers.nd (pi_sq (K := K) (pv 0)) (blkOk_by (N := n_l_answers) (sc := defScope s_l_answers) (by decide +kernel)) (fun _ _ _ _ _ => pg_name (i := 2) sc_l_answers.nd rfl (Or.inl rfl)) (fun _ _ _ _ _ => pts_nil)
          (fun _ _ _ _ _ => pe_ix (ixT (K := K)) (pv 2) (pv 1) (fun _ _ => rfl))) pa_nil)) pa_nil))), ?_⟩
    unfold tRet tCB tCons
    refine lc_col (K := K) (i := 0) (j := 2) (m := 1) (pl := p) (n := n) rfl rfl (fun _ => rfl) (fun _ => rfl) (fun _ => rfl) hA hL (by omega) hw hp fun D1 H1 s1 e1 => ?_
    refine ⟨D1, _, rfl, SqL.of e1, by rw [List.length_map, rws_len]; omega, fun st c nst hc => ?_⟩
    have s2 := same_new (o := SetO w st (fun j => decide (j ∈ (rws L).map fun r => ans r p)) c) nst
    refine ⟨st, _, c, rfl, upd_same, by omega, fun ns l h1 h2 _ nl => ?_⟩
    refine q ns l _ (s1.free (s2.free nl)) (s1.trans (s2.trans (same_new nl))) (fun v => ?_) (h1.imp fun {a b} z e => by omega) upd_same
    rw [h2 v, decide_eq_true_eq, mem_firsts, List.mem_map]
/-! ### l_hangs -/
theorem k_l_hangs (B : Bi mg) (D : Placed K mg "_law_hangs" s_l_hangs p_l_hangs) : Kept P w K mg base CX0 1 "_law_hangs" p_l_hangs (spLHangs K) := by
  refine D.keep fun f fd F => F.ok sc_l_hangs (fun vs H Q E h => ?_) (fun cdv A outer s H vs Q E hr h => ?_)
  · obtain ⟨a, b, L, n, p, o, r, rfl, _⟩ := h
    rfl
  · obtain ⟨a, b, L, n, p, o, r, rfl, hA, hL, hb, hr', hw, hp, ho, hl, q⟩ := h
    refine ⟨_, pss_one (ps_ret (pe_cmpR op_eq (pe_lenSetD (K := K) (by rfl) B.len (by rfl) B.set
        (pe_lc (own := [("_law_other", 4)]) (g := gName 4) (by rfl) sc_l_hangs.nd (pi_sq (K := K) (pv 0)) (blkOk_by (N := n_l_hangs) (sc := defScope s_l_hangs) (by decide +kernel)) (fun _ _ _ _ _ => pg_name (i := 4) sc_l_hangs.nd rfl (Or.inl rfl))
          (fun _ _ _ _ _ => pts_one (pt_cmpR op_eq (pe_ix (ixT (K := K)) (pv 4) (pv 3) (fun _ _ => rfl)) (pe_ix (ixT (K := K)) (pv 1) (pv 3) (fun _ _ => rfl)) (nomark _)))
          (fun _ _ _ _ _ => pe_ix (ixT (K := K)) (pv 4) (pv 2) (fun _ _ => rfl)))) pe_int (nomark _))), ?_⟩
    unfold tRet tOp tLenSetD
    refine lc_seq (K := K) (i := 0) rfl hA (by omega) (fun i => (L[i]?.map fun q => ans q.2 o == ans r o).getD false) (fun i y _ => y = V.int (ans ((rws L).getD i []) p)) (fun _ _ _ _ _ e => e) ?_ (fun D H1 acc hD s1 hd pr => ?_)
    · intro i r' H1 N hi hr2 s1 kt kf
      have hrm : r' ∈ L := List.mem_of_getElem? hr2
      refine ⟨rfl, ?_⟩
      refine ⟨_, rfl, _, rfl, rIxT_of (s1 _ _ (hL r' hrm)) (rowV_at (by rw [hw r'.2 (mem_rws hrm)]; exact ho)) ⟨_, rfl, _, rfl, rIxT_of (s1 _ _ hb) (rowV_at (by rw [hw r hr']; exact ho)) ⟨rfl, _, rfl, ?_⟩⟩⟩
      rw [dec_int]
      rw [hr2] at kt kf
      cases c : ans r'.2 o == ans r o with
      | true =>
        refine ⟨_, rfl, _, rfl, rIxT_of (s1 _ _ (hL r' hrm)) (rowV_at (by rw [hw r'.2 (mem_rws hrm)]; exact hp)) (kt c _ _ (Same.refl _) ?_)⟩
        have e1 : (rws L).getD i [] = r'.2 := by
          unfold rws
          rw [List.getD_eq_getElem?_getD, List.getElem?_map, hr2]
          rfl
        show V.int _ = V.int (ans ((rws L).getD i []) p)
        rw [e1]
      | false => exact kf c _ (Same.refl _)
    · have e : acc = ((part (rws L) o r).map fun q => ans q p).map V.int := by
        rw [paired_map (v := fun i => V.int (ans ((rws L).getD i []) p)) pr]
        exact col_turns L o r p
      have hne : part (rws L) o r ≠ [] := fun z => by
        have := self_part (p := o) hr'
        rw [z] at this
        cases this
      have hlp : (part (rws L) o r).length ≤ L.length := by
        rw [← rws_len L]
        exact List.length_filter_le _ _
      refine ⟨D, _, rfl, SqL.of (by rw [hd, e]), by rw [List.length_map]; omega, rfl, ?_⟩
      cases c : opnAt (part (rws L) o r) p with
      | true =>
        have h1 := oss_open c
        have : decide (V.int ((ossOf ((part (rws L) o r).map fun q => ans q p)).length : Int) = V.int 1) = false := decide_eq_false (fun z => by injection z with z; omega)
        rw [this]
        have := q _ s1
        rw [c] at this
        exact this
      | false =>
        rw [oss_shut hne c]
        have := q _ s1
        rw [c] at this
        exact this
end
end K71
set_option Elab.async false
set_option linter.all false
set_option maxRecDepth 100000
set_option maxHeartbeats 4000000
namespace K71
open PySem PySem.W PySem.Spec PyProof.Rows L2
/-- the hand: its cells, four numbers -/
def HandAt (H : Hp) (h c : Addr) : Prop := ∃ (cells : List Int) (i j s k : Int), H h = some (.lst [.ref c, .int i, .int j, .int s, .int k]) ∧ H c = some (.lst (cells.map V.int)) ∧ (∀ x, x ∈ cells → 0 ≤ x) ∧ 0 ≤ i ∧ 0 ≤ j
theorem HandAt.same {H H' : Hp} {h c : Addr} (a : HandAt H h c) (s : Same H H') : HandAt H' h c := by
  obtain ⟨cells, i, j, q, k, h1, h2, h3⟩ := a
  exact ⟨cells, i, j, q, k, s _ _ h1, s _ _ h2, h3⟩
theorem HandAt.some {H : Hp} {h c : Addr} (a : HandAt H h c) : (∃ xs, H h = some (.lst xs)) ∧ (∃ xs, H c = some (.lst xs)) := by
  obtain ⟨cells, i, j, q, k, h1, h2, _⟩ := a
  exact ⟨⟨_, h1⟩, ⟨_, h2⟩⟩
theorem hand_ne {c h : Addr} {H : Hp} {cells : List Int} {i j s k : V} (h1 : H h = some (.lst [.ref c, i, j, s, k])) (h2 : H c = some (.lst (cells.map V.int))) : c ≠ h := fun e => by
  rw [e, h1] at h2
  injection h2 with h2
  injection h2 with h2
  cases cells with
  | nil => cases h2
  | cons x r => rw [List.map_cons] at h2; injection h2 with a b; cases a
section
variable {P : Program} {w : World} {K : PySem.W.Frag} {mg : Str → Option Value} {base : Heap}
/-! ### l_hand -/
def spHand (K : PySem.W.Frag) : Sp := fun vs H Q _ => ∃ (a : Addr) (ns : List Int), vs = [.ref a] ∧ SqL K H a (ns.map V.int) ∧ ns.length ≤ 63 ∧ ∀ h c H', H h = none → Same H H' → HandAt H' h c → Q (.ref h) H'
theorem k_l_hand (B : Bi mg) (D : Placed K mg "_law_hand" s_l_hand p_l_hand) : Kept P w K mg base CX0 1 "_law_hand" p_l_hand (spHand K) := by
  refine D.keep fun f fd F => F.ok sc_l_hand (fun vs H Q E h => ?_) (fun cdv A outer s H vs Q E hr h => ?_)
  · obtain ⟨a, ns, rfl, _⟩ := h
    rfl
  · obtain ⟨a, ns, rfl, hA, hn, q⟩ := h
    refine ⟨_, pss_cons (ps_setLc (i := 1) (own := [("_law_cell", 2)]) (g := gName 2) (by rfl) sc_l_hand.nd rfl rfl (sw_true rfl rfl rfl (by decide +kernel)) (pi_ls (K := K) (pe_slice sl_list (pv 0) po_none (po_some pe_int)))
        (blkOk_by (N := n_l_hand) (sc := defScope s_l_hand) (by decide +kernel)) (fun _ _ _ _ _ => pg_name (i := 2) sc_l_hand.nd rfl (Or.inl rfl)) (fun _ _ _ _ _ => pts_nil)
        (fun _ _ _ _ _ => pe_callB call_abs (by rfl) B.abs PyProof.Rows.boot_abs (pa_cons (pe_callTy call_int1 (by rfl) B.int PyProof.Rows.boot_int (pa_cons (pv 2) pa_nil)) pa_nil)))
      (pss_one (ps_ret (pe_lst (pa_cons (pv 1) (pa_cons pe_int (pa_cons pe_int (pa_cons (pe_add pe_int (pe_callB callLen (by rfl) B.len PySem.boot_len (pa_cons (pv 1) pa_nil))) (pa_cons pe_int pa_nil)))))))), ?_⟩
    refine ⟨_, rfl, 63, rfl, a, _, rfl, hA, fun p np => ?_⟩
    have s0 := same_new (o := .lst (cutV (ns.map V.int) none (some 63))) np
    have ec : cutV (ns.map V.int) none (some (63 : Int)) = ns.map V.int := by
      unfold cutV
      rw [show (63 : Int) = ((63 : Nat) : Int) from rfl, HT.sIx_none, HT.sIx_nat, List.drop_zero, Nat.sub_zero, List.length_map, Nat.min_eq_right hn]
      rw [List.take_of_length_le (by rw [List.length_map]; exact Nat.le_refl _)]
    rw [ec] at s0 ⊢
    have hp0 : (upd H p (.lst (ns.map V.int))) p = some (.lst (ns.map V.int)) := upd_same
    generalize (upd H p (.lst (ns.map V.int))) = H0 at s0 hp0 ⊢
    refine ⟨p, rfl, ⟨_, SqL.of hp0⟩, fun D hD => ?_⟩
    have wk := walk_list (K := K) (a := p) (xs := ns.map V.int)
    refine lc_same wk (fun _ => true) (fun i y _ => ∃ v : Int, 0 ≤ v ∧ y = V.int v) (fun _ _ _ _ _ e => e) hD (by rw [List.length_map]; omega) (fun H' s => SqL.of (s _ _ hp0)) ?_ (fun H1 acc s1 hd pr => ?_)
    · rintro i x H1 H2 N hi s1 ⟨rfl, hx⟩ kt _
      rw [List.getElem?_map] at hx
      obtain ⟨v, hv, rfl⟩ := Option.map_eq_some_iff.mp hx
      refine ⟨rfl, ?_⟩
      refine ⟨_, rfl, .inl ⟨v, rfl, v, rfl, ?_⟩⟩
      refine kt rfl _ _ (Same.refl _) ⟨_, ?_, rfl⟩
      by_cases z : v < 0
      · rw [if_pos z]; omega
      · rw [if_neg z]; omega
    · rw [filter_all] at pr
      have hacc : ∃ cells : List Int, acc = cells.map V.int ∧ ∀ x, x ∈ cells → 0 ≤ x := by
        generalize List.range (ns.map V.int).length = l at pr
        clear hd
        induction pr with
        | nil => exact ⟨[], rfl, fun x hx => nomatch hx⟩
        | cons r t ih =>
          obtain ⟨v, hv, rfl⟩ := r
          obtain ⟨cs, rfl, h2⟩ := ih
          refine ⟨v :: cs, rfl, fun x hx => ?_⟩
          rcases List.mem_cons.mp hx with e | hx
          · rw [e]; exact hv
          · exact h2 x hx
      obtain ⟨cells, rfl, hc⟩ := hacc
      refine ⟨_, rfl, _, rfl, D, _, rfl, .inl (SqL.of hd), 1, _, rfl, rfl, by show 5 ≤ sizeLine; decide, fun hh nh => ?_⟩
      have s2 := same_new (o := .lst [V.ref D, V.int 0, V.int 0, V.int (1 + ((cells.map V.int).length : Nat)), V.int 0]) nh
      exact q hh D _ (s0.free (s1.free nh)) (s0.trans (s1.trans s2)) ⟨cells, 0, 0, _, 0, upd_same, s2 _ _ hd, hc, by decide, by decide⟩
/-! ### l_draw -/
def spDraw : Sp := fun vs H Q _ => ∃ (h c : Addr) (m : Int), vs = [.ref h, .int m] ∧ HandAt H h c ∧ 0 < m ∧ m < 1073741824 ∧ ∀ d H', 0 ≤ d → d < m → But h H H' → HandAt H' h c → Q (.int d) H'
theorem k_l_draw (B : Bi mg) (D : Placed K mg "_law_draw" s_l_draw p_l_draw) : Kept P w K mg base CX0 1 "_law_draw" p_l_draw spDraw := by
  refine D.keep fun f fd F => F.ok sc_l_draw (fun vs H Q E h => ?_) (fun cdv A outer s H vs Q E hr h => ?_)
  · obtain ⟨h, c, m, rfl, _⟩ := h
    rfl
  · obtain ⟨hh, c, m, rfl, hA, hm, hm2, q⟩ := h
    refine ⟨_, Evl.pss_cut (ps_if (PW.pt (pw_and (pt_cmpR op_eq (pe_ix ix_list (pv 0) pe_int (fun _ _ => rfl)) pe_int (nomark _)) (pw_and1 (pt_cmpR op_lt (pe_ix ix_list (pv 0) pe_int (fun _ _ => rfl)) (pe_callB callLen (by rfl) B.len PySem.boot_len (pa_cons (pe_ix ix_list (pv 0) pe_int (fun _ _ => rfl)) pa_nil)) (nomark _)))))
        (pss_cons (ps_set (i := 2) sc_l_draw.nd rfl (Or.inl rfl) (pe_ix ix_list (pe_ix ix_list (pv 0) pe_int (fun _ _ => rfl)) (pe_ix ix_list (pv 0) pe_int (fun _ _ => rfl)) (fun _ _ => rfl)))
        (pss_cons (ps_asg (pe_add (pe_ix ix_list (pv 0) pe_int (fun _ _ => rfl)) pe_int) (pg_sub (pv 0) pe_int set_list))
        (pss_cons (ps_asg (pe_op op_mod (pe_callTy call_int1 (by rfl) B.int PyProof.Rows.boot_int (pa_cons (pe_add (pe_add (pe_op op_mul (pe_ix ix_list (pv 0) pe_int (fun _ _ => rfl)) pe_int) (pv 2)) pe_int) pa_nil)) pe_int) (pg_sub (pv 0) pe_int set_list))
        (pss_one (ps_if (pt_cmpR op_ge (pv 2) (pe_op op_pow pe_int pe_int) (nomark _)) (pss_one (ps_asg (pv 2) (pg_sub (pv 0) pe_int set_list))) pss_nil))))) pss_nil)
      (pss_cons (ps_if (pt_cmpR op_gt (pe_ix ix_list (pv 0) pe_int (fun _ _ => rfl)) pe_int (nomark _))
        (pss_cons (ps_set (i := 3) sc_l_draw.nd rfl (Or.inl rfl) (pe_op op_mod (pe_callTy call_int1 (by rfl) B.int PyProof.Rows.boot_int (pa_cons (pe_ix ix_list (pv 0) pe_int (fun _ _ => rfl)) pa_nil)) (pv 1)))
        (pss_cons (ps_asg (pe_op op_fdiv (pe_ix ix_list (pv 0) pe_int (fun _ _ => rfl)) (pv 1)) (pg_sub (pv 0) pe_int set_list))
        (pss_one (ps_ret (pv 3))))) pss_nil)
      (pss_cons (ps_asg (pe_add (pe_ix ix_list (pv 0) pe_int (fun _ _ => rfl)) pe_int) (pg_sub (pv 0) pe_int set_list))
      (pss_cons (ps_set (i := 4) sc_l_draw.nd rfl (Or.inl rfl) (pe_op op_mod (pe_callTy call_int1 (by rfl) B.int PyProof.Rows.boot_int (pa_cons (pe_op op_mul (pe_callTy call_int1 (by rfl) B.int PyProof.Rows.boot_int (pa_cons (pe_add (pe_ix ix_list (pv 0) pe_int (fun _ _ => rfl)) (pe_op op_mul pe_int (pe_ix ix_list (pv 0) pe_int (fun _ _ => rfl)))) pa_nil)) pe_int) pa_nil)) pe_int))
      (pss_cons (ps_set (i := 4) sc_l_draw.nd rfl (Or.inl rfl) (pe_op op_mod (pe_callTy call_int1 (by rfl) B.int PyProof.Rows.boot_int (pa_cons (pe_op op_mul (pv 4) (pe_add (pe_op op_fdiv (pv 4) pe_int) pe_int)) pa_nil)) pe_int))
      (pss_cons (ps_set (i := 4) sc_l_draw.nd rfl (Or.inl rfl) (pe_op op_mod (pe_callTy call_int1 (by rfl) B.int PyProof.Rows.boot_int (pa_cons (pe_op op_mul (pv 4) (pe_add (pe_op op_fdiv (pv 4) pe_int) pe_int)) pa_nil)) pe_int))
      (pss_one (ps_ret (pe_op op_mod (pe_callTy call_int1 (by rfl) B.int PyProof.Rows.boot_int (pa_cons (pe_op op_fdiv (pv 4) pe_int) pa_nil)) (pv 1))))))))), ?_⟩
    obtain ⟨cells, i, j, s, k, h1, h2, hc, hi, hj⟩ := hA
    have nch := hand_ne h1 h2
    -- a hand whose numbers are known
    refine ⟨fun σ H' => ∃ x2 i j s k, σ = [some (.ref hh), some (.int m), x2, none, none] ∧ But hh H H' ∧ H' hh = some (.lst [.ref c, .int i, .int j, .int s, .int k]) ∧ H' c = some (.lst (cells.map V.int)) ∧ 0 ≤ i ∧ 0 ≤ j, ?_, ?_⟩
    · refine ⟨_, rfl, hh, _, 2, _, rfl, rfl, SqL.of h1, rfl, rfl, _, rfl, ?_⟩
      rw [dec_int]
      cases cj : j == 0 with
      | false => exact iteF (iteF ⟨none, i, j, s, k, rfl, .refl _ _, h1, h2, hi, hj⟩)
      | true =>
      refine iteT ?_
      refine ⟨_, rfl, hh, _, 1, _, rfl, rfl, SqL.of h1, rfl, _, rfl, hh, _, 0, _, rfl, rfl, SqL.of h1, rfl, c, _, rfl, .inl (SqL.of h2), i, _, rfl, rfl, _, rfl, ?_⟩
      by_cases hlt : i < ((cells.map V.int).length : Int)
      · rw [decide_eq_true hlt]
        refine iteT ?_
        have hil : i.toNat < cells.length := by rw [List.length_map] at hlt; omega
        obtain ⟨cell, hat, h0c⟩ : ∃ cell, atI (cells.map V.int) i = some (.int cell) ∧ 0 ≤ cell := by
          obtain ⟨n, rfl⟩ : ∃ n : Nat, i = (n : Int) := ⟨i.toNat, by omega⟩
          have hil : n < cells.length := hil
          refine ⟨cells[n], atI_nat ?_, hc _ (List.getElem_mem hil)⟩
          rw [List.getElem?_map, List.getElem?_eq_getElem hil]
          rfl
        refine ⟨_, rfl, hh, _, 0, _, rfl, rfl, SqL.of h1, rfl, _, rfl, hh, _, 1, _, rfl, rfl, SqL.of h1, rfl, c, _, i, _, rfl, rfl, SqL.of h2, hat, ?_⟩
        refine ⟨_, rfl, hh, _, 1, _, rfl, rfl, SqL.of h1, rfl, i, 1, rfl, rfl, ?_⟩
        refine ⟨_, rfl, hh, _, 1, 1, rfl, rfl, h1, rfl, ?_⟩
        have b1 : But hh H (upd H hh (.lst [.ref c, .int (i + 1), .int j, .int s, .int k])) := (But.refl hh H).upd
        have g1 : (upd H hh (.lst [.ref c, .int (i + 1), .int j, .int s, .int k])) hh = some (.lst [.ref c, .int (i + 1), .int j, .int s, .int k]) := upd_same
        show tSeq _ _ _ _ (upd H hh (.lst [.ref c, .int (i + 1), .int j, .int s, .int k]))
        generalize (upd H hh (.lst [.ref c, .int (i + 1), .int j, .int s, .int k])) = H1 at b1 g1 ⊢
        refine ⟨_, rfl, hh, _, 3, _, rfl, rfl, SqL.of g1, rfl, s, 69621, rfl, rfl, .inr ⟨by decide, by decide⟩, _, rfl, _, _, rfl, rfl, _, _, rfl, rfl, .inl ⟨_, rfl, _, _, rfl, rfl, show (0 : Int) < 2147483629 by decide, ?_⟩⟩
        refine ⟨_, rfl, hh, _, 3, 3, rfl, rfl, g1, rfl, ?_⟩
        simp only [List.set_cons_succ, List.set_cons_zero]
        generalize ((s * 69621 + cell + 11) % 2147483629) = s2
        have b2 : But hh H (upd H1 hh (.lst [.ref c, .int (i + 1), .int j, .int s2, .int k])) := b1.upd
        have g2 : (upd H1 hh (.lst [.ref c, .int (i + 1), .int j, .int s2, .int k])) hh = some (.lst [.ref c, .int (i + 1), .int j, .int s2, .int k]) := upd_same
        generalize (upd H1 hh (.lst [.ref c, .int (i + 1), .int j, .int s2, .int k])) = H2 at b2 g2 ⊢
        refine ⟨_, rfl, 10, 18, rfl, rfl, ⟨by decide, by decide, by decide⟩, _, _, rfl, rfl, _, rfl, ?_⟩
        refine ite2 (fun _ => ?_) (fun _ => ?_)
        · refine ⟨_, rfl, _, rfl, hh, _, 2, 2, rfl, rfl, g2, rfl, ?_⟩
          exact ⟨_, i + 1, cell, s2, k, rfl, b2.upd, upd_same, by rw [upd_ne nch]; exact b2 _ _ h2 nch, by omega, h0c⟩
        · exact ⟨_, i + 1, j, s2, k, rfl, b2, g2, b2 _ _ h2 nch, by omega, hj⟩
      · rw [decide_eq_false hlt]
        exact iteF ⟨none, i, j, s, k, rfl, .refl _ _, h1, h2, hi, hj⟩
    · rintro σ H1 ⟨x2, i, j, s, k, rfl, b1, h1, h2, hi, hj⟩
      refine ⟨_, rfl, hh, _, 2, _, rfl, rfl, SqL.of h1, rfl, _, _, rfl, rfl, _, rfl, ?_⟩
      by_cases jp : j > 0
      · rw [decide_eq_true jp]
        refine iteT ?_
        refine ⟨_, rfl, hh, _, 2, _, rfl, rfl, SqL.of h1, rfl, .inl ⟨_, rfl, _, rfl, _, _, rfl, rfl, hm, ?_⟩⟩
        refine ⟨_, rfl, hh, _, 2, _, rfl, rfl, SqL.of h1, rfl, _, rfl, _, _, rfl, rfl, ⟨hm, hm2⟩, ?_⟩
        refine ⟨_, rfl, hh, _, 2, 2, rfl, rfl, h1, rfl, ?_⟩
        refine ⟨_, rfl, ?_⟩
        refine q (j % m) _ (Int.emod_nonneg _ (by omega)) (Int.emod_lt_of_pos _ hm) b1.upd ⟨cells, i, j / m, s, k, upd_same, by rw [upd_ne nch]; exact h2, hc, hi, Int.ediv_nonneg hj (by omega)⟩
      · rw [decide_eq_false jp]
        refine iteF ?_
        refine ⟨_, rfl, hh, _, 4, _, rfl, rfl, SqL.of h1, rfl, k, 1, rfl, rfl, ?_⟩
        refine ⟨_, rfl, hh, _, 4, 4, rfl, rfl, h1, rfl, ?_⟩
        show tSeq _ _ _ _ (upd H1 hh (.lst [.ref c, .int i, .int j, .int s, .int (k + 1)]))
        have b2 : But hh H (upd H1 hh (.lst [.ref c, .int i, .int j, .int s, .int (k + 1)])) := b1.upd
        have g2 : (upd H1 hh (.lst [.ref c, .int i, .int j, .int s, .int (k + 1)])) hh = some (.lst [.ref c, .int i, .int j, .int s, .int (k + 1)]) := upd_same
        have c2 : (upd H1 hh (.lst [.ref c, .int i, .int j, .int s, .int (k + 1)])) c = some (.lst (cells.map V.int)) := by
          rw [upd_ne nch]
          exact h2
        generalize (upd H1 hh (.lst [.ref c, .int i, .int j, .int s, .int (k + 1)])) = H2 at b2 g2 c2 ⊢
        refine ⟨_, rfl, hh, _, 3, _, rfl, rfl, SqL.of g2, rfl, _, rfl, hh, _, 4, _, rfl, rfl, SqL.of g2, rfl, 7919, k + 1, rfl, rfl, .inl ⟨by decide, by decide⟩, s, _, rfl, rfl, .inl ⟨_, rfl, _, 48271, rfl, rfl, .inr ⟨by decide, by decide⟩, .inl ⟨_, rfl, _, 2147483647, rfl, rfl, show (0 : Int) < 2147483647 by decide, ?_⟩⟩⟩
        have z1 : (0 : Int) < 2147483647 := by decide
        have z2 : (0 : Int) < 2147483399 := by decide
        obtain ⟨n1, e1⟩ : ∃ n1, n1 = ((s + 7919 * (k + 1)) * 48271) % 2147483647 := ⟨_, rfl⟩
        have p1 : 0 ≤ n1 := e1 ▸ Int.emod_nonneg _ (by decide)
        have p2 : n1 < 2147483647 := e1 ▸ Int.emod_lt_of_pos _ z1
        show tSeq _ _ _ (List.set _ 4 (some (V.int (((s + 7919 * (k + 1)) * 48271) % 2147483647)))) _
        rw [← e1]
        refine ⟨_, rfl, _, rfl, _, 1009, rfl, rfl, ⟨by decide, by decide⟩, _, 69621, rfl, rfl, n1, _, rfl, rfl, .inl ⟨by omega, by omega⟩, .inl ⟨_, rfl, _, 2147483647, rfl, rfl, z1, ?_⟩⟩
        obtain ⟨n2, e2⟩ : ∃ n2, n2 = (n1 * (n1 / 1009 + 69621)) % 2147483647 := ⟨_, rfl⟩
        have p3 : 0 ≤ n2 := e2 ▸ Int.emod_nonneg _ (by decide)
        have p4 : n2 < 2147483647 := e2 ▸ Int.emod_lt_of_pos _ z1
        show tSeq _ _ _ (List.set _ 4 (some (V.int ((n1 * (n1 / 1009 + 69621)) % 2147483647)))) _
        rw [← e2]
        refine ⟨_, rfl, _, rfl, _, 2003, rfl, rfl, ⟨by decide, by decide⟩, _, 40692, rfl, rfl, n2, _, rfl, rfl, .inl ⟨by omega, by omega⟩, .inl ⟨_, rfl, _, 2147483399, rfl, rfl, z2, ?_⟩⟩
        refine ⟨_, rfl, _, 16, rfl, rfl, ⟨by decide, by decide⟩, .inl ⟨_, rfl, _, rfl, _, m, rfl, rfl, hm, ?_⟩⟩
        exact q _ _ (Int.emod_nonneg _ (by omega)) (Int.emod_lt_of_pos _ hm) b2 ⟨cells, i, j, s, k + 1, g2, c2, hc, hi, hj⟩
end
end K71
set_option Elab.async false
set_option linter.all false
set_option maxRecDepth 100000
set_option maxHeartbeats 4000000
namespace K71
open PySem PySem.W PySem.Spec PyProof.Rows L2
def natRow (o : List Nat) : Row := o.map fun (i : Nat) => (i : Int)
theorem rowV_nat (o : List Nat) : rowV (natRow o) = intsV o := by
  unfold rowV natRow intsV
  rw [List.map_map]
  rfl
/-- new tuples, as rows -/
def isRow (g : Row) (y : V) (H : Hp) : Prop := ∃ a, y = .ref a ∧ H a = some (.tup (rowV g))
theorem isRow.mono {g : Row} {y : V} {H H' : Hp} (h : isRow g y H) (t : Tups H H') : isRow g y H' := by
  obtain ⟨a, e, ha⟩ := h
  exact ⟨a, e, t _ _ ha⟩
theorem rows_of {H : Hp} {g : Nat → Row} : ∀ {l : List Nat} {acc : List V}, Paired (fun i y => isRow (g i) y H) l acc → ∃ M : RL, acc = refs M ∧ rws M = l.map g ∧ AllAt H M
  | _, _, .nil => ⟨[], rfl, rfl, fun p hp => nomatch hp⟩
  | i :: l, _, .cons r t => by
    obtain ⟨a, rfl, ha⟩ := r
    obtain ⟨M, rfl, h2, h3⟩ := rows_of t
    refine ⟨(a, g i) :: M, rfl, ?_, fun p hp => ?_⟩
    · show g i :: rws M = _
      rw [h2]
      rfl
    · rcases List.mem_cons.mp hp with e | hp
      · rw [e]; exact ha
      · exact h3 p hp
theorem refs_app (L M : RL) : refs (L ++ M) = refs L ++ refs M := List.map_append
theorem rws_app (L M : RL) : rws (L ++ M) = rws L ++ rws M := List.map_append
section
variable {P : Program} {w : World} {K : PySem.W.Frag} {mg : Str → Option Value} {base : Heap}
/-! ### l_step -/
def spStep (K : PySem.W.Frag) : Sp := fun vs H Q _ => ∃ (a b : Addr) (r st : Row) (n : Nat) (m : Int), vs = [.ref a, .ref b, .int m] ∧ H a = some (.tup (rowV r)) ∧ H b = some (.tup (rowV st)) ∧ r.length = n ∧ st.length = n ∧ n ≤ 100 ∧ 0 < m ∧
  ∀ p r' H', H p = none → Same H H' → H' p = some (.tup (rowV r')) → r'.length = n → (∀ i, i < n → 0 ≤ ans r' i ∧ ans r' i < m) → Q (.ref p) H'
theorem k_l_step (B : Bi mg) (D : Placed K mg "_law_step" s_l_step p_l_step) : Kept P w K mg base CX0 1 "_law_step" p_l_step (spStep K) := by
  refine D.keep fun f fd F => F.ok sc_l_step (fun vs H Q E h => ?_) (fun cdv A outer s H vs Q E hr h => ?_)
  · obtain ⟨a, b, r, st, n, m, rfl, _⟩ := h
    rfl
  · obtain ⟨a, b, r, st, n, m, rfl, ha, hb, hl1, hl2, hn, hm, q⟩ := h
    refine ⟨_, pss_one (ps_ret (pe_callTy callTup (by rfl) B.tuple PyProof.Rows.boot_tuple (pa_cons
      (pe_lc (own := [("_law_one", 3), ("_law_two", 4)]) (by rfl) sc_l_step.nd (RZ.pi_zipA (by rfl) B.zip (pa_cons (pv 0) (pa_cons (pv 1) pa_nil))) (blkOk_by (N := n_l_step) (sc := defScope s_l_step) (by decide +kernel))
        (fun _ _ _ _ _ => pg_two (K := K) (pg_name (i := 3) sc_l_step.nd rfl (Or.inl rfl)) (pg_name (i := 4) sc_l_step.nd rfl (Or.inl rfl))) (fun _ _ _ _ _ => pts_nil)
        (fun _ _ _ _ _ => pe_op op_mod (pe_callTy call_int1 (by rfl) B.int PyProof.Rows.boot_int (pa_cons (pe_add (pv 3) (pv 4)) pa_nil)) (pv 2))) pa_nil))), ?_⟩
    refine ⟨_, rfl, _, rfl, a, b, _, _, rfl, .inr ⟨SqT.of ha, SqT.of hb, fun D1 hD => ?_⟩⟩
    have wk := walk_zipT (K := K) (a := a) (b := b) (xs := rowV r) (ys := rowV st) (n := n) ((rowV_len r).trans hl1) ((rowV_len st).trans hl2)
    refine lc_same wk (fun _ => true) (fun i y _ => y = .int ((ans r i + ans st i) % m)) (fun _ _ _ _ _ e => e) hD (by omega) (fun H' s => ⟨same_t s (SqT.of ha), same_t s (SqT.of hb)⟩) ?_ (fun H1 acc s1 hd pr => ?_)
    · rintro i x H1 H2 N hi s1 ⟨T, y, z, rfl, hT, rfl, hy, hz⟩ kt _
      have hy : (rowV r)[i]? = some y := hy
      have hz : (rowV st)[i]? = some z := hz
      rw [rowV_get (by omega)] at hy hz
      obtain rfl : V.int (ans r i) = y := Option.some.inj hy
      obtain rfl : V.int (ans st i) = z := Option.some.inj hz
      refine gTwo upd_same ⟨rfl, ?_⟩
      exact ⟨_, rfl, _, rfl, _, _, rfl, rfl, .inl ⟨_, rfl, _, rfl, _, m, rfl, rfl, hm, kt rfl _ _ (same_new hT) rfl⟩⟩
    · rw [filter_all] at pr
      have e : acc = rowV ((List.range n).map fun i => (ans r i + ans st i) % m) := by
        rw [paired_map (v := fun i => V.int ((ans r i + ans st i) % m)) pr]
        unfold rowV
        rw [List.map_map]
        rfl
      refine ⟨D1, acc, rfl, .inl ⟨SqL.of hd, fun l nl => ?_⟩⟩
      refine q l ((List.range n).map fun i => (ans r i + ans st i) % m) _ (s1.free nl) (s1.trans (same_new nl)) (by rw [upd_same, e]) (by rw [List.length_map, List.length_range]) fun i hi => ?_
      have : ans ((List.range n).map fun i => (ans r i + ans st i) % m) i = (ans r i + ans st i) % m := by
        unfold ans
        rw [List.getD_eq_getElem?_getD, List.getElem?_map, List.getElem?_range hi]
        rfl
      rw [this]
      exact ⟨Int.emod_nonneg _ (by omega), Int.emod_lt_of_pos _ hm⟩
/-! ### l_counted -/
def spCounted (K : PySem.W.Frag) : Sp := fun vs H Q _ => ∃ (a o r : Addr) (L : RL) (ord : List Nat) (row : Row) (n : Nat), vs = [.ref a, .ref o, .ref r] ∧ SqA K H a (refs L) ∧ AllAt H L ∧ Wid n (rws L) ∧ L.length ≤ 60 ∧ H o = some (.tup (intsV ord)) ∧ (∀ p, p ∈ ord → p < n) ∧ H r = some (.tup (rowV row)) ∧ row.length = n ∧
  ∀ H', Same H H' → Q (.int (counted (rws L) ord row)) H'
theorem k_l_counted (B : Bi mg) (D : Placed K mg "_law_counted" s_l_counted p_l_counted) (CP : Kept P w K mg base CX0 1 "_law_part" p_l_part (spPart K)) : Kept P w K mg base CX0 2 "_law_counted" p_l_counted (spCounted K) := by
  obtain ⟨fP, fdP, GP, mP, kP, bP⟩ := CP
  refine D.keep fun f fd F => F.ok sc_l_counted (fun vs H Q E h => ?_) (fun cdv A outer s H vs Q E hr h => ?_)
  · obtain ⟨a, o, r, L, ord, row, n, rfl, _⟩ := h
    rfl
  · obtain ⟨a, o, r, L, ord, row, n, rfl, hA, hL, hw, hl, ho, hon, hrr, hrl, q⟩ := h
    refine ⟨_, pss_cons (ps_set (i := 3) sc_l_counted.nd rfl (Or.inl rfl) pe_int)
      (pss_cons (ps_set (i := 4) sc_l_counted.nd rfl (Or.inl rfl) (pv 0))
      (pss_cons (ps_for PassesOwn.never rfl (pi_tup (pv 1)) (pg_name (i := 5) sc_l_counted.nd rfl (Or.inl rfl))
        (pss_cons (ps_set (i := 6) sc_l_counted.nd rfl (Or.inl rfl) (pe_call GP hr rfl mP kP bP .nil pass0 (pa_cons (pv 4) (pa_cons (pv 5) (pa_cons (pe_ix ix_tup (pv 2) (pv 5) (fun _ _ => rfl)) pa_nil)))))
        (pss_cons (ps_set (i := 3) sc_l_counted.nd rfl (Or.inl rfl) (pe_add (pv 3) (pe_callTy call_int1 (by rfl) B.int PyProof.Rows.boot_int (pa_cons (pe_cmpR op_lt (pe_callB callLen (by rfl) B.len PySem.boot_len (pa_cons (pv 6) pa_nil)) (pe_callB callLen (by rfl) B.len PySem.boot_len (pa_cons (pv 4) pa_nil)) (nomark _)) pa_nil))))
        (pss_one (ps_set (i := 4) sc_l_counted.nd rfl (Or.inl rfl) (pv 6))))))
      (pss_one (ps_ret (pv 3))))), ?_⟩
    refine ⟨_, rfl, _, rfl, o, rfl, ⟨_, SqT.of ho⟩, ?_⟩
    have wk := walk_tup (K := K) (a := o) (xs := intsV ord)
    have ilen : (intsV ord).length = ord.length := List.length_map _
    refine for_it wk (fun i σ H' => ∃ la M x5 x6, ∃ v : Int, σ = [some (.ref a), some (.ref o), some (.ref r), some (.int v), some (.ref la), x5, x6] ∧ Same H H' ∧ SqA K H' la (refs M) ∧ AllAt H' M ∧ Wid n (rws M) ∧ M.length ≤ 60 ∧ v + counted (rws M) (ord.drop i) row = counted (rws L) ord row)
      ⟨a, L, none, none, 0, rfl, Same.refl _, hA, hL, hw, hl, by rw [List.drop_zero]; omega⟩ (fun i σ H' _ p => by obtain ⟨_, _, _, _, _, _, s1, _⟩ := p; exact SqT.of (s1 _ _ ho)) ?_ ?_
    · rintro i x σ _ H1 hi ⟨la, M, x5, x6, v, rfl, s1, hM, aM, wM, lM, ec⟩ ⟨rfl, hx⟩
      obtain ⟨p, hp, rfl⟩ := intsV_get hx
      have hpn := hon p (List.mem_of_getElem? hp)
      refine ⟨_, rfl, _, rfl, _, rfl, _, rfl, rIxT_of (s1 _ _ hrr) (rowV_at (by omega)) ⟨la, M, n, p, ans row p, rfl, hM, aM, wM, hpn, by omega, fun l H2 nl s2 el => ?_⟩⟩
      have s12 := s1.trans s2
      have ep : rws (partL M p (ans row p)) = part (rws M) p row := rws_part M p (ans row p)
      refine ⟨_, rfl, _, rfl, l, _, rfl, .inl (SqL.of el), _, rfl, la, _, rfl, (same_a s2 hM).elim .inl .inr, _, _, rfl, rfl, .inr ⟨_, rfl, v, _, rfl, rfl, ?_⟩⟩
      refine ⟨_, rfl, ?_⟩
      have ed : ord.drop i = p :: ord.drop (i + 1) := by
        have := List.drop_eq_getElem_cons (l := ord) (i := i) (by omega)
        rw [this]
        congr 1
        have h2 := List.getElem?_eq_getElem (l := ord) (i := i) (by omega)
        rw [hp] at h2
        exact (Option.some.inj h2).symm
      rw [ed] at ec
      refine ⟨l, partL M p (ans row p), _, _, _, rfl, s12, .inl (SqL.of el), (aM.mono (.of_same s2)).sub (fun q hq => (List.mem_filter.mp hq).1), by rw [ep]; exact wM.sub fun r hr => part_sub hr, Nat.le_trans (List.length_filter_le _ _) lM, ?_⟩
      rw [ep, ← ec]
      show _ + _ = v + ((if (part (rws M) p row).length < (rws M).length then 1 else 0) + counted (part (rws M) p row) (ord.drop (i + 1)) row)
      have e2 : (refs (partL M p (ans row p))).length = (part (rws M) p row).length := by rw [refs_len, ← rws_len, ep]
      rw [e2, refs_len, ← rws_len M]
      by_cases c : (part (rws M) p row).length < (rws M).length
      · have c' : ((part (rws M) p row).length : Int) < ((rws M).length : Int) := by omega
        rw [if_pos c, decide_eq_true c']
        show v + 1 + _ = _
        omega
      · have c' : ¬ ((part (rws M) p row).length : Int) < ((rws M).length : Int) := by omega
        rw [if_neg c, decide_eq_false c']
        show v + 0 + _ = _
        omega
    · rintro σ H1 ⟨la, M, x5, x6, v, rfl, s1, hM, aM, wM, lM, ec⟩
      rw [ilen, List.drop_length] at ec
      have ev : v = counted (rws L) ord row := by
        rw [← ec]
        show v = v + 0
        omega
      rw [ev]
      exact ⟨_, rfl, q _ s1⟩
end
end K71
set_option Elab.async false
set_option linter.all false
set_option maxRecDepth 100000
set_option maxHeartbeats 4000000
namespace K71
open PySem PySem.W PySem.Spec PyProof.Rows L2
theorem natRow_inj : ∀ {a b : List Nat}, natRow a = natRow b → a = b
  | [], [], _ => rfl
  | [], _ :: _, h => by cases h
  | _ :: _, [], h => by cases h
  | x :: a, y :: b, h => by
    have h1 : (x : Int) = y ∧ natRow a = natRow b := by
      unfold natRow at h ⊢
      rw [List.map_cons, List.map_cons] at h
      injection h with h1 h2
      exact ⟨h1, h2⟩
    rw [natRow_inj h1.2, Int.ofNat.inj h1.1]
theorem natRow_snoc (o : List Nat) (p : Nat) : natRow (o ++ [p]) = natRow o ++ [(p : Int)] := List.map_append
theorem rowV_snoc (r : Row) (x : Int) : rowV r ++ [V.int x] = rowV (r ++ [x]) := by
  unfold rowV
  rw [List.map_append]
  rfl
/-- what is made of the first i of some rows -/
def madeOf {α : Type} (f : α → List Row) (l : List α) : List Row := l.flatMap f
section
variable {X : Cx} {K : PySem.W.Frag}
theorem opCat (h : X.K = K := by rfl) : OpR X (binaryOp .Add) (rCatA K) := h ▸ op_catA
theorem opNotIn (h : X.K = K := by rfl) : OpR X (compareOp .NotIn) (rIn K true) := h ▸ op_notIn_seq
end
section
variable {P : Program} {w : World} {K : PySem.W.Frag} {mg : Str → Option Value} {base : Heap}
/-! ### l_orders -/
def nexts (n : Nat) (o : List Nat) : List (List Nat) := ((List.range n).filter fun p => !o.contains p).map fun p => o ++ [p]
theorem nexts_len (n : Nat) (o : List Nat) : (nexts n o).length ≤ n := by
  unfold nexts
  rw [List.length_map]
  have := List.length_filter_le (fun p => !o.contains p) (List.range n)
  rw [List.length_range] at this
  exact this
theorem nexts_all (n : Nat) : ∀ l : List (List Nat), (l.flatMap (nexts n)).length ≤ l.length * n
  | [] => Nat.zero_le _
  | x :: l => by
    have ih := nexts_all n l
    rw [List.flatMap_cons, List.length_append, List.length_cons, Nat.add_mul, Nat.one_mul]
    have := nexts_len n x
    omega
theorem orders_len (n : Nat) : ∀ k, (orders n k).length ≤ n ^ k
  | 0 => Nat.le_refl _
  | k + 1 => by
    have ih := orders_len n k
    show ((orders n k).flatMap (nexts n)).length ≤ _
    rw [Nat.pow_succ]
    exact Nat.le_trans (nexts_all n _) (Nat.mul_le_mul_right n ih)
def spOrders : Sp := fun vs H Q _ => ∃ n : Nat, vs = [.int n] ∧ n ≤ 4 ∧ ∀ l (L : RL) H', H l = none → Same H H' → H' l = some (.lst (refs L)) → AllAt H' L → rws L = (orders n n).map natRow → Q (.ref l) H'
theorem k_l_orders (B : Bi mg) (D : Placed K mg "_law_orders" s_l_orders p_l_orders) : Kept P w K mg base CX0 1 "_law_orders" p_l_orders spOrders := by
  refine D.keep fun f fd F => F.ok sc_l_orders (fun vs H Q E h => ?_) (fun cdv A outer s H vs Q E hr h => ?_)
  · obtain ⟨n, rfl, _⟩ := h
    rfl
  · obtain ⟨n, rfl, hn, q⟩ := h
    refine ⟨_, pss_cons (ps_set (i := 1) sc_l_orders.nd rfl (Or.inl rfl) (pe_lst (pa_cons (pe_tup pa_nil) pa_nil)))
      (pss_cons (ps_for PassesOwn.never rfl (pi_range1 (by rfl) B.range (pa_cons (pv 0) pa_nil)) (pg_name (i := 2) sc_l_orders.nd rfl (Or.inl rfl))
        (pss_cons (ps_set (i := 3) sc_l_orders.nd rfl (Or.inl rfl) (pe_lst pa_nil))
        (pss_cons (ps_for PassesOwn.never rfl (pi_list (pv 1)) (pg_name (i := 4) sc_l_orders.nd rfl (Or.inr rfl))
          (pss_one (ps_expr (pe_bm PySem.F.plainAttrs_list PySem.F.slot_list_extend PySem.F.type_list_extend mt_extend (pv 3) (pa_cons
            (pe_lc (own := [("_law_place", 5)]) (g := gName 5) (by rfl) sc_l_orders.nd (pi_range1 (by rfl) B.range (pa_cons (pv 0) pa_nil)) (blkOk_by (N := n_l_orders) (sc := defScope s_l_orders) (by decide +kernel)) (fun _ _ _ _ _ => pg_name (i := 5) sc_l_orders.nd rfl (Or.inl rfl))
              (fun _ _ _ _ _ => pts_one (pt_cmpR (opNotIn (K := K)) (pv 5) (pv 4) rfl)) (fun _ _ _ _ _ => pe_op (opCat (K := K)) (pv 4) (pe_tup (pa_cons (pv 5) pa_nil)))) pa_nil)))))
        (pss_one (ps_set (i := 1) sc_l_orders.nd rfl (Or.inl rfl) (pv 3))))))
      (pss_one (ps_ret (pv 1)))), ?_⟩
    refine ⟨Nat.zero_le _, fun t0 n0 => ⟨by show 1 ≤ sizeLine; decide, fun f0 nf => ?_⟩⟩
    have s0 := same_new (o := .tup []) n0
    have s1 := same_new (o := .lst [V.ref t0]) nf
    have s01 := s0.trans s1
    refine ⟨_, rfl, (n : Int), rfl, by omega, by omega, ?_⟩
    refine for_it (n := n) walk_range0 (fun k σ H' => ∃ fa FL x2 x3 x4, σ = [some (.int n), some (.ref fa), x2, x3, x4, none] ∧ Same H H' ∧ H fa = none ∧ H' fa = some (.lst (refs FL)) ∧ AllAt H' FL ∧ rws FL = (orders n k).map natRow)
      ⟨f0, [(t0, [])], none, none, none, rfl, s01, s0.free nf, upd_same, fun p hp => by rw [List.mem_singleton.mp hp]; exact s1 _ _ upd_same, rfl⟩ (fun k σ H' _ _ => trivial) ?_ ?_
    · rintro k x σ _ H1 hk ⟨fa, FL, x2, x3, x4, rfl, s2, nfa, hfa, aF, eF⟩ ⟨rfl, rfl⟩
      refine ⟨Nat.zero_le _, fun la nla => ?_⟩
      have s3 := same_new (o := .lst []) nla
      have nl0 := s2.free nla
      have hfl : fa ≠ la := ne_of_none hfa nla
      refine ⟨_, rfl, fa, rfl, ⟨_, SqL.of (s3 _ _ hfa)⟩, ?_⟩
      have wl := walk_list (K := K) (a := fa) (xs := refs FL)
      rw [refs_len] at wl
      refine for_it wl (fun j σ H' => ∃ ML x4, σ = [some (.int n), some (.ref fa), some (.int k), some (.ref la), x4, none] ∧ Same H H' ∧ H' fa = some (.lst (refs FL)) ∧ AllAt H' FL ∧ H' la = some (.lst (refs ML)) ∧ AllAt H' ML ∧ rws ML = (((orders n k).take j).flatMap (nexts n)).map natRow)
        ⟨[], x4, rfl, s2.trans s3, s3 _ _ hfa, aF.mono (.of_same s3), upd_same, (fun p hp => nomatch hp), rfl⟩ (fun j σ H' _ p => by obtain ⟨_, _, _, _, q1, _⟩ := p; exact SqL.of q1) ?_ ?_
      · rintro j x σ _ H2 hj ⟨ML, x4, rfl, s4, hfa2, aF2, hla, aM, eM⟩ ⟨rfl, hx⟩
        obtain ⟨r, hr', rfl⟩ := refs_get hx
        have hrm : r ∈ FL := List.mem_of_getElem? hr'
        have hoj : ((orders n k).map natRow)[j]? = some r.2 := by
          rw [← eF]
          unfold rws
          rw [List.getElem?_map, hr']
          rfl
        rw [List.getElem?_map] at hoj
        obtain ⟨o, ho, eo⟩ := Option.map_eq_some_iff.mp hoj
        have hrr : H2 r.1 = some (.tup (intsV o)) := by
          have := aF2 r hrm
          rw [← eo, rowV_nat] at this
          exact this
        obtain ⟨_, holen, _⟩ := mem_orders.mp (List.mem_of_getElem? ho)
        refine ⟨_, rfl, .inl ⟨rfl, _, SqL.of hla⟩, _, rfl, (n : Int), rfl, by omega, by omega, fun D hD => ?_⟩
        refine lc_same (n := n) walk_range0 (fun p => !o.contains p) (fun p y H' => isRow (natRow (o ++ [p])) y H') (fun p y H' H'' t e => e.mono t) hD (by omega) (fun _ _ => trivial) ?_ (fun H3 acc s5 hd pr => ?_)
        · rintro p x H3 H4 N hp s5 ⟨rfl, rfl⟩ kt kf
          refine ⟨rfl, ?_⟩
          refine ⟨_, rfl, _, rfl, r.1, intsV o, rfl, .inr (SqT.of (s5 _ _ hrr)), rfl, flat_ints _, _, rfl, ?_⟩
          rw [if_pos rfl, inV_ints]
          cases c : !o.contains p with
          | false => exact kf c _ (Same.refl _)
          | true =>
            refine ⟨_, rfl, _, rfl, by show 1 ≤ sizeLine; decide, fun u nu => ?_⟩
            have s6 := same_new (o := .tup [V.int p]) nu
            refine rCat_of (s6 _ _ (s5 _ _ hrr)) upd_same (by rw [show (intsV o).length = o.length from List.length_map _]; show _ + 1 ≤ _; omega) fun z H5 s7 ez => ?_
            refine kt c _ _ (s6.trans s7) ⟨z, rfl, ?_⟩
            rw [ez, natRow_snoc, ← rowV_snoc, rowV_nat]
        · obtain ⟨NL, rfl, eN, aN⟩ := rows_of (g := fun p => natRow (o ++ [p])) pr
          have eNx : rws NL = (nexts n o).map natRow := by
            rw [eN]
            unfold nexts
            rw [List.map_map]
            rfl
          have hla3 := s5 _ _ hla
          have nDl : D ≠ la := (ne_of_none hla hD).symm
          have fl3 := s5 _ _ hfa2
          have lenM : ML.length ≤ 1024 := by
            rw [← rws_len, eM, List.length_map]
            refine Nat.le_trans (nexts_all n _) ?_
            rw [List.length_take]
            have h1 := orders_len n k
            have h2 : n ^ k ≤ 4 ^ 4 := Nat.le_trans (Nat.pow_le_pow_left hn k) (Nat.pow_le_pow_right (by decide) (by omega))
            have h3 : min j (orders n k).length * n ≤ 256 * 4 := Nat.mul_le_mul (Nat.le_trans (Nat.min_le_right _ _) (Nat.le_trans h1 h2)) hn
            exact h3
          have lenN : NL.length ≤ 4 := by
            rw [← rws_len, eNx, List.length_map]
            exact Nat.le_trans (nexts_len n o) hn
          refine ⟨la, D, refs ML, refs NL, rfl, rfl, hla3, hd, by rw [refs_len, refs_len]; exact Nat.le_trans (show ML.length + NL.length ≤ 2000 by omega) (by decide), ?_⟩
          have tu : Tups H3 (upd H3 la (.lst (refs ML ++ refs NL))) := .setL hla3
          refine ⟨ML ++ NL, _, rfl, fun b u e => ?_, by rw [upd_ne hfl]; exact fl3, (aF2.mono (.of_same s5)).mono tu, by rw [upd_same, refs_app], fun p hp => ?_, ?_⟩
          · rw [upd_ne (ne_of_none e nl0)]
            exact s5 _ _ (s4 _ _ e)
          · rcases List.mem_append.mp hp with hp | hp
            · exact tu _ _ (s5 _ _ (aM p hp))
            · exact tu _ _ (aN p hp)
          · rw [rws_app, eM, eNx, List.take_add_one, ho, List.flatMap_append, List.map_append]
            show _ = _ ++ List.map natRow ([o].flatMap (nexts n))
            rw [List.flatMap_cons, List.flatMap_nil, List.append_nil]
      · rintro σ H2 ⟨ML, x4, rfl, s4, hfa2, aF2, hla, aM, eM⟩
        refine ⟨_, rfl, la, ML, _, _, _, rfl, s4, nl0, hla, aM, ?_⟩
        have el : FL.length = (orders n k).length := by rw [← rws_len, eF, List.length_map]
        rw [eM, el, List.take_length]
        rfl
    · rintro σ H1 ⟨fa, FL, x2, x3, x4, rfl, s2, nfa, hfa, aF, eF⟩
      exact ⟨_, rfl, q fa FL _ nfa s2 hfa aF eF⟩
end
end K71
set_option Elab.async false
set_option linter.all false
set_option maxRecDepth 100000
set_option maxHeartbeats 4000000
namespace K71
open PySem PySem.W PySem.Spec PyProof.Rows L2
def prodN : List Nat → Nat
  | [] => 1
  | x :: l => x * prodN l
theorem prodN_pos : ∀ {l : List Nat}, (∀ s, s ∈ l → 1 ≤ s) → 1 ≤ prodN l
  | [], _ => Nat.le_refl _
  | x :: l, h => Nat.mul_le_mul (h x List.mem_cons_self) (prodN_pos fun s hs => h s (List.mem_cons_of_mem _ hs))
theorem prodN_app : ∀ (l m : List Nat), prodN (l ++ m) = prodN l * prodN m
  | [], m => (Nat.one_mul _).symm
  | x :: l, m => by
    show x * prodN (l ++ m) = x * prodN l * prodN m
    rw [prodN_app l m, Nat.mul_assoc]
theorem prodN_take {l : List Nat} (h : ∀ s, s ∈ l → 1 ≤ s) (i : Nat) : prodN (l.take i) ≤ prodN l := by
  have e := prodN_app (l.take i) (l.drop i)
  rw [List.take_append_drop] at e
  rw [e]
  have := prodN_pos (l := l.drop i) fun s hs => h s (List.mem_of_mem_drop hs)
  exact Nat.le_mul_of_pos_right _ this
def ones (s : Nat) (r : Row) : List Row := (List.range s).map fun (a : Nat) => r ++ [(a : Int)]
def allF : List Nat → List Row → List Row
  | [], acc => acc
  | s :: l, acc => allF l (acc.flatMap (ones s))
theorem allF_app : ∀ (l : List Nat) (s : Nat) (acc : List Row), allF (l ++ [s]) acc = (allF l acc).flatMap (ones s)
  | [], s, acc => rfl
  | x :: l, s, acc => allF_app l s _
theorem ones_len (s : Nat) : ∀ acc : List Row, (acc.flatMap (ones s)).length = acc.length * s
  | [] => (Nat.zero_mul _).symm
  | x :: l => by
    rw [List.flatMap_cons, List.length_append, ones_len s l, List.length_cons, Nat.add_mul, Nat.one_mul]
    unfold ones
    rw [List.length_map, List.length_range]
    omega
theorem allF_len : ∀ (l : List Nat) (acc : List Row), (allF l acc).length = acc.length * prodN l
  | [], acc => (Nat.mul_one _).symm
  | s :: l, acc => by
    show (allF l (acc.flatMap (ones s))).length = _
    rw [allF_len l, ones_len, Nat.mul_assoc]
    rfl
theorem allF_in : ∀ (l : List Nat) {r : Row}, r ∈ allF l [[]] → InR (natRow l) r := by
  intro l
  induction l using snoc_ind with
  | h0 =>
    intro r hr
    have hr : r ∈ [[]] := hr
    rw [List.mem_singleton.mp hr]
    exact ⟨rfl, fun i hi => absurd hi (Nat.not_lt_zero i)⟩
  | h1 l s ih =>
    intro r hr
    rw [allF_app] at hr
    obtain ⟨q, hq, hr⟩ := List.mem_flatMap.mp hr
    obtain ⟨a, ha, rfl⟩ := List.mem_map.mp hr
    have ha := List.mem_range.mp ha
    obtain ⟨h1, h2⟩ := ih hq
    have hl : (natRow l).length = l.length := List.length_map _
    refine ⟨by rw [natRow_snoc, List.length_append, List.length_append, h1]; rfl, fun i hi => ?_⟩
    rw [natRow_snoc, List.length_append] at hi
    have hi : i < (natRow l).length + 1 := hi
    by_cases c : i < (natRow l).length
    · have e1 : ans (q ++ [(a : Int)]) i = ans q i := by
        unfold ans
        rw [List.getD_eq_getElem?_getD, List.getD_eq_getElem?_getD, List.getElem?_append_left (by omega)]
      have e2 : ans (natRow (l ++ [s])) i = ans (natRow l) i := by
        rw [natRow_snoc]
        unfold ans
        rw [List.getD_eq_getElem?_getD, List.getD_eq_getElem?_getD, List.getElem?_append_left c]
      rw [e1, e2]
      exact h2 i c
    · have e : i = (natRow l).length := by omega
      have e1 : ans (q ++ [(a : Int)]) i = a := by
        unfold ans
        rw [List.getD_eq_getElem?_getD, List.getElem?_append_right (by omega), e, h1, Nat.sub_self]
        rfl
      have e2 : ans (natRow (l ++ [s])) i = s := by
        rw [natRow_snoc]
        unfold ans
        rw [List.getD_eq_getElem?_getD, List.getElem?_append_right (by omega), e, Nat.sub_self]
        rfl
      rw [e1, e2]
      omega
section
variable {P : Program} {w : World} {K : PySem.W.Frag} {mg : Str → Option Value} {base : Heap}
/-! ### l_all -/
def spAll (K : PySem.W.Frag) : Sp := fun vs H Q _ => ∃ (a : Addr) (zs : List Nat), vs = [.ref a] ∧ H a = some (.lst (intsV zs)) ∧ (∀ s, s ∈ zs → 1 ≤ s) ∧ zs.length ≤ 10 ∧ prodN zs ≤ 64 ∧
  ∀ l (L : RL) H', H l = none → Same H H' → H' l = some (.lst (refs L)) → AllAt H' L → rws L = allF zs [[]] → Q (.ref l) H'
theorem k_l_all (B : Bi mg) (D : Placed K mg "_law_all" s_l_all p_l_all) : Kept P w K mg base CX0 1 "_law_all" p_l_all (spAll K) := by
  refine D.keep fun f fd F => F.ok sc_l_all (fun vs H Q E h => ?_) (fun cdv A outer s H vs Q E hr h => ?_)
  · obtain ⟨a, zs, rfl, _⟩ := h
    rfl
  · obtain ⟨a, zs, rfl, ha, hz1, hz10, hz64, q⟩ := h
    refine ⟨_, pss_cons (ps_set (i := 1) sc_l_all.nd rfl (Or.inl rfl) (pe_lst (pa_cons (pe_tup pa_nil) pa_nil)))
      (pss_cons (ps_for PassesOwn.never rfl (pi_list (pv 0)) (pg_name (i := 2) sc_l_all.nd rfl (Or.inl rfl))
        (pss_cons (ps_set (i := 3) sc_l_all.nd rfl (Or.inl rfl) (pe_lst pa_nil))
        (pss_cons (ps_for PassesOwn.never rfl (pi_list (pv 1)) (pg_name (i := 4) sc_l_all.nd rfl (Or.inr rfl))
          (pss_one (ps_expr (pe_bm PySem.F.plainAttrs_list PySem.F.slot_list_extend PySem.F.type_list_extend mt_extend (pv 3) (pa_cons
            (pe_lc (own := [("_law_answer", 5)]) (g := gName 5) (by rfl) sc_l_all.nd (pi_range1 (by rfl) B.range (pa_cons (pv 2) pa_nil)) (blkOk_by (N := n_l_all) (sc := defScope s_l_all) (by decide +kernel)) (fun _ _ _ _ _ => pg_name (i := 5) sc_l_all.nd rfl (Or.inl rfl))
              (fun _ _ _ _ _ => pts_nil) (fun _ _ _ _ _ => pe_op (opCat (K := K)) (pv 4) (pe_tup (pa_cons (pv 5) pa_nil)))) pa_nil)))))
        (pss_one (ps_set (i := 1) sc_l_all.nd rfl (Or.inl rfl) (pv 3))))))
      (pss_one (ps_ret (pv 1)))), ?_⟩
    refine ⟨Nat.zero_le _, fun t0 n0 => ⟨by show 1 ≤ sizeLine; decide, fun f0 nf => ?_⟩⟩
    have s0 := same_new (o := .tup []) n0
    have s1 := same_new (o := .lst [V.ref t0]) nf
    have s01 := s0.trans s1
    refine ⟨_, rfl, a, rfl, ⟨_, SqL.of (s01 _ _ ha)⟩, ?_⟩
    have wz := walk_list (K := K) (a := a) (xs := intsV zs)
    have ilen : (intsV zs).length = zs.length := List.length_map _
    have lens : ∀ i, (allF (zs.take i) [[]]).length ≤ 64 := fun i => by
      rw [allF_len]
      have := prodN_take hz1 i
      show 1 * _ ≤ _
      omega
    refine for_it wz (fun k σ H' => ∃ fa FL x2 x3 x4, σ = [some (.ref a), some (.ref fa), x2, x3, x4, none] ∧ Same H H' ∧ H fa = none ∧ H' fa = some (.lst (refs FL)) ∧ AllAt H' FL ∧ rws FL = allF (zs.take k) [[]])
      ⟨f0, [(t0, [])], none, none, none, rfl, s01, s0.free nf, upd_same, fun p hp => by rw [List.mem_singleton.mp hp]; exact s1 _ _ upd_same, rfl⟩ (fun k σ H' _ p => by obtain ⟨_, _, _, _, _, _, q1, _⟩ := p; exact SqL.of (q1 _ _ ha)) ?_ ?_
    · rintro k x σ _ H1 hk ⟨fa, FL, x2, x3, x4, rfl, s2, nfa, hfa, aF, eF⟩ ⟨rfl, hx⟩
      obtain ⟨sz, hsz, rfl⟩ := intsV_get hx
      have hszm : sz ∈ zs := List.mem_of_getElem? hsz
      refine ⟨Nat.zero_le _, fun la nla => ?_⟩
      have s3 := same_new (o := .lst []) nla
      have nl0 := s2.free nla
      have hfl : fa ≠ la := ne_of_none hfa nla
      have etk : allF (zs.take (k + 1)) [[]] = (allF (zs.take k) [[]]).flatMap (ones sz) := by
        rw [List.take_add_one, hsz]
        exact allF_app _ _ _
      have l64 := lens (k + 1)
      rw [etk, ones_len] at l64
      refine ⟨_, rfl, fa, rfl, ⟨_, SqL.of (s3 _ _ hfa)⟩, ?_⟩
      have wl := walk_list (K := K) (a := fa) (xs := refs FL)
      rw [refs_len] at wl
      have eFl : FL.length = (allF (zs.take k) [[]]).length := by rw [← rws_len, eF]
      refine for_it wl (fun j σ H' => ∃ ML x4, σ = [some (.ref a), some (.ref fa), some (.int sz), some (.ref la), x4, none] ∧ Same H H' ∧ H' fa = some (.lst (refs FL)) ∧ AllAt H' FL ∧ H' la = some (.lst (refs ML)) ∧ AllAt H' ML ∧ rws ML = ((allF (zs.take k) [[]]).take j).flatMap (ones sz))
        ⟨[], x4, rfl, s2.trans s3, s3 _ _ hfa, aF.mono (.of_same s3), upd_same, (fun p hp => nomatch hp), rfl⟩ (fun j σ H' _ p => by obtain ⟨_, _, _, _, q1, _⟩ := p; exact SqL.of q1) ?_ ?_
      · rintro j x σ _ H2 hj ⟨ML, x4, rfl, s4, hfa2, aF2, hla, aM, eM⟩ ⟨rfl, hx⟩
        obtain ⟨r, hr', rfl⟩ := refs_get hx
        have hrm : r ∈ FL := List.mem_of_getElem? hr'
        have hoj : (allF (zs.take k) [[]])[j]? = some r.2 := by
          rw [← eF]
          unfold rws
          rw [List.getElem?_map, hr']
          rfl
        have hrr := aF2 r hrm
        have hrl : r.2.length ≤ 10 := by
          have := (allF_in _ (List.mem_of_getElem? hoj)).1
          rw [this]
          show ((zs.take k).map _).length ≤ 10
          rw [List.length_map, List.length_take]
          omega
        have szs : sz ≤ 64 := by
          have h1 : 1 ≤ (allF (zs.take k) [[]]).length := by omega
          have : 1 * sz ≤ (allF (zs.take k) [[]]).length * sz := Nat.mul_le_mul_right _ h1
          omega
        refine ⟨_, rfl, .inl ⟨rfl, _, SqL.of hla⟩, _, rfl, (sz : Int), rfl, by omega, by omega, fun D hD => ?_⟩
        refine lc_same (n := sz) walk_range0 (fun _ => true) (fun p y H' => isRow (r.2 ++ [(p : Int)]) y H') (fun p y H' H'' t e => e.mono t) hD (by omega) (fun _ _ => trivial) ?_ (fun H3 acc s5 hd pr => ?_)
        · rintro p x H3 H4 N hp s5 ⟨rfl, rfl⟩ kt kf
          refine ⟨rfl, ?_⟩
          refine ⟨_, rfl, _, rfl, by show 1 ≤ sizeLine; decide, fun u nu => ?_⟩
          have s6 := same_new (o := .tup [V.int p]) nu
          refine rCat_of (s6 _ _ (s5 _ _ hrr)) upd_same (by rw [rowV_len]; show _ + 1 ≤ _; omega) fun z H5 s7 ez => ?_
          refine kt rfl _ _ (s6.trans s7) ⟨z, rfl, ?_⟩
          rw [ez, ← rowV_snoc]
        · rw [filter_all] at pr
          obtain ⟨NL, rfl, eN, aN⟩ := rows_of (g := fun (p : Nat) => r.2 ++ [(p : Int)]) pr
          have hla3 := s5 _ _ hla
          have nDl : D ≠ la := (ne_of_none hla hD).symm
          have fl3 := s5 _ _ hfa2
          have lenM : ML.length ≤ 64 := by
            rw [← rws_len, eM, ones_len, List.length_take]
            exact Nat.le_trans (Nat.mul_le_mul_right _ (Nat.min_le_right _ _)) l64
          have lenN : NL.length ≤ 64 := by
            rw [← rws_len, eN, List.length_map, List.length_range]
            exact szs
          refine ⟨la, D, refs ML, refs NL, rfl, rfl, hla3, hd, by rw [refs_len, refs_len]; exact Nat.le_trans (show ML.length + NL.length ≤ 2000 by omega) (by decide), ?_⟩
          have tu : Tups H3 (upd H3 la (.lst (refs ML ++ refs NL))) := .setL hla3
          refine ⟨ML ++ NL, _, rfl, fun b u e => ?_, by rw [upd_ne hfl]; exact fl3, (aF2.mono (.of_same s5)).mono tu, by rw [upd_same, refs_app], fun p hp => ?_, ?_⟩
          · rw [upd_ne (ne_of_none e nl0)]
            exact s5 _ _ (s4 _ _ e)
          · rcases List.mem_append.mp hp with hp | hp
            · exact tu _ _ (s5 _ _ (aM p hp))
            · exact tu _ _ (aN p hp)
          · rw [rws_app, eM, eN, List.take_add_one, hoj, List.flatMap_append]
            show _ = _ ++ [r.2].flatMap (ones sz)
            rw [List.flatMap_cons, List.flatMap_nil, List.append_nil]
            rfl
      · rintro σ H2 ⟨ML, x4, rfl, s4, hfa2, aF2, hla, aM, eM⟩
        refine ⟨_, rfl, la, ML, _, _, _, rfl, s4, nl0, hla, aM, ?_⟩
        rw [eM, eFl, List.take_length, etk]
    · rintro σ H1 ⟨fa, FL, x2, x3, x4, rfl, s2, nfa, hfa, aF, eF⟩
      rw [ilen, List.take_length] at eF
      exact ⟨_, rfl, q fa FL _ nfa s2 hfa aF eF⟩
end
end K71
set_option Elab.async false
set_option linter.all false
set_option maxRecDepth 100000
set_option maxHeartbeats 4000000
namespace K71
open PySem PySem.W PySem.Spec PyProof.Rows L2
section
variable {P : Program} {w : World} {K : PySem.W.Frag} {mg : Str → Option Value} {base : Heap}
/-! ### l_reached -/
def spLReached (P : Program) (w : World) (K : PySem.W.Frag) : Sp := fun vs H Q _ => ∃ (a : Addr) (L : RL) (n : Nat), vs = [.ref a] ∧ H a = some (.lst (refs L)) ∧ AllAt H L ∧ L ≠ [] ∧ Wid n (rws L) ∧ n ≤ 6 ∧ L.length ≤ 60 ∧
  ∀ d E H', H d = none → Same H H' → H' d = some (DkO P w d (E.map entE)) → RDict P w .lst H' d L E → (∀ st, st ∈ E.map (·.1) ↔ Reached n (rws L) st) → Q (.ref d) H'
theorem k_l_reached (B : Bi mg) (D : Placed K mg "_law_reached" s_l_reached p_l_reached) (CO : Kept P w K mg base CX0 1 "_law_open" p_l_open (spOpen K)) (CA : Kept P w K mg base CX0 1 "_law_answers" p_l_answers (spAns K)) (CP : Kept P w K mg base CX0 1 "_law_part" p_l_part (spPart K)) :
    Kept P w K mg base CX0 2 "_law_reached" p_l_reached (spLReached P w K) := by
  obtain ⟨fO, fdO, GO, mO, kO, bO⟩ := CO
  obtain ⟨fA, fdA, GA, mA, kA, bA⟩ := CA
  obtain ⟨fP, fdP, GP, mP, kP, bP⟩ := CP
  refine D.keep fun f fd F => F.ok sc_l_reached (fun vs H Q E h => ?_) (fun cdv A outer s H vs Q E hr h => ?_)
  · obtain ⟨a, L, n, rfl, _⟩ := h
    rfl
  · obtain ⟨a, L, n, rfl, ha, hL, hne, hw, hn, hm, q⟩ := h
    refine ⟨_, pss_cons (ps_set (i := 1) sc_l_reached.nd rfl (Or.inl rfl) (pe_op op_repA (pe_tup (pa_cons pe_non pa_nil)) (pe_callB callLen (by rfl) B.len PySem.boot_len (pa_cons (pe_ix ix_list (pv 0) pe_int (fun _ _ => rfl)) pa_nil))))
      (pss_cons (ps_set (i := 2) sc_l_reached.nd rfl (Or.inl rfl) (pe_none1 (P := P) (w := w) (room_n hr) (pv 1) (pv 0)))
      (pss_cons (ps_set (i := 3) sc_l_reached.nd rfl (Or.inl rfl) (pe_lst (pa_cons (pv 1) pa_nil)))
      (pss_cons (ps_while PassesOwn.never (pt_cmpR op_gt (pe_callB callLen (by rfl) B.len PySem.boot_len (pa_cons (pv 3) pa_nil)) pe_int (nomark _))
        (pss_cons (ps_set (i := 4) sc_l_reached.nd rfl (Or.inl rfl) (pe_bm0 PySem.F.plainAttrs_list PySem.F.slot_list_pop PySem.F.type_list_pop mt_pop (pv 3)))
        (pss_one (ps_for PassesOwn.never rfl (pi_list (pe_call GO hr rfl mO kO bO .nil pass0 (pa_cons (pe_nget (P := P) (w := w) (room_n hr) (pv 2) (pv 4) (fun _ _ => rfl)) pa_nil))) (pg_name (i := 5) sc_l_reached.nd rfl (Or.inl rfl))
          (pss_one (ps_for PassesOwn.never rfl (pi_list (pe_call GA hr rfl mA kA bA .nil pass0 (pa_cons (pe_nget (P := P) (w := w) (room_n hr) (pv 2) (pv 4) (fun _ _ => rfl)) (pa_cons (pv 5) pa_nil)))) (pg_name (i := 6) sc_l_reached.nd rfl (Or.inl rfl))
            (pss_cons (ps_set (i := 7) sc_l_reached.nd rfl (Or.inl rfl) (pe_op op_catA (pe_op op_catA (pe_slice sl_tupA (pv 4) po_none (po_some (pv 5))) (pe_tup (pa_cons (pv 6) pa_nil))) (pe_slice sl_tupA (pv 4) (po_some (pe_add (pv 5) pe_int)) po_none)))
            (pss_one (ps_if (pt_cmp (pc_nnotin (P := P) (w := w) (room_n hr) (pv 7) (pv 2)))
              (pss_cons (ps_nput (P := P) (w := w) (room_n hr) (pv 2) (pv 7) (pe_call GP hr rfl mP kP bP .nil pass0 (pa_cons (pe_nget (P := P) (w := w) (room_n hr) (pv 2) (pv 4) (fun _ _ => rfl)) (pa_cons (pv 5) (pa_cons (pv 6) pa_nil)))) rfl)
              (pss_one (ps_expr (pe_bm PySem.F.plainAttrs_list PySem.F.slot_list_append PySem.F.type_list_append mt_append (pv 3) (pa_cons (pv 7) pa_nil))))) pss_nil)))))))))
      (pss_one (ps_ret (pv 2)))))), ?_⟩
    have hne' : rws L ≠ [] := fun z => hne (List.map_eq_nil_iff.mp z)
    obtain ⟨p0, L', eL⟩ : ∃ p L', L = p :: L' := by
      cases L with
      | nil => exact absurd rfl hne
      | cons p L' => exact ⟨p, L', rfl⟩
    have h0 : H p0.1 = some (.tup (rowV p0.2)) := hL p0 (by rw [eL]; exact List.mem_cons_self)
    have n0 : p0.2.length = n := hw p0.2 (mem_rws (by rw [eL]; exact List.mem_cons_self))
    refine ⟨by show 1 ≤ sizeLine; decide, fun t0 nt0 => ?_⟩
    have s0 := same_new (o := .tup [V.non]) nt0
    refine ⟨_, rfl, a, _, 0, .ref p0.1, rfl, rfl, SqL.of (s0 _ _ ha), atI_nat (j := 0) (by rw [eL]; rfl), ?_⟩
    refine ⟨p0.1, _, rfl, .inr (SqT.of (s0 _ _ h0)), ?_⟩
    refine rRep_one (k := (rowV p0.2).length) upd_same (by rw [rowV_len]; omega) fun b Hb sb eb => ?_
    rw [rowV_len, n0, replicate_begin] at eb
    intro d nd
    have s1 := s0.trans (sb.trans (same_new (o := DkO P w d []) nd))
    refine ⟨_, rfl, _, rfl, b, kSt (begin_ n), rfl, upd_same, keyAt_st (same_new nd _ _ eb), ?_⟩
    have s2 : Same H (upd (upd Hb d (DkO P w d [])) d (DkO P w d [(kSt (begin_ n), b, V.ref a)])) := fun c o e => by
      rw [upd_ne (ne_of_none ((s0.trans sb) _ _ e) nd)]
      exact s1 _ _ e
    refine ⟨_, rfl, by show 1 ≤ sizeLine; decide, fun wl nw => ?_⟩
    have s3 := same_new (o := .lst [V.ref b]) nw
    have s03 := s2.trans s3
    have hdH : H d = none := (s0.trans sb).free nd
    have hwH : H wl = none := s2.free nw
    have ndw : d ≠ wl := fun z => by
      rw [← z, upd_same] at nw
      cases nw
    have b0 : (upd (upd Hb d (DkO P w d [])) d (DkO P w d [(kSt (begin_ n), b, V.ref a)])) b = some (.tup (stV (begin_ n))) := by
      rw [upd_ne (ne_of_none eb nd), upd_ne (ne_of_none eb nd)]
      exact eb
    have R0 : RStE P w .lst H (upd (upd (upd Hb d (DkO P w d [])) d (DkO P w d [(kSt (begin_ n), b, V.ref a)])) wl (.lst [V.ref b])) d wl L [(begin_ n, b, a)] [(b, begin_ n)] ([begin_ n], [begin_ n]) := by
      refine ⟨s03, hdH, hwH, ndw, s3 _ _ upd_same, fun e he => ?_, rfl, upd_same, fun x hx => ?_, rfl⟩
      · rw [List.mem_singleton.mp he]
        refine ⟨s3 _ _ b0, ?_, ne_of_none ha hwH⟩
        show _ = some (HO.lst (refs (fitL L (begin_ n))))
        rw [fitL_begin]
        exact s03 _ _ ha
      · rw [List.mem_singleton.mp hx]
        exact s3 _ _ b0
    generalize (upd (upd (upd Hb d (DkO P w d [])) d (DkO P w d [(kSt (begin_ n), b, V.ref a)])) wl (.lst [V.ref b])) = Hs at R0 ⊢
    clear b0 s03 s3 nw s2 s1 nd eb sb nt0 s0
    refine ⟨fun m σ H' => ∃ st E ws x4 x5 x6 x7, σ = [some (.ref a), some (.ref b), some (.ref d), some (.ref wl), x4, x5, x6, x7] ∧ RStE P w .lst H H' d wl L E ws st ∧ DInv n (rws L) st ∧ Closed n (rws L) st ∧ m = mu n (rws L) st,
      ⟨_, ([begin_ n], [begin_ n]), _, _, none, none, none, none, rfl, R0, dinv_start _ _, closed_start _ _, rfl⟩, ?_⟩
    clear R0 Hs
    rintro m σ H1 ⟨st, E, ws, x4, x5, x6, x7, rfl, R1, Dv, Cl, rfl⟩
    refine ⟨_, rfl, wl, _, rfl, .inl (SqL.of R1.wo), _, 0, rfl, rfl, _, rfl, ?_⟩
    obtain ⟨f1, w1⟩ := st
    induction ws using snoc_ind with
    | h0 =>
      have e0 : w1 = [] := R1.wk.symm
      subst e0
      refine iteF ⟨_, rfl, ?_⟩
      refine q d E H1 hdH R1.same R1.ob ⟨.inl R1.ob, fun e he => ⟨(R1.en e he).1, (R1.en e he).2.1⟩⟩ fun st => ?_
      rw [R1.ek]
      exact reached_all Dv Cl
    | h1 ws x _ =>
      have e0 : w1 = ws.map (·.2) ++ [x.2] := by
        have := R1.wk
        rw [List.map_append] at this
        exact this.symm
      obtain ⟨xa, here⟩ := x
      have e0 : w1 = ws.map (·.2) ++ [here] := e0
      subst e0
      rw [decide_eq_true (by rw [List.length_map, List.length_append]; show ((ws.length + 1 : Nat) : Int) > 0; omega)]
      refine iteT ?_
      obtain ⟨w0, hw0⟩ : ∃ w0, w0 = ws.map (·.2) := ⟨_, rfl⟩
      rw [← hw0] at R1 Dv Cl ⊢
      refine ⟨fun σ' H' => ∃ st E ws' x4 x5 x6 x7, σ' = [some (.ref a), some (.ref b), some (.ref d), some (.ref wl), x4, x5, x6, x7] ∧ RStE P w .lst H H' d wl L E ws' st ∧ DInv n (rws L) st ∧ Closed n (rws L) st ∧ mu n (rws L) st < mu n (rws L) (f1, w0 ++ [here]), fun σ' H' hh => ?_, ?_⟩
      · obtain ⟨st, E', ws', x4, x5, x6, x7, a1, a2, a3, a4, a7⟩ := hh
        exact ⟨_, a7, st, E', ws', x4, x5, x6, x7, a1, a2, a3, a4, rfl⟩
      -- one more is taken
      obtain ⟨D0, hf⟩ := dinv_pop Dv
      have hre := Dv.re here hf
      have hlen : here.length = n := hre.len
      have hxa : H1 xa = some (.tup (stV here)) := R1.wn (xa, here) (List.mem_append_right _ List.mem_cons_self)
      have dl : ((ws ++ [(xa, here)]).map fun x => V.ref x.1).dropLast = ws.map fun x => V.ref x.1 := by
        rw [List.map_append]
        exact List.dropLast_concat
      refine ⟨_, rfl, .inl ⟨rfl, _, SqL.of R1.wo⟩, wl, _, .ref xa, rfl, rfl, R1.wo, ?_, ?_⟩
      · rw [List.map_append]
        simp
      rw [dl]
      have R2 : RStE P w .lst H (upd H1 wl (.lst (ws.map fun x => .ref x.1))) d wl L E ws (f1, w0) := RStE.pop (x := (xa, here)) R1 (fun _ _ z => nomatch z) hw0.symm
      have hxa2 : (upd H1 wl (.lst (ws.map fun x => V.ref x.1))) xa = some (.tup (stV here)) := by
        rw [upd_ne (ne_of hxa R1.wo (fun z => nomatch z))]
        exact hxa
      generalize (upd H1 wl (.lst (ws.map fun x => V.ref x.1))) = H2 at R2 hxa2 ⊢
      obtain ⟨e1, m1, k1, v1⟩ := valE_some (E := E) (st := here) (by rw [R2.ek]; exact hf)
      obtain ⟨j1, j2, j3⟩ := R2.en e1 m1
      rw [k1] at j2
      have hLf : ∀ {Hx : Hp}, Same H Hx → AllAt Hx (fitL L here) := fun s => (hL.mono (.of_same s)).sub fun q hq => (List.mem_filter.mp hq).1
      have hfw : Wid n (rws (fitL L here)) := by
        rw [rws_fit]
        exact hw.sub fun r hr => (mem_fit.mp hr).1
      have hfn : fitL L here ≠ [] := fun z => by
        obtain ⟨r, _, hr⟩ := hre.ne hne'
        rw [← rws_fit, z] at hr
        cases hr
      have hfl : (fitL L here).length ≤ 60 := Nat.le_trans (List.length_filter_le _ _) hm
      have er : rws (fitL L here) = fit (rws L) here := rws_fit L here
      refine ⟨_, rfl, _, rfl, d, xa, kSt here, _, _, rfl, rfl, R2.nd, keyAt_st hxa2, v1, ?_⟩
      refine ⟨e1.2.2, fitL L here, n, rfl, .inl (SqL.of j2), hLf R2.same, hfn, hfw, by omega, hfl, fun pl H3 npl s3 epl => ?_⟩
      rw [er] at epl
      refine ⟨pl, rfl, ⟨_, SqL.of epl⟩, ?_⟩
      have wp := walk_list (K := K) (a := pl) (xs := intsV (opn n (fit (rws L) here)))
      have ilen : (intsV (opn n (fit (rws L) here))).length = (opn n (fit (rws L) here)).length := List.length_map _
      have nlw : pl ≠ wl := fun z => by
        have := R2.wo
        rw [← z, npl] at this
        cases this
      have nld : pl ≠ d := fun z => by
        have := R2.ob
        rw [← z, npl] at this
        cases this
      refine for_it wp (fun i σ H' => ∃ E ws sj x5 x6 x7, σ = [some (.ref a), some (.ref b), some (.ref d), some (.ref wl), some (.ref xa), x5, x6, x7] ∧ H' pl = some (.lst (intsV (opn n (fit (rws L) here)))) ∧ H' xa = some (.tup (stV here)) ∧
          RStE P w .lst H H' d wl L E ws sj ∧ DInv n (rws L) sj ∧ Pushed (f1, w0) sj ∧ ∀ p, p ∈ (opn n (fit (rws L) here)).take i → ∀ v, v ∈ firsts (fit (rws L) here) p → here.set p (some v) ∈ sj.1)
        ⟨E, ws, (f1, w0), x5, x6, x7, rfl, epl, s3 _ _ hxa2, R2.mono s3, D0, .refl _, fun p hp => nomatch hp⟩ (fun i σ H' _ p => by obtain ⟨_, _, _, _, _, _, _, q1, _⟩ := p; exact SqL.of q1) ?_ ?_
      · rintro i x σ _ H4 hi ⟨E4, ws4, si, y5, y6, y7, rfl, e4, exa, R4, Di, Pi, Ki⟩ ⟨rfl, hx⟩
        obtain ⟨p, hp, rfl⟩ := intsV_get hx
        have hpm : p ∈ opn n (fit (rws L) here) := List.mem_of_getElem? hp
        have hpn : p < n := (mem_opn.mp hpm).1
        obtain ⟨o1, o2⟩ := open_untold hlen hpm
        have hfi : here ∈ si.1 := Pi.sub _ hf
        obtain ⟨e2, m2, k2, v2⟩ := valE_some (E := E4) (st := here) (by rw [R4.ek]; exact hfi)
        obtain ⟨l1, l2, l3⟩ := R4.en e2 m2
        rw [k2] at l2
        refine ⟨_, rfl, _, rfl, d, xa, kSt here, _, _, rfl, rfl, R4.nd, keyAt_st exa, v2, ?_⟩
        refine ⟨_, rfl, e2.2.2, fitL L here, n, p, rfl, .inl (SqL.of l2), hLf R4.same, hfw, hpn, hfl, fun as al H5 nal s5 mas nas eal => ?_⟩
        rw [er] at mas
        refine ⟨al, rfl, ⟨_, SqL.of eal⟩, ?_⟩
        have wa := walk_list (K := K) (a := al) (xs := as.map V.int)
        rw [List.length_map] at wa
        have naw : al ≠ wl := fun z => by
          have := R4.wo
          rw [← z, nal] at this
          cases this
        have nad : al ≠ d := fun z => by
          have := R4.ob
          rw [← z, nal] at this
          cases this
        refine for_it wa (fun j σ H' => ∃ E ws sj x6 x7, σ = [some (.ref a), some (.ref b), some (.ref d), some (.ref wl), some (.ref xa), some (.int p), x6, x7] ∧ H' pl = some (.lst (intsV (opn n (fit (rws L) here)))) ∧ H' xa = some (.tup (stV here)) ∧
            H' al = some (.lst (as.map V.int)) ∧ RStE P w .lst H H' d wl L E ws sj ∧ DInv n (rws L) sj ∧ Pushed si sj ∧ ∀ v, v ∈ as.take j → here.set p (some v) ∈ sj.1)
          ⟨E4, ws4, si, y6, y7, rfl, s5 _ _ e4, s5 _ _ exa, eal, R4.mono s5, Di, .refl _, fun v hv => nomatch hv⟩ (fun j σ H' _ q => by obtain ⟨_, _, _, _, _, _, _, _, q1, _⟩ := q; exact SqL.of q1) ?_ ?_
        · rintro j x σ _ H7 hj ⟨E7, ws7, sj, z6, z7, rfl, p7, xa7, a7, R7, Dj, Pj, Kj⟩ ⟨rfl, hx⟩
          rw [List.getElem?_map] at hx
          obtain ⟨v, hv, rfl⟩ := Option.map_eq_some_iff.mp hx
          have hvm : v ∈ as := List.mem_of_getElem? hv
          obtain ⟨r, hrr, erv⟩ := mem_firsts.mp ((mas v).mp hvm)
          have hkid : Reached n (rws L) (here.set p (some v)) := hre.kid ⟨p, hpm, r, hrr, by rw [erv]⟩
          have hset : fitL L (here.set p (some v)) = partL (fitL L here) p v := fitL_set o1 o2
          refine mid_of (i := 4) (j := 5) (m := 6) (k := p) rfl rfl rfl xa7 (by rw [stV_len]; exact o1) (by rw [stV_len]; omega) fun c H9 s9 e9 => ?_
          rw [show V.int v = optV (some v) from rfl, stV_set] at e9
          have R9 := R7.mono s9
          have p9 := s9 _ _ p7
          have xa9 := s9 _ _ xa7
          have a9 := s9 _ _ a7
          refine ⟨_, rfl, _, rfl, d, c, kSt (here.set p (some v)), E7.map entE, rfl, rfl, R9.nd, keyAt_st e9, _, rfl, ?_⟩
          by_cases hin : here.set p (some v) ∈ sj.1
          · obtain ⟨e3, m3, k3, v3⟩ := valE_some (E := E7) (st := here.set p (some v)) (by rw [R9.ek]; exact hin)
            rw [v3]
            refine iteF ⟨E7, ws7, sj, _, _, rfl, p9, xa9, a9, R9, Dj, Pj, fun u hu => ?_⟩
            rcases take_mem hv hu with hu | rfl
            · exact Kj u hu
            · exact hin
          · rw [valE_none (by rw [R9.ek]; exact hin)]
            refine iteT ?_
            have hfj : here ∈ sj.1 := Pj.sub _ hfi
            obtain ⟨e5, m5, k5, v5⟩ := valE_some (E := E7) (st := here) (by rw [R9.ek]; exact hfj)
            obtain ⟨l51, l52, l53⟩ := R9.en e5 m5
            rw [k5] at l52
            refine ⟨_, rfl, _, rfl, d, xa, kSt here, _, _, rfl, rfl, R9.nd, keyAt_st xa9, v5, ?_⟩
            refine ⟨_, rfl, _, rfl, e5.2.2, fitL L here, n, p, v, rfl, .inl (SqL.of l52), hLf R9.same, hfw, hpn, by omega, fun pt H10 npt s10 ept => ?_⟩
            have R10 := R9.mono s10
            have nptw : pt ≠ wl := fun z => by
              have := R9.wo
              rw [← z, npt] at this
              cases this
            obtain ⟨vn, Rp⟩ := R10.put (fun _ _ z => nomatch z) hin (s10 _ _ e9) (a := pt) (by rw [hset]; exact ept) nptw
            have wo' : (upd H10 d (DkO P w d (putN (E7.map entE) (kSt (here.set p (some v))) c (.ref pt)))) wl = some (.lst (ws7.map fun x => .ref x.1)) := by
              rw [upd_ne R10.ne.symm]
              exact R10.wo
            refine ⟨_, rfl, _, rfl, d, c, _, _, rfl, rfl, R10.ob, R10.keys, keyAt_st (s10 _ _ e9), R10.len Dj hw hne hn (by omega), ?_⟩
            refine ⟨_, rfl, .inl ⟨rfl, _, SqL.of wo'⟩, _, rfl, wl, _, _, rfl, rfl, wo', R10.wlen Dj hw hne hn (by omega), ?_⟩
            have keep : ∀ c' u, H10 c' = some u → c' ≠ d → c' ≠ wl → (upd (upd H10 d (DkO P w d (putN (E7.map entE) (kSt (here.set p (some v))) c (.ref pt)))) wl (.lst ((ws7.map fun x => .ref x.1) ++ [.ref c]))) c' = some u := fun c' u e n1 n2 => by
              rw [upd_ne n2, upd_ne n1]
              exact e
            have tup_ne : ∀ {c' xs}, H10 c' = some (.tup xs) → c' ≠ d ∧ c' ≠ wl := fun e => ⟨ne_of e R10.ob (fun z => by unfold DkO at z; cases z), ne_of e R10.wo (fun z => nomatch z)⟩
            refine ⟨_, _, push sj (here.set p (some v)), _, _, rfl, keep _ _ (s10 _ _ p9) nld nlw, keep _ _ (s10 _ _ xa9) (tup_ne (s10 _ _ xa9)).1 (tup_ne (s10 _ _ xa9)).2, keep _ _ (s10 _ _ a9) nad naw, Rp, Dj.push hkid, Pj.trans (.one _ _), fun u hu => ?_⟩
            rcases take_mem hv hu with hu | rfl
            · exact push_sub _ _ _ (Kj u hu)
            · exact push_mem _ _
        · rintro σ H7 ⟨E7, ws7, sj, z6, z7, rfl, p7, xa7, a7, R7, Dj, Pj, Kj⟩
          refine ⟨E7, ws7, sj, _, _, _, rfl, p7, xa7, R7, Dj, Pi.trans Pj, fun p' hp' v hv => ?_⟩
          rcases take_mem hp hp' with hp' | rfl
          · exact Pj.sub _ (Ki p' hp' v hv)
          · refine Kj v ?_
            rw [List.take_length]
            exact (mas v).mpr hv
      · rintro σ H4 ⟨E5, ws5, sj, y5, y6, y7, rfl, e4, e5, R5, D5, P5, K5⟩
        rw [ilen, List.take_length] at K5
        obtain ⟨Ca, ma⟩ := step_ok hw hne' Cl D5 P5 fun u ku => by
          obtain ⟨p, hp, r, hr', rfl⟩ := ku
          exact K5 p hp _ (mem_firsts.mpr ⟨r, hr', rfl⟩)
        exact ⟨_, E5, ws5, _, _, _, _, rfl, R5, D5, Ca, ma⟩
end
end K71
set_option Elab.async false
set_option linter.all false
set_option maxRecDepth 100000
set_option maxHeartbeats 4000000
namespace K71
open PySem PySem.W PySem.Spec PyProof.Rows L2
section
variable {P : Program} {w : World} {K : PySem.W.Frag} {mg : Str → Option Value} {base : Heap}
/-! ### l_is_loose -/
def spLIsLoose (P : Program) (w : World) (K : PySem.W.Frag) : Sp := fun vs H Q _ => ∃ (d b r : Addr) (E : List EE) (L : RL) (n : Nat) (st : Std) (row : Row) (p q : Nat), vs = [.ref d, .ref b, .ref r, .int p, .int q] ∧ RDict P w .lst H d L E ∧ AllAt H L ∧ Wid n (rws L) ∧ n ≤ 6 ∧ L.length ≤ 60 ∧ st ∈ E.map (·.1) ∧ H b = some (.tup (stV st)) ∧ H r = some (.tup (rowV row)) ∧
  row ∈ fit (rws L) st ∧ p ∈ opn n (fit (rws L) st) ∧ q ∈ opn n (fit (rws L) st) ∧ ∀ H', Same H H' → Q (.bl (looseB n (fitL L st) row p q)) H'
theorem k_l_is_loose (B : Bi mg) (D : Placed K mg "_law_is_loose" s_l_is_loose p_l_is_loose) (CO : Kept P w K mg base CX0 1 "_law_open" p_l_open (spOpen K)) (CH : Kept P w K mg base CX0 1 "_law_hangs" p_l_hangs (spLHangs K)) :
    Kept P w K mg base CX0 2 "_law_is_loose" p_l_is_loose (spLIsLoose P w K) := by
  obtain ⟨fO, fdO, GO, mO, kO, bO⟩ := CO
  obtain ⟨fH, fdH, GH, mH, kH, bH⟩ := CH
  refine D.keep fun f fd F => F.ok sc_l_is_loose (fun vs H Q E h => ?_) (fun cdv A outer s H vs Q E hr h => ?_)
  · obtain ⟨d, b, r, E, L, n, st, row, p, q, rfl, _⟩ := h
    rfl
  · obtain ⟨d, b, r, E, L, n, st, row, p, q, rfl, R, hL, hw, hn, hl, hst, hb, hr', hrow, hp, hq, qq⟩ := h
    refine ⟨_, pss_cons (ps_set (i := 5) sc_l_is_loose.nd rfl (Or.inl rfl) (pe_nget2 (P := P) (w := w) (room_n hr) (pv 0) (pv 1) (pe_lst pa_nil) ⟨rfl, rfl, rfl, rfl⟩))
      (pss_cons (ps_if (PW.pt (pw_or (pt_cmpR (op_notInD (room65 hr)) (pv 2) (pv 5) rfl) (pw_or (pt_cmpR op_eq (pv 3) (pv 4) (nomark _)) (pw_or (pt_cmpR op_notIn_seq (pv 3) (pe_call GO hr rfl mO kO bO .nil pass0 (pa_cons (pv 5) pa_nil)) rfl)
          (pw_or1 (pt_cmpR op_notIn_seq (pv 4) (pe_call GO hr rfl mO kO bO .nil pass0 (pa_cons (pv 5) pa_nil)) rfl)))))) (pss_one (ps_ret pe_bl)) pss_nil)
      (pss_one (ps_ret (pe_and (pe_call GH hr rfl mH kH bH .nil pass0 (pa_cons (pv 5) (pa_cons (pv 2) (pa_cons (pv 4) (pa_cons (pv 3) pa_nil)))))
        (pe_one (pe_not (pe_call GH hr rfl mH kH bH .nil pass0 (pa_cons (pv 5) (pa_cons (pv 2) (pa_cons (pv 3) (pa_cons (pv 4) pa_nil))))))))))), ?_⟩
    obtain ⟨e1, m1, k1, v1⟩ := valE_some hst
    obtain ⟨j1, j2⟩ := R.en e1 m1
    rw [k1] at j2
    have er : rws (fitL L st) = fit (rws L) st := rws_fit L st
    have hpn := (mem_opn.mp hp).1
    have hqn := (mem_opn.mp hq).1
    have hfn : fitL L st ≠ [] := fun z => by
      rw [← er, z] at hrow
      cases hrow
    have hfw : Wid n (rws (fitL L st)) := by
      rw [er]
      exact hw.sub fun r hr => (mem_fit.mp hr).1
    have hfl : (fitL L st).length ≤ 60 := Nat.le_trans (List.length_filter_le _ _) hl
    have hLf : ∀ {Hx : Hp}, Same H Hx → AllAt Hx (fitL L st) := fun s => (hL.mono (.of_same s)).sub fun q hq => (List.mem_filter.mp hq).1
    have hrow' : row ∈ rws (fitL L st) := by rw [er]; exact hrow
    refine ⟨_, rfl, d, _, rfl, R.nd, _, rfl, Nat.zero_le _, fun t nt => ?_⟩
    have s1 := same_new (o := .lst []) nt
    have R1 : RDict P w .lst (upd H t (.lst [])) d L E := ⟨R.ob.elim (fun z => .inl (s1 _ _ z)) fun ⟨o, z⟩ => .inr ⟨o, s1 _ _ z⟩, fun e he => ⟨s1 _ _ (R.en e he).1, s1 _ _ (R.en e he).2⟩⟩
    refine ⟨b, kSt st, _, rfl, R1.nd, keyAt_st (s1 _ _ hb), ?_⟩
    rw [v1]
    refine ⟨_, rfl, _, rfl, ?_⟩
    refine ⟨rowD row, rowsD (rws (fitL L st)), dpRow (s1 _ _ hr'), dpRowsL (SqL.of (s1 _ _ j2)) (hLf s1), row_shaped _, rowsL_shaped _, ?_⟩
    rw [any_rows, List.contains_iff_mem.mpr hrow']
    refine ⟨_, rfl, ?_⟩
    refine iteF ?_
    refine ⟨_, rfl, _, rfl, rfl, _, rfl, ?_⟩
    have ed : decide (V.int (p : Int) = V.int (q : Int)) = decide (p = q) := by
      rw [Bool.eq_iff_iff]
      simp
      omega
    rw [ed]
    by_cases hpq : p = q
    · rw [decide_eq_true hpq]
      have hF : looseB n (fitL L st) row p q = false := by
        unfold looseB
        rw [hpq]
        simp
      have := qq _ s1
      rw [hF] at this
      exact iteT (iteT this)
    rw [decide_eq_false hpq]
    refine iteF ?_
    refine ⟨_, rfl, _, rfl, e1.2.2, fitL L st, n, rfl, .inl (SqL.of (s1 _ _ j2)), hLf s1, hfn, hfw, by omega, hfl, fun l1 H2 nl1 s2 el1 => ?_⟩
    rw [er] at el1
    refine ⟨l1, _, rfl, .inl (SqL.of el1), rfl, flat_ints _, _, rfl, ?_⟩
    rw [if_pos rfl, inV_ints, contains_opn hpn, (mem_opn.mp hp).2]
    refine iteF ?_
    have s12 := s1.trans s2
    refine ⟨_, rfl, _, rfl, e1.2.2, fitL L st, n, rfl, .inl (SqL.of (s12 _ _ j2)), hLf s12, hfn, hfw, by omega, hfl, fun l2 H3 nl2 s3 el2 => ?_⟩
    rw [er] at el2
    refine ⟨l2, _, rfl, .inl (SqL.of el2), rfl, flat_ints _, _, rfl, ?_⟩
    rw [if_pos rfl, inV_ints, contains_opn hqn, (mem_opn.mp hq).2]
    refine iteF ?_
    have s13 := s12.trans s3
    refine ⟨_, rfl, _, rfl, _, rfl, _, rfl, e1.2.2, r, fitL L st, n, q, p, row, rfl, .inl (SqL.of (s13 _ _ j2)), hLf s13, s13 _ _ hr', hrow', hfw, hqn, hpn, hfl, fun H4 s4 => ?_⟩
    have s14 := s13.trans s4
    have eB : looseB n (fitL L st) row p q = (!opnAt (part (rws (fitL L st)) p row) q && opnAt (part (rws (fitL L st)) q row) p) := by
      unfold looseB
      rw [show (p != q) = true from by simp [hpq], Bool.true_and]
    cases c1 : opnAt (part (rws (fitL L st)) p row) q with
    | true =>
      refine ⟨false, rfl, ?_⟩
      have := qq _ s14
      rw [eB, c1] at this
      exact this
    | false =>
      refine ⟨true, rfl, ?_⟩
      refine ⟨_, rfl, _, rfl, _, rfl, _, rfl, e1.2.2, r, fitL L st, n, p, q, row, rfl, .inl (SqL.of (s14 _ _ j2)), hLf s14, s14 _ _ hr', hrow', hfw, hpn, hqn, hfl, fun H5 s5 => ?_⟩
      have := qq _ (s14.trans s5)
      rw [eB, c1] at this
      cases c2 : opnAt (part (rws (fitL L st)) q row) p with
      | true =>
        rw [c2] at this
        exact ⟨_, rfl, this⟩
      | false =>
        rw [c2] at this
        exact ⟨_, rfl, this⟩
/-! ### l_some_loose -/
def spSomeLoose (P : Program) (w : World) : Sp := fun vs H Q _ => ∃ (d : Addr) (E : List EE) (L : RL) (n : Nat), vs = [.ref d] ∧ H d = some (DkO P w d (E.map entE)) ∧ RDict P w .lst H d L E ∧ AllAt H L ∧ Wid n (rws L) ∧ L ≠ [] ∧ n ≤ 6 ∧ L.length ≤ 60 ∧ (∀ st, st ∈ E.map (·.1) ↔ Reached n (rws L) st) ∧
  ∀ (res : Bool) H', Same H H' → (res = true ↔ ∃ st row p q, Reached n (rws L) st ∧ LooseAt n (fit (rws L) st) row p q) → Q (.bl res) H'
theorem k_l_some_loose (B : Bi mg) (D : Placed K mg "_law_some_loose" s_l_some_loose p_l_some_loose) (CO : Kept P w K mg base CX0 1 "_law_open" p_l_open (spOpen K)) (CI : Kept P w K mg base CX0 2 "_law_is_loose" p_l_is_loose (spLIsLoose P w K)) :
    Kept P w K mg base CX0 3 "_law_some_loose" p_l_some_loose (spSomeLoose P w) := by
  obtain ⟨fO, fdO, GO, mO, kO, bO⟩ := CO
  obtain ⟨fI, fdI, GI, mI, kI, bI⟩ := CI
  refine D.keep fun f fd F => F.ok sc_l_some_loose (fun vs H Q E h => ?_) (fun cdv A outer s H vs Q E hr h => ?_)
  · obtain ⟨d, E, L, n, rfl, _⟩ := h
    rfl
  · obtain ⟨d, E, L, n, rfl, hd, R, hL, hw, hne, hn, hl, hre, qq⟩ := h
    have hr1 : Room 1 _ := hr.mono (by decide)
    refine ⟨_, pss_cons (ps_lock (ps_for PassesOwn.never rfl (pi_nkeys (P := P) (w := w) (pv 0)) (pg_name (i := 1) sc_l_some_loose.nd rfl (Or.inr rfl))
        (pss_cons (ps_set (i := 2) sc_l_some_loose.nd rfl (Or.inl rfl) (pe_nget (P := P) (w := w) (room_n hr) (pv 0) (pv 1) (fun _ _ => rfl)))
        (pss_cons (ps_set (i := 3) sc_l_some_loose.nd rfl (Or.inl rfl) (pe_call GO hr1 rfl mO kO bO .nil pass0 (pa_cons (pv 2) pa_nil)))
        (pss_one (ps_for PassesOwn.never rfl (pi_list (pv 2)) (pg_name (i := 4) sc_l_some_loose.nd rfl (Or.inr rfl))
          (pss_one (ps_for PassesOwn.never rfl (pi_list (pv 3)) (pg_name (i := 5) sc_l_some_loose.nd rfl (Or.inr rfl))
            (pss_one (ps_if (pt_cmpR op_gt (pe_callB callLen (by rfl) B.len PySem.boot_len (pa_cons
                (pe_lc (own := [("_law_q", 6)]) (g := gName 6) (by rfl) sc_l_some_loose.nd (pi_ls (K := K) (pv 3)) (blkOk_by (N := n_l_some_loose) (sc := defScope s_l_some_loose) (by decide +kernel)) (fun _ _ _ _ _ => pg_name (i := 6) sc_l_some_loose.nd rfl (Or.inl rfl))
                  (fun _ _ _ _ _ => pts_one (pt_val (pe_call GI hr rfl mI kI bI .nil pass0 (pa_cons (pv 0) (pa_cons (pv 1) (pa_cons (pv 4) (pa_cons (pv 5) (pa_cons (pv 6) pa_nil)))))))) (fun _ _ _ _ _ => pv 6)) pa_nil)) pe_int (nomark _))
              (pss_one (ps_ret pe_bl)) pss_nil))))))))))
      (pss_one (ps_ret pe_bl)), ?_⟩
    refine ⟨d, _, hd, True.intro, fun od => ?_⟩
    have neD : ∀ {c xs}, H c = some (.tup xs) → c ≠ d := fun e => ne_of e hd (fun z => by unfold DkO at z; cases z)
    have neL : ∀ {c xs}, H c = some (.lst xs) → c ≠ d := fun e => ne_of e hd (fun z => by unfold DkO at z; cases z)
    have bk : But d H (upd H d (.frz od (DkO P w d (E.map entE)))) := (But.refl d H).upd
    have hk : (upd H d (.frz od (DkO P w d (E.map entE)))) d = some (.frz od (DkO P w d (E.map entE))) := upd_same
    have exit : ∀ {H'}, Same (upd H d (.frz od (DkO P w d (E.map entE)))) H' → Same H (upd H' d (DkO P w d (E.map entE))) := fun s c o e => by
      by_cases z : c = d
      · rw [z, upd_same]
        rw [z, hd] at e
        exact e
      · rw [upd_ne z]
        exact s _ _ (bk _ _ e z)
    have Rk : RDict P w .lst (upd H d (.frz od (DkO P w d (E.map entE)))) d L E := ⟨.inr ⟨od, hk⟩, fun e he => ⟨bk _ _ (R.en e he).1 (neD (R.en e he).1), bk _ _ (R.en e he).2 (neL (R.en e he).2)⟩⟩
    have Lk : AllAt (upd H d (.frz od (DkO P w d (E.map entE)))) L := fun p hp => bk _ _ (hL p hp) (neD (hL p hp))
    generalize (upd H d (.frz od (DkO P w d (E.map entE)))) = Hk at bk hk exit Rk Lk ⊢
    have Rs : ∀ {H'}, Same Hk H' → RDict P w .lst H' d L E := fun s => ⟨.inr ⟨od, s _ _ hk⟩, fun e he => ⟨s _ _ (Rk.en e he).1, s _ _ (Rk.en e he).2⟩⟩
    refine ⟨_, rfl, d, od, E.map entE, rfl, hk, ?_⟩
    have wk := walk_nkeys (P := P) (w := w) (d := d) (o := od) (xs := E.map entE)
    refine for_it wk (fun i σ H' => Same Hk H' ∧ (∃ x1 x2 x3 x4 x5, σ = [some (.ref d), x1, x2, x3, x4, x5, none]) ∧ ∀ e, e ∈ E.take i → ∀ r, r ∈ fitL L e.1 → ∀ p, p ∈ opn n (fit (rws L) e.1) → ∀ q, q ∈ opn n (fit (rws L) e.1) → looseB n (fitL L e.1) r.2 p q = false)
      ⟨Same.refl _, ⟨none, none, none, none, none, rfl⟩, fun e he => nomatch he⟩ (fun i σ H' _ p => p.1 _ _ hk) ?_ ?_
    · rintro i x σ _ H1 hi ⟨s1, ⟨x1, x2, x3, x4, x5, rfl⟩, ok1⟩ ⟨rfl, e0, he0, rfl⟩
      rw [List.getElem?_map] at he0
      obtain ⟨e, he, rfl⟩ := Option.map_eq_some_iff.mp he0
      have hem : e ∈ E := List.mem_of_getElem? he
      have hst : e.1 ∈ E.map (·.1) := List.mem_map.mpr ⟨e, hem, rfl⟩
      have hR := (hre e.1).mp hst
      obtain ⟨j1, j2⟩ := (Rs s1).en e hem
      obtain ⟨e1, m1, k1, v1⟩ := valE_some hst
      obtain ⟨i1, i2⟩ := (Rs s1).en e1 m1
      rw [k1] at i2
      have er : rws (fitL L e.1) = fit (rws L) e.1 := rws_fit L e.1
      have hfn : fitL L e.1 ≠ [] := fun z => by
        obtain ⟨r, _, hr⟩ := hR.ne (fun z => hne (List.map_eq_nil_iff.mp z))
        rw [← er, z] at hr
        cases hr
      have hfw : Wid n (rws (fitL L e.1)) := by
        rw [er]
        exact hw.sub fun r hr => (mem_fit.mp hr).1
      have hfl : (fitL L e.1).length ≤ 60 := Nat.le_trans (List.length_filter_le _ _) hl
      have hLf : ∀ {Hx : Hp}, Same Hk Hx → AllAt Hx (fitL L e.1) := fun s => (Lk.mono (.of_same s)).sub fun q hq => (List.mem_filter.mp hq).1
      refine ⟨_, rfl, _, rfl, d, e.2.1, kSt e.1, _, _, rfl, rfl, (Rs s1).nd, keyAt_st j1, v1, ?_⟩
      refine ⟨_, rfl, e1.2.2, fitL L e.1, n, rfl, .inl (SqL.of i2), hLf s1, hfn, hfw, by omega, hfl, fun pl H2 npl s2 epl => ?_⟩
      rw [er] at epl
      have s12 := s1.trans s2
      refine ⟨_, rfl, e1.2.2, rfl, ⟨_, SqL.of (s2 _ _ i2)⟩, ?_⟩
      have wr := walk_list (K := K) (a := e1.2.2) (xs := refs (fitL L e.1))
      rw [refs_len] at wr
      have wp := walk_list (K := K) (a := pl) (xs := intsV (opn n (fit (rws L) e.1)))
      have ilen : (intsV (opn n (fit (rws L) e.1))).length = (opn n (fit (rws L) e.1)).length := List.length_map _
      rw [ilen] at wp
      refine for_it wr (fun j σ H' => Same H2 H' ∧ (∃ x4 x5, σ = [some (.ref d), some (.ref e.2.1), some (.ref e1.2.2), some (.ref pl), x4, x5, none]) ∧ ∀ r, r ∈ (fitL L e.1).take j → ∀ p, p ∈ opn n (fit (rws L) e.1) → ∀ q, q ∈ opn n (fit (rws L) e.1) → looseB n (fitL L e.1) r.2 p q = false)
        ⟨Same.refl _, ⟨x4, x5, rfl⟩, fun r hr => nomatch hr⟩ (fun j σ H' _ p => SqL.of (p.1 _ _ (s2 _ _ i2))) ?_ ?_
      · rintro j x σ _ H3 hj ⟨s3, ⟨x4, x5, rfl⟩, ok2⟩ ⟨rfl, hx⟩
        obtain ⟨r, hr', rfl⟩ := refs_get hx
        have hrm : r ∈ fitL L e.1 := List.mem_of_getElem? hr'
        refine ⟨_, rfl, pl, rfl, ⟨_, SqL.of (s3 _ _ epl)⟩, ?_⟩
        refine for_it wp (fun k σ H' => Same H2 H' ∧ (∃ x5, σ = [some (.ref d), some (.ref e.2.1), some (.ref e1.2.2), some (.ref pl), some (.ref r.1), x5, none]) ∧ ∀ p, p ∈ (opn n (fit (rws L) e.1)).take k → ∀ q, q ∈ opn n (fit (rws L) e.1) → looseB n (fitL L e.1) r.2 p q = false)
          ⟨s3, ⟨x5, rfl⟩, fun p hp => nomatch hp⟩ (fun k σ H' _ p => SqL.of (p.1 _ _ epl)) ?_ ?_
        · rintro k x σ _ H4 hk' ⟨s4, ⟨x5, rfl⟩, ok3⟩ ⟨rfl, hx⟩
          obtain ⟨p, hp, rfl⟩ := intsV_get hx
          have hpm : p ∈ opn n (fit (rws L) e.1) := List.mem_of_getElem? hp
          have s14 := s12.trans s4
          refine ⟨_, rfl, pl, rfl, ⟨_, SqL.of (s4 _ _ epl)⟩, fun D1 hD => ?_⟩
          refine lc_same wp (fun i => ((opn n (fit (rws L) e.1))[i]?.map fun q => looseB n (fitL L e.1) r.2 p q).getD false) (fun _ _ _ => True) (fun _ _ _ _ _ _ => trivial) hD (by have := opn_len n (fit (rws L) e.1); omega) (fun H' s => SqL.of (s _ _ (s4 _ _ epl))) ?_ (fun H5 acc s5 hd5 pr => ?_)
          · rintro i2 x H5 H6 N hi2 s5 ⟨rfl, hx⟩ kt kf
            obtain ⟨q, hq, rfl⟩ := intsV_get hx
            have hqm : q ∈ opn n (fit (rws L) e.1) := List.mem_of_getElem? hq
            have s15 := s14.trans s5
            refine ⟨rfl, ?_⟩
            refine ⟨_, rfl, _, rfl, _, rfl, _, rfl, _, rfl, d, e.2.1, r.1, E, L, n, e.1, r.2, p, q, rfl, Rs s15, Lk.mono (.of_same s15), hw, hn, hl, hst, ((Rs s15).en e hem).1, hLf s15 r hrm, by rw [← er]; exact mem_rws hrm, hpm, hqm, fun H7 s7 => ?_⟩
            rw [hq] at kt kf
            refine ⟨_, rfl, ?_⟩
            cases c : looseB n (fitL L e.1) r.2 p q with
            | true => exact ⟨_, rfl, kt c _ _ s7 trivial⟩
            | false => exact kf c _ s7
          · have la : ((List.range (opn n (fit (rws L) e.1)).length).filter fun i => ((opn n (fit (rws L) e.1))[i]?.map fun q => looseB n (fitL L e.1) r.2 p q).getD false).length = acc.length := Paired.length pr
            refine ⟨D1, _, rfl, .inl (SqL.of hd5), _, _, rfl, rfl, _, rfl, ?_⟩
            by_cases hz : acc.length = 0
            · have hz' : ¬ ((acc.length : Nat) : Int) > 0 := by omega
              rw [decide_eq_false hz']
              refine iteF ⟨s4.trans s5, ⟨_, rfl⟩, fun p' hp' q hq => ?_⟩
              rcases take_mem hp hp' with hp' | rfl
              · exact ok3 p' hp' q hq
              · rw [hz] at la
                have hno := List.filter_eq_nil_iff.mp (List.length_eq_zero_iff.mp la)
                obtain ⟨iq, hiq, eq⟩ := List.getElem_of_mem hq
                have := hno iq (List.mem_range.mpr hiq)
                rw [List.getElem?_eq_getElem hiq, eq] at this
                exact Bool.eq_false_iff.mpr this
            · have hz' : ((acc.length : Nat) : Int) > 0 := by omega
              rw [decide_eq_true hz']
              have hl0 : 0 < ((List.range (opn n (fit (rws L) e.1)).length).filter fun i => ((opn n (fit (rws L) e.1))[i]?.map fun q => looseB n (fitL L e.1) r.2 p q).getD false).length := by
                rw [la]
                omega
              obtain ⟨iq, hiq⟩ := List.exists_mem_of_length_pos hl0
              obtain ⟨h1, h2⟩ := List.mem_filter.mp hiq
              have hlt := List.mem_range.mp h1
              rw [List.getElem?_eq_getElem hlt] at h2
              obtain ⟨b1, b2, b3⟩ := (looseB_at (n := n)).mp h2
              rw [er] at b2 b3
              have hex : ∃ st row p q, Reached n (rws L) st ∧ LooseAt n (fit (rws L) st) row p q := ⟨e.1, r.2, p, _, hR, by rw [← er]; exact mem_rws hrm, hpm, List.getElem_mem hlt, b1, b2, b3⟩
              exact iteT ⟨(s14.trans s5) _ _ hk, qq true _ (exit (s14.trans s5)) ⟨fun _ => hex, fun _ => rfl⟩⟩
        · rintro σ H4 ⟨s4, ⟨x5, rfl⟩, ok3⟩
          rw [List.take_length] at ok3
          refine ⟨s4, ⟨_, _, rfl⟩, fun r' hr2 => ?_⟩
          rcases take_mem hr' hr2 with hr2 | rfl
          · exact ok2 r' hr2
          · exact ok3
      · rintro σ H3 ⟨s3, ⟨x4, x5, rfl⟩, ok2⟩
        rw [List.take_length] at ok2
        refine ⟨s12.trans s3, ⟨_, _, _, _, _, rfl⟩, fun e' he' => ?_⟩
        rcases take_mem he he' with he' | rfl
        · exact ok1 e' he'
        · exact ok2
    · rintro σ H1 ⟨s1, ⟨x1, x2, x3, x4, x5, rfl⟩, ok1⟩
      rw [List.length_map, List.take_length] at ok1
      refine ⟨s1 _ _ hk, ?_⟩
      refine qq false _ (exit s1) ⟨(fun z => nomatch z), ?_⟩
      rintro ⟨st, row, p, q, hR, l1, l2, l3, l4, l5, l6⟩
      obtain ⟨e, he, rfl⟩ := List.mem_map.mp ((hre st).mpr hR)
      rw [← rws_fit] at l1 l5 l6
      obtain ⟨r, hr', rfl⟩ := List.mem_map.mp l1
      have := ok1 e he r hr' p l2 q l3
      rw [looseB_at.mpr ⟨l4, l5, l6⟩] at this
      cases this
end
end K71
set_option Elab.async false
set_option linter.all false
set_option maxRecDepth 100000
set_option maxHeartbeats 4000000
namespace K71
open PySem PySem.W PySem.Spec PyProof.Rows L2
section
variable {P : Program} {w : World} {K : PySem.W.Frag} {mg : Str → Option Value} {base : Heap}
/-! ### l_refused -/
def spRefused (K : PySem.W.Frag) : Sp := fun vs H Q _ => ∃ (s : Addr) (sz : Row) (L : RL) (x : V), vs = [.ref s, x] ∧ SheetAt K H s sz L ∧
  ((∃ r row, x = .ref r ∧ H r = some (.tup (rowV row)) ∧ row ∈ rws L ∧ ∀ H', Same H H' → Q (.bl false) H') ∨ badRow K H sz L x ∧ ∀ H', Same H H' → Q (.bl true) H')
theorem k_l_refused {C : Addr} (T : BadR K mg C) (eP : PySem.W.exmOne K (.ref C) (.ref C) = some true) (D : Placed K mg "_law_refused" s_l_refused p_l_refused) (CC : Kept P w K mg base (L2.CX P w) 9 "counts" p_counts (spCounts K C)) :
    Kept P w K mg base CX0 10 "_law_refused" p_l_refused (spRefused K) := by
  obtain ⟨fC, fdC, GC, mC, kC, bC⟩ := CC
  refine D.keep fun f fd F => F.ok sc_l_refused (fun vs H Q E h => ?_) (fun cdv A outer s H vs Q E hr h => ?_)
  · obtain ⟨s, sz, L, x, rfl, _⟩ := h
    rfl
  · obtain ⟨sh, sz, L, x, rfl, S, way⟩ := h
    refine ⟨_, pss_cons (ps_set (i := 2) sc_l_refused.nd rfl (Or.inl rfl) pe_bl)
      (pss_cons (ps_try_only (tb := fun W => tDrop (tCallS (spCounts K C) (WE W) (tCons (tVar 0) (tCons (tVar 1) tNil)))) (ts := fun _ _ _ => tAsg (tC (.bl true)) (gName 2)) (Wout := fun _ _ _ _ => False) rfl rfl ⟨rfl, by decide, .inl T.g⟩ takes0
          (fun W pn xe tk _ => pss_one (ps_expr (pe_callS GC hr rfl mC kC bC (fun σ => passAt tk σ) (pa_cons (pv 0) (pa_cons (pv 1) pa_nil)))))
          (fun a oe cls d pn _ _ => pss_one (ps_set (i := 2) sc_l_refused.nd rfl (Or.inl rfl) pe_bl)))
      (pss_one (ps_ret (pv 2)))), ?_⟩
    refine ⟨_, rfl, _, rfl, sh, sz, L, x, rfl, S, ?_⟩
    rcases way with ⟨r, row, rfl, hr', hrow, q⟩ | ⟨bad, q⟩
    · exact .inl ⟨r, row, rfl, hr', hrow, fun v H' s1 _ => ⟨_, rfl, q _ s1⟩⟩
    · exact .inr ⟨bad, fun H' s1 => ⟨true, eP, fun _ a ha => ⟨_, rfl, q _ s1⟩, fun z => nomatch z⟩⟩
end
end K71
set_option Elab.async false
set_option linter.all false
set_option maxRecDepth 100000
set_option maxHeartbeats 4000000
namespace K71
open PySem PySem.W PySem.Spec PyProof.Rows L2
section
variable {P : Program} {w : World} {K : PySem.W.Frag} {mg : Str → Option Value} {base : Heap}
/-- [one for one, other in found] -/
theorem lc_twos {σ : L2.St} {H : Hp} {i j m z : Nat} {vs : List Nat} {fl : Addr} {FL : RL} {Q : VK} (g : Row → Int) (hi : σ[i]? = some (some (.ref fl))) (hw : ∀ x y, wipe (((wipe σ vs).set j (some x)).set m (some y)) vs = wipe σ vs)
    (hz : ∀ u v : Int, (((wipe σ vs).set j (some (.int u))).set m (some (.int v)))[z]? = some (some (.int (g [u, v])))) (hf : H fl = some (.lst (refs FL))) (hF : AllAt H FL) (hl : FL.length ≤ 1000) (two : ∀ q, q ∈ FL → ∃ u v : Int, q.2 = [u, v])
    (q : ∀ D H', Same H H' → H' D = some (.lst (((rws FL).map g).map V.int)) → Q (.ref D) H') : tLc (iList K (tVar i)) (gTup K 2 (gCons (gName j) (gCons (gName m) gNil))) tYes (tVar z) vs σ H Q := by
  refine ⟨_, hi, fl, rfl, ⟨_, SqL.of hf⟩, fun D hD => ?_⟩
  have wk := walk_list (K := K) (a := fl) (xs := refs FL)
  rw [refs_len] at wk
  refine lc_same wk (fun _ => true) (fun i y _ => y = V.int (((rws FL).map g).getD i 0)) (fun _ _ _ _ _ e => e) hD (by omega) (fun H' s => s.seq (SqL.of hf)) ?_ (fun H1 acc s1 hd pr => ?_)
  · rintro i x H1 H2 N hi s1 ⟨rfl, hx⟩ kt _
    obtain ⟨p, hp, rfl⟩ := refs_get hx
    have hpm : p ∈ FL := List.mem_of_getElem? hp
    obtain ⟨u, v, e⟩ := two p hpm
    have h2 := s1 _ _ (hF p hpm)
    rw [e] at h2
    refine gTwo h2 ⟨hw _ _, ?_⟩
    refine ⟨_, hz u v, kt rfl _ _ (Same.refl _) ?_⟩
    rw [List.getD_eq_getElem?_getD, List.getElem?_map]
    unfold rws
    rw [List.getElem?_map, hp]
    show V.int (g [u, v]) = V.int (g p.2)
    rw [e]
  · rw [filter_all] at pr
    have e := paired_map (v := fun i => V.int (((rws FL).map g).getD i 0)) pr
    have el : FL.length = ((rws FL).map g).length := by rw [List.length_map, rws_len]
    refine q D _ s1 ?_
    rw [hd, e, el, range_map ((rws FL).map g) 0 V.int]
/-! ### l_both_counts -/
def spBC (P : Program) (w : World) : Nat → Sp
  | 0 => fun _ _ _ _ => False
  | j + 1 => fun vs H Q _ => ∃ (d a rr : Addr) (L : RL) (n : Nat) (row : Row) (xs : List NE), vs = [.ref d, .ref a, .ref rr] ∧ H a = some (.tup (refs L)) ∧ AllAt H L ∧ Wid n (rws L) ∧ n ≤ 6 ∧ L.length ≤ 60 ∧ H rr = some (.tup (rowV row)) ∧ row ∈ rws L ∧
    (opn n (rws L)).length ≤ j ∧ MemoAt P w n row H d xs ∧ xs.length + cost (j + 1) < sizeLine ∧
    ∀ v xs' H', But d H H' → MemoAt P w n row H' d xs' → xs'.length ≤ xs.length + cost (j + 1) → H' v = some (.tup (rowV (cntRow n (rws L) row))) → Q (.ref v) H'
theorem k_l_both_counts (B : Bi mg) (D : Placed K mg "_law_both_counts" s_l_both_counts p_l_both_counts) (CD : Kept P w K mg base CX0 1 "_law_open" p_l_open (spOpen K)) (CB : Kept P w K mg base CX0 1 "_law_part" p_l_part (spPart K)) :
    ∀ j : Nat, Kept P w K mg base CX0 (1 + j) "_law_both_counts" p_l_both_counts (spBC P w j) := by
  obtain ⟨fD, fdD, GD, mD, kD, bD⟩ := CD
  obtain ⟨fB, fdB, GB, mB, kB, bB⟩ := CB
  intro j
  induction j with
  | zero => exact D.keep fun f fd F => F.ok sc_l_both_counts (fun vs H Q E h => h.elim) (fun cdv A outer s H vs Q E hr h => h.elim)
  | succ j ih =>
  obtain ⟨fC, fdC, GC, mC, kC, bC⟩ := ih
  refine D.keep fun f fd F => F.ok sc_l_both_counts (fun vs H Q E h => ?_) (fun cdv A outer s H vs Q E hr h => ?_)
  · obtain ⟨d, a, rr, L, n, row, xs, rfl, _⟩ := h
    rfl
  · obtain ⟨d, a, rr, L, n, row, xs, rfl, ha, hL, hw, hn, hl, hrr, hrow, hop, M, hsz, q⟩ := h
    have hr1 : Room 1 _ := hr.mono (Nat.le_add_right 1 j)
    refine ⟨_, pss_cons (ps_if (pt_cmp (pc_nnotin (P := P) (w := w) (room_n hr) (pv 1) (pv 0)))
        (pss_cons (ps_set (i := 3) sc_l_both_counts.nd rfl (Or.inl rfl) (pe_lst pa_nil))
        (pss_cons (ps_for PassesOwn.never rfl (pi_list (pe_call GD hr1 rfl mD kD bD .nil pass0 (pa_cons (pv 1) pa_nil))) (pg_name (i := 4) sc_l_both_counts.nd rfl (Or.inl rfl))
          (pss_one (ps_expr (pe_bm PySem.F.plainAttrs_list PySem.F.slot_list_append PySem.F.type_list_append mt_append (pv 3) (pa_cons
            (pe_call GC hr rfl mC kC bC .nil pass0 (pa_cons (pv 0) (pa_cons (pe_callTy callTup (by rfl) B.tuple PyProof.Rows.boot_tuple (pa_cons (pe_call GB hr1 rfl mB kB bB .nil pass0 (pa_cons (pv 1) (pa_cons (pv 4) (pa_cons (pe_ix ix_tup (pv 2) (pv 4) (fun _ _ => rfl)) pa_nil)))) pa_nil)) (pa_cons (pv 2) pa_nil)))) pa_nil)))))
        (pss_cons (ps_nput (P := P) (w := w) (room_n hr) (pv 0) (pv 1) (pe_tup (pa_cons pe_int (pa_cons pe_int pa_nil))) rfl)
        (pss_one (ps_if (pt_cmpR op_gt (pe_callB callLen (by rfl) B.len PySem.boot_len (pa_cons (pv 3) pa_nil)) pe_int (nomark _))
          (pss_one (ps_nput (P := P) (w := w) (room_n hr) (pv 0) (pv 1) (pe_tup (pa_cons (pe_add pe_int (pe_callB callMin (by rfl) B.min PyProof.Rows.boot_min (pa_cons
              (pe_lc (own := [("_law_least", 5), ("_law_most", 6)]) (by rfl) sc_l_both_counts.nd (pi_ls (K := K) (pv 3)) (blkOk_by (N := n_l_both_counts) (sc := defScope s_l_both_counts) (by decide +kernel)) (fun _ _ _ _ _ => pg_two (K := K) (pg_name (i := 5) sc_l_both_counts.nd rfl (Or.inl rfl)) (pg_name (i := 6) sc_l_both_counts.nd rfl (Or.inl rfl))) (fun _ _ _ _ _ => pts_nil)
                (fun _ _ _ _ _ => pv 5)) pa_nil)))
            (pa_cons (pe_add pe_int (pe_callB callMax (by rfl) B.max PyProof.Rows.boot_max (pa_cons
              (pe_lc (own := [("_law_least", 5), ("_law_most", 6)]) (by rfl) sc_l_both_counts.nd (pi_ls (K := K) (pv 3)) (blkOk_by (N := n_l_both_counts) (sc := defScope s_l_both_counts) (by decide +kernel)) (fun _ _ _ _ _ => pg_two (K := K) (pg_name (i := 5) sc_l_both_counts.nd rfl (Or.inl rfl)) (pg_name (i := 6) sc_l_both_counts.nd rfl (Or.inl rfl))) (fun _ _ _ _ _ => pts_nil)
                (fun _ _ _ _ _ => pv 6)) pa_nil))) pa_nil))) rfl))
          pss_nil))))) pss_nil)
      (pss_one (ps_ret (pe_nget (P := P) (w := w) (room_n hr) (pv 0) (pv 1) (fun _ _ => rfl)))), ?_⟩
    have hLne : L ≠ [] := fun z => by
      rw [z] at hrow
      cases hrow
    refine ⟨_, rfl, _, rfl, d, a, kRows (rws L), xs, rfl, rfl, M.nd, keyAt_rows ha hL, _, rfl, ?_⟩
    cases hv : valN xs (kRows (rws L)) with
    | some v =>
      obtain ⟨v1, rfl, hv1⟩ := M.hit hv
      refine iteF ?_
      refine ⟨_, rfl, _, rfl, d, a, kRows (rws L), xs, _, rfl, rfl, M.nd, keyAt_rows ha hL, hv, ?_⟩
      exact q v1 xs H (But.refl d H) M (by omega) hv1
    | none =>
      refine iteT ?_
      refine ⟨Nat.zero_le _, fun fl nfl => ?_⟩
      have s1 := same_new (o := .lst []) nfl
      refine ⟨_, rfl, a, L, n, rfl, .inr (SqT.of (s1 _ _ ha)), hL.mono (.of_same s1), hLne, hw, by omega, hl, fun pl H2 npl s2 epl => ?_⟩
      have npf : pl ≠ fl := fun z => by
        rw [z, upd_same] at npl
        cases npl
      have npd : pl ≠ d := fun z => by
        have := s1 _ _ M.ob
        rw [← z, npl] at this
        cases this
      refine ⟨pl, rfl, ⟨_, SqL.of epl⟩, ?_⟩
      have wp := walk_list (K := K) (a := pl) (xs := intsV (opn n (rws L)))
      have ilen : (intsV (opn n (rws L))).length = (opn n (rws L)).length := List.length_map _
      have hol := opn_len n (rws L)
      refine for_it wp (fun i σ H' => ∃ FL xs' x4, σ = [some (.ref d), some (.ref a), some (.ref rr), some (.ref fl), x4, none, none] ∧ But d H H' ∧ H' fl = some (.lst (refs FL)) ∧ AllAt H' FL ∧ rws FL = ((opn n (rws L)).take i).map (fun p => cntRow n (part (rws L) p row) row) ∧
          MemoAt P w n row H' d xs' ∧ xs'.length ≤ xs.length + i * cost j ∧ H' pl = some (.lst (intsV (opn n (rws L)))))
        ⟨[], xs, none, rfl, .of_same (s1.trans s2), s2 _ _ upd_same, (fun p hp => nomatch hp), rfl, M.same (s1.trans s2), by omega, epl⟩ (fun i σ H' _ p => by obtain ⟨_, _, _, _, _, _, _, _, _, _, q1⟩ := p; exact SqL.of q1) ?_ ?_
      · rintro i x σ _ H3 hi ⟨FL, xs', x4, rfl, b3, f3, F3, e3, M3, l3, p3⟩ ⟨rfl, hx⟩
        obtain ⟨p, hp, rfl⟩ := intsV_get hx
        have hpm : p ∈ opn n (rws L) := List.mem_of_getElem? hp
        have hpn : p < n := (mem_opn.mp hpm).1
        have hii : i < (opn n (rws L)).length := by omega
        have hpl := opn_part_lt (r := row) hpm
        obtain ⟨j', rfl⟩ : ∃ j', j = j' + 1 := ⟨j - 1, by omega⟩
        have tn : ∀ {c ys}, H c = some (.tup ys) → c ≠ d := fun e => ne_of e M.ob (fun z => by unfold DkO at z; cases z)
        have ha3 := b3 _ _ ha (tn ha)
        have hrr3 := b3 _ _ hrr (tn hrr)
        have hL3 : AllAt H3 L := fun p hp => b3 _ _ (hL p hp) (tn (hL p hp))
        refine ⟨_, rfl, .inl ⟨rfl, _, SqL.of f3⟩, _, rfl, ?_⟩
        refine ⟨_, rfl, _, rfl, _, rfl, _, rfl, rIxT_of hrr3 (rowV_at (by rw [hw row hrow]; exact hpn)) ⟨a, L, n, p, ans row p, rfl, .inr (SqT.of ha3), hL3, hw, hpn, by omega, fun l0 H3a nl0 s3a el0 => ?_⟩⟩
        refine ⟨l0, _, rfl, .inl ⟨SqL.of el0, fun tt ntt => ?_⟩⟩
        have s4 := s3a.trans (same_new (o := .tup (refs (partL L p (ans row p)))) ntt)
        have htt : (upd H3a tt (.tup (refs (partL L p (ans row p))))) tt = some (.tup (refs (partL L p (ans row p)))) := upd_same
        generalize (upd H3a tt (.tup (refs (partL L p (ans row p))))) = H4 at s4 htt ⊢
        have ep : rws (partL L p (ans row p)) = part (rws L) p row := rws_part L p (ans row p)
        have hcost : (i + 1) * cost (j' + 1) ≤ 6 * cost (j' + 1) := Nat.mul_le_mul_right _ (by omega)
        have hcs : cost (j' + 1 + 1) = 2 + 6 * cost (j' + 1) := rfl
        have hc1 : (i + 1) * cost (j' + 1) = i * cost (j' + 1) + cost (j' + 1) := by rw [Nat.add_mul, Nat.one_mul]
        refine ⟨_, rfl, d, tt, rr, partL L p (ans row p), n, row, xs', rfl, htt, (hL3.mono (.of_same s4)).sub (fun q hq => (List.mem_filter.mp hq).1), ?_, hn, Nat.le_trans (List.length_filter_le _ _) hl, s4 _ _ hrr3, ?_, ?_, M3.same s4, by omega, fun v xs4 H5 b5 M5 l5 e5 => ?_⟩
        · rw [ep]
          exact hw.sub fun r hr => part_sub hr
        · rw [ep]
          exact self_part hrow
        · rw [ep]
          omega
        rw [ep] at e5
        have nfd : fl ≠ d := fun z => by
          have z2 := M.ob
          rw [← z, nfl] at z2
          cases z2
        have f5 : H5 fl = some (.lst (refs FL)) := b5 _ _ (s4 _ _ f3) nfd
        have tn5 : ∀ {c ys}, H5 c = some (.tup ys) → c ≠ fl := fun e => ne_of e f5 (fun z => nomatch z)
        have tu : Tups H5 (upd H5 fl (.lst (refs FL ++ [.ref v]))) := .setL f5
        have fln : (refs FL).length < sizeLine := by
          rw [refs_len, ← rws_len, e3, List.length_map, List.length_take]
          exact Nat.lt_of_le_of_lt (show min i (opn n (rws L)).length ≤ 6 by omega) (by decide)
        refine ⟨fl, _, .ref v, rfl, rfl, f5, fln, FL ++ [(v, cntRow n (part (rws L) p row) row)], xs4, _, rfl, fun c u e nc => ?_, ?_, fun y hy => ?_, ?_, M5.mono tu ?_, by omega, ?_⟩
        · rw [upd_ne (ne_of_none e nfl)]
          exact b5 _ _ (s4 _ _ (b3 _ _ e nc)) nc
        · rw [upd_same, refs_snoc]
        · rcases List.mem_append.mp hy with hy | hy
          · exact tu _ _ (b5 _ _ (s4 _ _ (F3 y hy)) (ne_of (s4 _ _ (F3 y hy)) (s4 _ _ M3.ob) (fun z => by unfold DkO at z; cases z)))
          · rw [List.mem_singleton.mp hy]
            exact tu _ _ e5
        · rw [rws_snoc, e3, List.take_add_one, hp, List.map_append]
          rfl
        · rw [upd_ne nfd.symm]
          exact M5.ob
        · rw [upd_ne npf]
          exact b5 _ _ (s4 _ _ p3) npd
      · rintro σ H3 ⟨FL, xs', x4, rfl, b3, f3, F3, e3, M3, l3, p3⟩
        rw [ilen] at l3
        rw [ilen, List.take_length] at e3
        have tn : ∀ {c ys}, H c = some (.tup ys) → c ≠ d := fun e => ne_of e M.ob (fun z => by unfold DkO at z; cases z)
        have ha3 := b3 _ _ ha (tn ha)
        have hL3 : AllAt H3 L := fun p hp => b3 _ _ (hL p hp) (tn (hL p hp))
        have hcs : cost (j + 1) = 2 + 6 * cost j := rfl
        have hco : (opn n (rws L)).length * cost j ≤ 6 * cost j := Nat.mul_le_mul_right _ (by omega)
        refine ⟨by show 2 ≤ sizeLine; decide, fun z0 nz0 => ?_⟩
        have s4 := same_new (o := .tup [V.int 0, V.int 0]) nz0
        have M4 := M3.same s4
        refine ⟨_, rfl, _, rfl, d, a, kRows (rws L), xs', rfl, rfl, M4.ob, M4.keys, keyAt_rows (s4 _ _ ha3) (hL3.mono (.of_same s4)), by omega, ?_⟩
        have tu4 : Tups (upd H3 z0 (.tup [V.int 0, V.int 0])) (upd (upd H3 z0 (.tup [V.int 0, V.int 0])) d (DkO P w d (putN xs' (kRows (rws L)) a (.ref z0)))) := dk_tups M4.ob
        have X4 := entX_put (v := .ref z0) (M4.entX (kRows (rws L))) (s4 _ _ ha3) (hL3.mono (.of_same s4))
        have z04 : (upd H3 z0 (.tup [V.int 0, V.int 0])) z0 = some (.tup [V.int 0, V.int 0]) := upd_same
        have nfd : fl ≠ d := fun z => by
          have z2 := M.ob
          rw [← z, nfl] at z2
          cases z2
        have f4 : (upd (upd H3 z0 (.tup [V.int 0, V.int 0])) d (DkO P w d (putN xs' (kRows (rws L)) a (.ref z0)))) fl = some (.lst (refs FL)) := by
          rw [upd_ne nfd]
          exact s4 _ _ f3
        have F4 := (F3.mono (.of_same s4)).mono tu4
        have b4 : But d H (upd (upd H3 z0 (.tup [V.int 0, V.int 0])) d (DkO P w d (putN xs' (kRows (rws L)) a (.ref z0)))) := (b3.then s4).upd
        have d4 : (upd (upd H3 z0 (.tup [V.int 0, V.int 0])) d (DkO P w d (putN xs' (kRows (rws L)) a (.ref z0)))) d = some (DkO P w d (putN xs' (kRows (rws L)) a (.ref z0))) := upd_same
        have ha4 := tu4 _ _ (s4 _ _ ha3)
        have hL4 := (hL3.mono (.of_same s4)).mono tu4
        have z4 := tu4 _ _ z04
        have X4' := fun x hx => (X4 x hx).mono tu4
        have l4 := putN_len xs' (kRows (rws L)) a (.ref z0)
        have v4 := valN_put xs' (kRows (rws L)) a (.ref z0)
        have only4 : ∀ x, x ∈ putN xs' (kRows (rws L)) a (.ref z0) → x.1 = kRows (rws L) → x.2.2 = .ref z0 := fun x hx e => by
          rcases putN_mem hx with ⟨_, n⟩ | ⟨_, h, _⟩
          · exact absurd e n
          · exact h
        generalize putN xs' (kRows (rws L)) a (.ref z0) = ys at *
        generalize (upd (upd H3 z0 (.tup [V.int 0, V.int 0])) d (DkO P w d ys)) = H4 at *
        clear X4 tu4 M4 s4 z04 nz0
        refine ⟨_, rfl, fl, _, rfl, .inl (SqL.of f4), _, _, rfl, rfl, _, rfl, ?_⟩
        have s5 : Same H4 H4 := Same.refl _
        have lfl : (refs FL).length = (opn n (rws L)).length := by rw [refs_len, ← rws_len, e3, List.length_map]
        rw [lfl]
        by_cases hemp : opn n (rws L) = []
        · rw [hemp]
          refine iteF ?_
          have ec : cntRow n (rws L) row = [0, 0] := by
            unfold cntRow
            rw [cnt_nil hemp]
          have M5 : MemoAt P w n row H4 d ys := memo_of (fun x hx => (X4' x hx).mono (.of_same s5)) only4 (by rw [ec]; exact s5 _ _ z4) (s5 _ _ d4)
          exact ⟨_, rfl, _, rfl, d, a, kRows (rws L), ys, _, rfl, rfl, M5.nd, keyAt_rows (s5 _ _ ha4) (hL4.mono (.of_same s5)), v4, q z0 ys _ (b4.then s5) M5 (by omega) (by rw [ec]; exact s5 _ _ z4)⟩
        · have hpo : ((opn n (rws L)).length : Int) > 0 := by
            have : (opn n (rws L)).length ≠ 0 := fun z => hemp (List.length_eq_zero_iff.mp z)
            omega
          rw [decide_eq_true hpo]
          refine iteT ?_
          have f5 := s5 _ _ f4
          have F5 := F4.mono (.of_same s5)
          have M5d := s5 _ _ d4
          have fl5 : FL.length ≤ 1000 := by
            rw [← rws_len, e3, List.length_map]
            omega
          have two : ∀ q, q ∈ FL → ∃ u v : Int, q.2 = [u, v] := fun q hq => by
            have := mem_rws hq
            rw [e3] at this
            obtain ⟨p, _, e⟩ := List.mem_map.mp this
            exact ⟨_, _, e.symm⟩
          have hpos : ∀ g : Row → Int, 0 < ((rws FL).map g).length := fun g => by
            rw [List.length_map, e3, List.length_map]
            exact Nat.pos_of_ne_zero fun z => hemp (List.length_eq_zero_iff.mp z)
          have hne0 : ∀ g : Row → Int, (rws FL).map g ≠ [] := fun g z => by
            have := hpos g
            rw [z] at this
            cases this
          unfold sNPut tTup tCons tAdd t2I tCB tC
          refine lc_twos (K := K) (σ := [some (.ref d), some (.ref a), some (.ref rr), some (.ref fl), x4, none, none]) (vs := [5, 6]) (i := 3) (j := 5) (m := 6) (z := 5) (fun r => ans r 0) rfl (fun _ _ => rfl) (fun u v => rfl) f5 F5 fl5 two fun D1 H6 s6 e6 => ?_
          refine ⟨D1, _, rfl, SqL.of e6, hpos _, fun m hm hmin => ⟨1, m, rfl, rfl, ?_⟩⟩
          refine lc_twos (K := K) (σ := [some (.ref d), some (.ref a), some (.ref rr), some (.ref fl), x4, none, none]) (vs := [5, 6]) (i := 3) (j := 5) (m := 6) (z := 6) (fun r => ans r 1) rfl (fun _ _ => rfl) (fun u v => rfl) (s6 _ _ f5) (F5.mono (.of_same s6)) fl5 two fun D2 H7 s7 e7 => ?_
          refine ⟨D2, _, rfl, SqL.of e7, hpos _, fun m2 hm2 hmax => ⟨1, m2, rfl, rfl, ?_⟩⟩
          have em : m = minI ((rws FL).map fun r => ans r 0) := minI_eq hm hmin
          have em2 : m2 = maxI ((rws FL).map fun r => ans r 1) := maxI_eq hm2 hmax
          have ec : cntRow n (rws L) row = [1 + m, 1 + m2] := by
            unfold cntRow
            rw [cnt_cons hemp, em, em2, e3, List.map_map, List.map_map]
            rfl
          refine ⟨by show 2 ≤ sizeLine; decide, fun z1 nz1 => ?_⟩
          have s8 := same_new (o := .tup [V.int (1 + m), V.int (1 + m2)]) nz1
          have s58 := s5.trans (s6.trans (s7.trans s8))
          have e8 : (upd H7 z1 (.tup [V.int (1 + m), V.int (1 + m2)])) z1 = some (.tup (rowV (cntRow n (rws L) row))) := by
            rw [upd_same, ec]
            rfl
          generalize (upd H7 z1 (.tup [V.int (1 + m), V.int (1 + m2)])) = H8 at s58 e8 ⊢
          have X8 := fun x hx => (X4' x hx).mono (.of_same s58)
          refine ⟨_, rfl, _, rfl, d, a, kRows (rws L), ys, rfl, rfl, s58 _ _ d4, keysX X8, keyAt_rows (s58 _ _ ha4) (hL4.mono (.of_same s58)), by omega, ?_⟩
          have tu8 : Tups H8 (upd H8 d (DkO P w d (putN ys (kRows (rws L)) a (.ref z1)))) := dk_tups (s58 _ _ d4)
          have M9 := memo_put X8 (s58 _ _ ha4) (hL4.mono (.of_same s58)) e8 tu8 (P := P) (w := w) (d := d) upd_same
          have l9 : (putN ys (kRows (rws L)) a (.ref z1)).length = ys.length := by
            unfold putN
            rw [v4]
            exact List.length_map _
          exact ⟨_, rfl, _, rfl, d, a, kRows (rws L), _, _, rfl, rfl, M9.nd, keyAt_rows (tu8 _ _ (s58 _ _ ha4)) ((hL4.mono (.of_same s58)).mono tu8), valN_put _ _ _ _, q z1 _ _ ((b4.then s58).upd) M9 (by omega) (tu8 _ _ e8)⟩
end
end K71
set_option Elab.async false
set_option linter.all false
set_option maxRecDepth 100000
set_option maxHeartbeats 4000000
namespace K71
open PySem PySem.W PySem.Spec PyProof.Rows L2
theorem HandAt.upd {H : Hp} {h c D : Addr} {o : HO} (a : HandAt H h c) (n1 : h ≠ D) (n2 : c ≠ D) : HandAt (upd H D o) h c := by
  obtain ⟨cells, i, j, q, k, h1, h2, h3⟩ := a
  exact ⟨cells, i, j, q, k, by rw [upd_ne n1]; exact h1, by rw [upd_ne n2]; exact h2, h3⟩
/-- [draw(hand, m) for ..] -/
theorem lc_draw {J : It} {n : Nat} {G : Hp → Prop} {Y : Nat → Hp → V → Hp → Prop} (wk : Walk J n G Y) {tm : TE} {vs : List Nat} {i j : Nat} {σ : L2.St} {H : Hp} {D h c : Addr} {Qd : Hp → Prop} (m : Nat → Int) (hD : H D = none) (hn : n ≤ 1000) (hA : HandAt H h c) (hG : ∀ H', But h H H' → G H')
    (hw : ∀ x, wipe ((wipe σ vs).set j (some x)) vs = wipe σ vs) (hi : ∀ x, ((wipe σ vs).set j (some x))[i]? = some (some (.ref h)))
    (hY : ∀ i x H1 H2, i < n → But h H H1 → Y i H1 x H2 → H2 = H1 ∧ ∀ R : VK, R (.int (m i)) H2 → tm ((wipe σ vs).set j (some x)) H2 R) (hm : ∀ i, i < n → 0 < m i ∧ m i < 1073741824)
    (done : ∀ H' (r : Row), But h H H' → HandAt H' h c → H' D = some (.lst (rowV r)) → r.length = n → (∀ k, k < n → 0 ≤ ans r k ∧ ans r k < m k) → Qd H') :
    ∃ W : Nat → Nat → Hp → Prop, (∃ m, W 0 m (upd H D (.lst []))) ∧ ∀ k m H, W k m H →
      (J.stop k H ∧ Qd H) ∨ (J.go k H ∧ ∃ Nx : Hp → Prop, (∀ H', Nx H' → ∃ m', m' < m ∧ W (k + 1) m' H') ∧ ∀ x H', J.yld k H x H' → gName j x (wipe σ vs) H' fun σ2 H2 => wipe σ2 vs = wipe σ vs ∧ tYes σ2 H2 fun b H3 =>
        if b = true then tCall spDraw [] E0 (tCons (tVar i) (tCons tm tNil)) σ2 H3 fun y H4 => ∃ acc, H4 D = some (.lst acc) ∧ acc.length < sizeLine ∧ Nx (upd H4 D (.lst (acc ++ [y]))) else Nx H3) := by
  obtain ⟨⟨xh, eh⟩, ⟨xc, ec⟩⟩ := hA.some
  have nh : h ≠ D := ne_of_none eh hD
  have nc : c ≠ D := ne_of_none ec hD
  refine lc_it wk (fun k H' => But h H H' ∧ HandAt H' h c ∧ ∃ r : Row, H' D = some (.lst (rowV r)) ∧ r.length = k ∧ ∀ q, q < k → 0 ≤ ans r q ∧ ans r q < m q) ⟨.of_same (same_new hD), hA.upd nh nc, [], upd_same, rfl, fun q hq => absurd hq (Nat.not_lt_zero q)⟩ (fun k H' _ p => hG H' p.1) ?_ (fun H' p => ?_)
  · rintro k x H1 H2 hk ⟨b1, a1, r, hr, lr, br⟩ hy
    obtain ⟨rfl, tmo⟩ := hY k x H1 H2 hk b1 hy
    obtain ⟨m0, m1⟩ := hm k hk
    refine ⟨hw x, ?_⟩
    show tCall spDraw [] E0 (tCons (tVar i) (tCons tm tNil)) _ H2 _
    refine ⟨_, hi x, tmo _ ⟨h, c, m k, rfl, a1, m0, m1, fun d H4 d0 d1 b4 a4 => ?_⟩⟩
    have h4 : H4 D = some (.lst (rowV r)) := b4 _ _ hr nh.symm
    refine ⟨rowV r, h4, by rw [rowV_len, lr]; exact Nat.lt_of_le_of_lt (Nat.le_trans (Nat.le_of_lt hk) hn) (by decide), ?_⟩
    refine ⟨fun b o e nb => ?_, a4.upd nh nc, r ++ [d], by rw [upd_same, rowV_snoc], by rw [List.length_append, lr]; rfl, fun q hq => ?_⟩
    · rw [upd_ne (ne_of_none e hD)]
      exact b4 _ _ (b1 _ _ e nb) nb
    · by_cases c : q < k
      · have e1 : ans (r ++ [d]) q = ans r q := by
          unfold ans
          rw [List.getD_eq_getElem?_getD, List.getD_eq_getElem?_getD, List.getElem?_append_left (by omega)]
        rw [e1]
        exact br q c
      · have e : q = k := by omega
        have e1 : ans (r ++ [d]) q = d := by
          unfold ans
          rw [List.getD_eq_getElem?_getD, List.getElem?_append_right (by omega), e, lr, Nat.sub_self]
          rfl
        rw [e1, e]
        exact ⟨d0, d1⟩
  · obtain ⟨b1, a1, r, hr, lr, br⟩ := p
    exact done H' r b1 a1 hr lr br
/-- [a drawn thing for ..] -/
theorem lc_drawG {J : It} {n : Nat} {G : Hp → Prop} {Y : Nat → Hp → V → Hp → Prop} (wk : Walk J n G Y) {te : TE} {vs : List Nat} {j : Nat} {σ : L2.St} {H : Hp} {D h c : Addr} {Qd : Hp → Prop} (lo up : Nat → Int) (hD : H D = none) (hn : n ≤ 1000) (hA : HandAt H h c) (hG : ∀ H', But h H H' → G H')
    (hw : ∀ x, wipe ((wipe σ vs).set j (some x)) vs = wipe σ vs) 
    (hte : ∀ i x H1 H2 (R : VK), i < n → But h H H1 → HandAt H1 h c → Y i H1 x H2 → (∀ v H4, lo i ≤ v → v < up i → But h H1 H4 → HandAt H4 h c → R (.int v) H4) → te ((wipe σ vs).set j (some x)) H2 R)
    (done : ∀ H' (r : Row), But h H H' → HandAt H' h c → H' D = some (.lst (rowV r)) → r.length = n → (∀ k, k < n → lo k ≤ ans r k ∧ ans r k < up k) → Qd H') :
    ∃ W : Nat → Nat → Hp → Prop, (∃ m, W 0 m (upd H D (.lst []))) ∧ ∀ k m H, W k m H →
      (J.stop k H ∧ Qd H) ∨ (J.go k H ∧ ∃ Nx : Hp → Prop, (∀ H', Nx H' → ∃ m', m' < m ∧ W (k + 1) m' H') ∧ ∀ x H', J.yld k H x H' → gName j x (wipe σ vs) H' fun σ2 H2 => wipe σ2 vs = wipe σ vs ∧ tYes σ2 H2 fun b H3 =>
        if b = true then te σ2 H3 fun y H4 => ∃ acc, H4 D = some (.lst acc) ∧ acc.length < sizeLine ∧ Nx (upd H4 D (.lst (acc ++ [y]))) else Nx H3) := by
  obtain ⟨⟨xh, eh⟩, ⟨xc, ec⟩⟩ := hA.some
  have nh : h ≠ D := ne_of_none eh hD
  have nc : c ≠ D := ne_of_none ec hD
  refine lc_it wk (fun k H' => But h H H' ∧ HandAt H' h c ∧ ∃ r : Row, H' D = some (.lst (rowV r)) ∧ r.length = k ∧ ∀ q, q < k → lo q ≤ ans r q ∧ ans r q < up q) ⟨.of_same (same_new hD), hA.upd nh nc, [], upd_same, rfl, fun q hq => absurd hq (Nat.not_lt_zero q)⟩ (fun k H' _ p => hG H' p.1) ?_ (fun H' p => ?_)
  · rintro k x H1 H2 hk ⟨b1, a1, r, hr, lr, br⟩ hy
    refine ⟨hw x, ?_⟩
    show te _ H2 _
    refine hte k x H1 H2 _ hk b1 a1 hy fun d H4 d0 d1 b4 a4 => ?_
    have h4 : H4 D = some (.lst (rowV r)) := b4 _ _ hr nh.symm
    refine ⟨rowV r, h4, by rw [rowV_len, lr]; exact Nat.lt_of_le_of_lt (Nat.le_trans (Nat.le_of_lt hk) hn) (by decide), ?_⟩
    refine ⟨fun b o e nb => ?_, a4.upd nh nc, r ++ [d], by rw [upd_same, rowV_snoc], by rw [List.length_append, lr]; rfl, fun q hq => ?_⟩
    · rw [upd_ne (ne_of_none e hD)]
      exact b4 _ _ (b1 _ _ e nb) nb
    · by_cases c : q < k
      · have e1 : ans (r ++ [d]) q = ans r q := by
          unfold ans
          rw [List.getD_eq_getElem?_getD, List.getD_eq_getElem?_getD, List.getElem?_append_left (by omega)]
        rw [e1]
        exact br q c
      · have e : q = k := by omega
        have e1 : ans (r ++ [d]) q = d := by
          unfold ans
          rw [List.getD_eq_getElem?_getD, List.getElem?_append_right (by omega), e, lr, Nat.sub_self]
          rfl
        rw [e1, e]
        exact ⟨d0, d1⟩
  · obtain ⟨b1, a1, r, hr, lr, br⟩ := p
    exact done H' r b1 a1 hr lr br
end K71
set_option Elab.async false
set_option linter.all false
set_option maxRecDepth 100000
set_option maxHeartbeats 4000000
namespace K71
open PySem PySem.W PySem.Spec PyProof.Rows L2
theorem rows_ofP {H : Hp} {Pr : Row → Prop} : ∀ {l : List Nat} {acc : List V}, Paired (fun _ y => ∃ g, Pr g ∧ isRow g y H) l acc → ∃ M : RL, acc = refs M ∧ M.length = l.length ∧ AllAt H M ∧ ∀ r, r ∈ rws M → Pr r
  | _, _, .nil => ⟨[], rfl, rfl, (fun p hp => nomatch hp), fun r hr => nomatch hr⟩
  | i :: l, _, .cons r t => by
    obtain ⟨g, hg, a, rfl, ha⟩ := r
    obtain ⟨M, rfl, h2, h3, h4⟩ := rows_ofP t
    refine ⟨(a, g) :: M, rfl, by rw [List.length_cons, List.length_cons, h2], fun p hp => ?_, fun r hr => ?_⟩
    · rcases List.mem_cons.mp hp with e | hp
      · rw [e]; exact ha
      · exact h3 p hp
    · rcases List.mem_cons.mp hr with e | hr
      · rw [e]; exact hg
      · exact h4 r hr
/-- of n answers below m -/
def GoodR (n : Nat) (m : Int) (r : Row) : Prop := r.length = n ∧ ∀ i, i < n → 0 ≤ ans r i ∧ ans r i < m
section
variable {X : Cx} {K : PySem.W.Frag}
theorem opMod : OpR X (binaryOp .Mod) (rI (fun _ j => 0 < j) fun i j => .int (i % j)) := op_mod
end
section
variable {P : Program} {w : World} {K : PySem.W.Frag} {mg : Str → Option Value} {base : Heap}
/-! ### l_span -/
def spSpan : Sp := fun vs H Q _ => ∃ (h c : Addr) (n b : Nat), vs = [.ref h, .int n, .int b] ∧ HandAt H h c ∧ n ≤ 6 ∧ 2 ≤ b ∧ b ≤ 4 ∧
  ∀ l (L : RL) H', H l = none → But h H H' → HandAt H' h c → H' l = some (.lst (refs L)) → AllAt H' L → L ≠ [] → L.length ≤ 16 → (∀ r, r ∈ rws L → GoodR n b r) → Q (.ref l) H'
theorem k_l_span (B : Bi mg) (D : Placed K mg "_law_span" s_l_span p_l_span) (CD : Kept P w K mg base CX0 1 "_law_draw" p_l_draw spDraw) (CS : Kept P w K mg base CX0 1 "_law_step" p_l_step (spStep K)) : Kept P w K mg base CX0 2 "_law_span" p_l_span spSpan := by
  obtain ⟨fD, fdD, GD, mD, kD, bD⟩ := CD
  obtain ⟨fS, fdS, GS, mS, kS, bS⟩ := CS
  refine D.keep fun f fd F => F.ok sc_l_span (fun vs H Q E h => ?_) (fun cdv A outer s H vs Q E hr h => ?_)
  · obtain ⟨h, c, n, b, rfl, _⟩ := h
    rfl
  · obtain ⟨hh, c, n, b, rfl, hA, hn, hb2, hb4, q⟩ := h
    refine ⟨_, pss_cons (ps_set (i := 3) sc_l_span.nd rfl (Or.inl rfl) (pe_lst (pa_cons (pe_callTy callTup (by rfl) B.tuple PyProof.Rows.boot_tuple (pa_cons
        (pe_lc (own := [("_law_k", 8)]) (g := gName 8) (by rfl) sc_l_span.nd (pi_range1 (by rfl) B.range (pa_cons (pv 1) pa_nil)) (blkOk_by (N := n_l_span) (sc := defScope s_l_span) (by decide +kernel)) (fun _ _ _ _ _ => pg_name (i := 8) sc_l_span.nd rfl (Or.inl rfl)) (fun _ _ _ _ _ => pts_nil)
          (fun _ _ _ _ _ => pe_call GD hr rfl mD kD bD .nil pass0 (pa_cons (pv 0) (pa_cons (pv 2) pa_nil)))) pa_nil)) pa_nil)))
      (pss_cons (ps_for PassesOwn.never rfl (pi_range1 (by rfl) B.range (pa_cons (pe_call GD hr rfl mD kD bD .nil pass0 (pa_cons (pv 0) (pa_cons (pe_add pe_int (pe_callTy call_int1 (by rfl) B.int PyProof.Rows.boot_int (pa_cons (pe_cmpR op_eq (pv 2) pe_int (nomark _)) pa_nil))) pa_nil))) pa_nil)) (pg_name (i := 4) sc_l_span.nd rfl (Or.inl rfl))
        (pss_cons (ps_set (i := 5) sc_l_span.nd rfl (Or.inr rfl) (pe_callTy callTup (by rfl) B.tuple PyProof.Rows.boot_tuple (pa_cons
          (pe_lc (own := [("_law_k", 8)]) (g := gName 8) (by rfl) sc_l_span.nd (pi_range1 (by rfl) B.range (pa_cons (pv 1) pa_nil)) (blkOk_by (N := n_l_span) (sc := defScope s_l_span) (by decide +kernel)) (fun _ _ _ _ _ => pg_name (i := 8) sc_l_span.nd rfl (Or.inl rfl)) (fun _ _ _ _ _ => pts_nil)
            (fun _ _ _ _ _ => pe_call GD hr rfl mD kD bD .nil pass0 (pa_cons (pv 0) (pa_cons (pv 2) pa_nil)))) pa_nil)))
        (pss_cons (ps_set (i := 6) sc_l_span.nd rfl (Or.inl rfl) (pv 3))
        (pss_one (ps_for PassesOwn.never rfl (pi_range1 (by rfl) B.range (pa_cons (pe_sub (pv 2) pe_int) pa_nil)) (pg_name (i := 7) sc_l_span.nd rfl (Or.inl rfl))
          (pss_cons (ps_setLc (i := 6) (own := [("_law_row", 9)]) (g := gName 9) (by rfl) sc_l_span.nd rfl rfl (sw_true rfl rfl rfl (by decide +kernel)) (pi_ls (K := K) (pv 6)) (blkOk_by (N := n_l_span) (sc := defScope s_l_span) (by decide +kernel)) (fun _ _ _ _ _ => pg_name (i := 9) sc_l_span.nd rfl (Or.inl rfl)) (fun _ _ _ _ _ => pts_nil)
            (fun _ _ _ _ _ => pe_call GS hr rfl mS kS bS .nil pass0 (pa_cons (pv 9) (pa_cons (pv 5) (pa_cons (pv 2) pa_nil)))))
          (pss_one (ps_set (i := 3) sc_l_span.nd rfl (Or.inl rfl) (pe_op op_cat (pv 3) (pv 6))))))))))
      (pss_one (ps_ret (pv 3)))), ?_⟩
    obtain ⟨⟨xh, eh⟩, _⟩ := hA.some
    have tupB : ∀ {H1 H2 : Hp} {M : RL}, But hh H1 H2 → HandAt H1 hh c → AllAt H1 M → AllAt H2 M := fun b a m p hp => b _ _ (m p hp) (by
      obtain ⟨⟨ys, ey⟩, _⟩ := a.some
      exact ne_of (m p hp) ey (fun z => nomatch z))
    -- one drawn row
    refine ⟨_, rfl, (n : Int), rfl, by omega, by omega, fun D hD => ?_⟩
    refine lc_draw (n := n) walk_range0 (tm := tVar 2) (i := 0) (j := 8) (fun _ => (b : Int)) hD (by omega) hA (fun _ _ => trivial) (fun _ => rfl) (fun _ => rfl) (fun i x H1 H2 hi b1 y => ⟨y.1, fun R r => ⟨_, rfl, r⟩⟩) (fun i hi => ⟨by omega, by omega⟩) (fun H1 r b1 a1 e1 l1 g1 => ?_)
    refine ⟨D, _, rfl, .inl ⟨SqL.of e1, fun u nu => ⟨by show 1 ≤ sizeLine; decide, fun fa nfa => ?_⟩⟩⟩
    have s2 := same_new (o := .tup (rowV r)) nu
    have s3 := same_new (o := .lst [V.ref u]) nfa
    have nhD : ∀ {z : Addr}, H z = none → hh ≠ z := fun e => ne_of_none eh e
    have fresh1 : ∀ {z : Addr}, H1 z = none → H z = none := fun {z} e => by
      cases q : H z with
      | none => rfl
      | some o =>
        by_cases zz : z = hh
        · obtain ⟨⟨ys, ey⟩, _⟩ := a1.some
          rw [zz, ey] at e
          cases e
        · rw [b1 _ _ q zz] at e
          cases e
    have hfa : H fa = none := fresh1 (s2.free nfa)
    have bb : But hh H (upd (upd H1 u (.tup (rowV r))) fa (.lst [V.ref u])) := (b1.then s2).then s3
    have aa := (a1.same s2).same s3
    have eu : (upd (upd H1 u (.tup (rowV r))) fa (.lst [V.ref u])) u = some (.tup (rowV r)) := s3 _ _ upd_same
    have ef : (upd (upd H1 u (.tup (rowV r))) fa (.lst [V.ref u])) fa = some (.lst (refs [(u, r)])) := upd_same
    generalize (upd (upd H1 u (.tup (rowV r))) fa (.lst [V.ref u])) = H2 at bb aa eu ef ⊢
    obtain ⟨kk, ekk, hk0, hk1⟩ : ∃ kk : Int, kk = (if decide (V.int (b : Int) = V.int 2) = true then (1 : Int) else 0) ∧ 0 ≤ kk ∧ (kk = 0 ∨ kk = 1 ∧ b = 2) := by
      by_cases z : b = 2
      · refine ⟨1, ?_, by decide, .inr ⟨rfl, z⟩⟩
        rw [z]
        rfl
      · refine ⟨0, ?_, by decide, .inl rfl⟩
        rw [decide_eq_false (fun y => z (by injection y with y; omega))]
        rfl
    refine ⟨_, rfl, _, rfl, rfl, .inr ⟨_, rfl, 3, _, rfl, rfl, hh, c, 3 + kk, by rw [ekk]; rfl, aa, by omega, by omega, fun t H3 t0 t1 b3 a3 => ⟨t, rfl, by omega, by omega, ?_⟩⟩⟩
    have bpow : ∀ i, i ≤ t.toNat → b ^ i ≤ 16 := fun i hi => by
      have h1 : b ^ i ≤ b ^ t.toNat := Nat.pow_le_pow_right (by omega) hi
      refine Nat.le_trans h1 ?_
      rcases hk1 with hk1 | ⟨hk1, e2⟩
      · have h2 : b ^ t.toNat ≤ b ^ 2 := Nat.pow_le_pow_right (by omega) (by omega)
        have h3 : b ^ 2 ≤ 4 ^ 2 := Nat.pow_le_pow_left hb4 2
        exact Nat.le_trans h2 h3
      · rw [e2]
        have h2 : 2 ^ t.toNat ≤ 2 ^ 3 := Nat.pow_le_pow_right (by omega) (by omega)
        exact Nat.le_trans h2 (by decide)
    refine for_it (n := t.toNat) walk_range0 (fun k σ H' => ∃ fa FL x4 x5 x6 x7, σ = [some (.ref hh), some (.int n), some (.int b), some (.ref fa), x4, x5, x6, x7, none, none] ∧ But hh H H' ∧ HandAt H' hh c ∧ H fa = none ∧ H' fa = some (.lst (refs FL)) ∧ AllAt H' FL ∧ (∀ r, r ∈ rws FL → GoodR n b r) ∧ FL.length = b ^ k)
      ⟨fa, [(u, r)], none, none, none, none, rfl, bb.trans b3, a3, hfa, b3 _ _ ef (nhD hfa).symm, tupB b3 aa (fun p hp => by rw [List.mem_singleton.mp hp]; exact eu), (fun r' hr' => by rw [List.mem_singleton.mp hr']; exact ⟨l1, g1⟩), rfl⟩ (fun _ _ _ _ _ => trivial) ?_ ?_
    · rintro k x σ _ H4 hk ⟨fa, FL, x4, x5, x6, x7, rfl, b4, a4, nfa4, f4, F4, G4, len4⟩ ⟨rfl, rfl⟩
      refine ⟨_, rfl, (n : Int), rfl, by omega, by omega, fun D hD => ?_⟩
      refine lc_draw (n := n) walk_range0 (tm := tVar 2) (i := 0) (j := 8) (fun _ => (b : Int)) hD (by omega) a4 (fun _ _ => trivial) (fun _ => rfl) (fun _ => rfl) (fun i x H1 H2 hi b1 y => ⟨y.1, fun R r => ⟨_, rfl, r⟩⟩) (fun i hi => ⟨by omega, by omega⟩) (fun H5 sr b5 a5 e5 l5 g5 => ?_)
      refine ⟨D, _, rfl, .inl ⟨SqL.of e5, fun st nst => ?_⟩⟩
      have s6 := same_new (o := .tup (rowV sr)) nst
      have bfa := (nhD nfa4).symm
      have b6 : But hh H (upd H5 st (.tup (rowV sr))) := (b4.trans b5).then s6
      have a6 := a5.same s6
      have f6 := s6 _ _ (b5 _ _ f4 bfa)
      have F6 := (tupB b5 a4 F4).mono (.of_same s6)
      have st6 : (upd H5 st (.tup (rowV sr))) st = some (.tup (rowV sr)) := upd_same
      generalize (upd H5 st (.tup (rowV sr))) = H6 at b6 a6 f6 F6 st6 ⊢
      refine ⟨_, rfl, ?_⟩
      refine ⟨_, rfl, (b : Int), 1, rfl, rfl, _, rfl, by omega, by omega, ?_⟩
      rw [show ((b : Int) - 1).toNat = b - 1 by omega]
      refine for_it (n := b - 1) walk_range0 (fun v σ H' => ∃ fa FL ma ML x7, σ = [some (.ref hh), some (.int n), some (.int b), some (.ref fa), some (.int k), some (.ref st), some (.ref ma), x7, none, none] ∧ But hh H H' ∧ HandAt H' hh c ∧ H fa = none ∧ H' fa = some (.lst (refs FL)) ∧ AllAt H' FL ∧ (∀ r, r ∈ rws FL → GoodR n b r) ∧
          H' ma = some (.lst (refs ML)) ∧ AllAt H' ML ∧ (∀ r, r ∈ rws ML → GoodR n b r) ∧ H' st = some (.tup (rowV sr)) ∧ ML.length = b ^ k ∧ FL.length = b ^ k * (1 + v))
        ⟨fa, FL, fa, FL, x7, rfl, b6, a6, nfa4, f6, F6, G4, f6, F6, G4, st6, len4, by rw [len4]; omega⟩ (fun _ _ _ _ _ => trivial) ?_ ?_
      · rintro v x σ _ H7 hv ⟨fa, FL, ma, ML, x7, rfl, b7, a7, nfa7, f7, F7, G7, m7, M7, N7, st7, lM, lF⟩ ⟨rfl, rfl⟩
        have hb16 := bpow (k + 1) (by omega)
        rw [Nat.pow_succ] at hb16
        have hbk := bpow k (by omega)
        refine ⟨_, rfl, ma, rfl, ⟨_, SqL.of m7⟩, fun D hD => ?_⟩
        have wl := walk_list (K := K) (a := ma) (xs := refs ML)
        rw [refs_len] at wl
        refine lc_same wl (fun _ => true) (fun _ y H' => ∃ g, GoodR n b g ∧ isRow g y H') (fun _ _ _ _ t e => let ⟨g, h1, h2⟩ := e; ⟨g, h1, h2.mono t⟩) hD (by omega) (fun H' s => SqL.of (s _ _ m7)) ?_ (fun H8 acc s8 hd pr => ?_)
        · rintro i x H8 H9 N hi s8 ⟨rfl, hx⟩ kt _
          obtain ⟨q', hq', rfl⟩ := refs_get hx
          have hqm : q' ∈ ML := List.mem_of_getElem? hq'
          refine ⟨rfl, ?_⟩
          exact ⟨_, rfl, _, rfl, _, rfl, q'.1, st, q'.2, sr, n, (b : Int), rfl, s8 _ _ (M7 q' hqm), s8 _ _ st7, (N7 q'.2 (mem_rws hqm)).1, l5, by omega, by omega, fun p r' H10 np s10 e10 l10 g10 => kt rfl _ _ s10 ⟨r', ⟨l10, g10⟩, p, rfl, e10⟩⟩
        · rw [filter_all] at pr
          obtain ⟨NL, rfl, lN, aN, gN⟩ := rows_ofP pr
          rw [List.length_range] at lN
          have hlen : FL.length + NL.length ≤ 100 := by
            rw [lF, lN, lM]
            have : b ^ k * (1 + v) ≤ b ^ k * b := Nat.mul_le_mul_left _ (by omega)
            omega
          refine ⟨_, rfl, _, rfl, fa, D, _, _, rfl, rfl, s8 _ _ f7, hd, by rw [refs_len, refs_len]; exact Nat.le_trans hlen (by decide), fun z nz => ?_⟩
          have s9 := same_new (o := .lst (refs FL ++ refs NL)) nz
          have s89 := s8.trans s9
          refine ⟨z, FL ++ NL, D, NL, _, rfl, b7.then s89, a7.same s89, ?_, by rw [upd_same, refs_app], fun p hp => ?_, fun r' hr' => ?_, s9 _ _ hd, aN.mono (.of_same s9), gN, s89 _ _ st7, by omega, ?_⟩
          · cases q : H z with
            | none => rfl
            | some o =>
              by_cases zz : z = hh
              · obtain ⟨⟨ys, ey⟩, _⟩ := (a7.same s8).some
                rw [zz, ey] at nz
                cases nz
              · rw [s8 _ _ (b7 _ _ q zz)] at nz
                cases nz
          · rcases List.mem_append.mp hp with hp | hp
            · exact s89 _ _ (F7 p hp)
            · exact s9 _ _ (aN p hp)
          · rw [rws_app] at hr'
            rcases List.mem_append.mp hr' with hr' | hr'
            · exact G7 r' hr'
            · exact gN r' hr'
          · rw [List.length_append, lF, lN, lM, ← Nat.mul_succ]
            congr 1
      · rintro σ H7 ⟨fa, FL, ma, ML, x7, rfl, b7, a7, nfa7, f7, F7, G7, m7, M7, N7, st7, lM, lF⟩
        refine ⟨fa, FL, _, _, _, _, rfl, b7, a7, nfa7, f7, F7, G7, ?_⟩
        rw [lF, Nat.pow_succ]
        congr 1
        omega
    · rintro σ H4 ⟨fa, FL, x4, x5, x6, x7, rfl, b4, a4, nfa4, f4, F4, G4, len4⟩
      have h16 := bpow _ (Nat.le_refl t.toNat)
      refine ⟨_, rfl, q fa FL _ nfa4 b4 a4 f4 F4 (fun z => ?_) (by omega) G4⟩
      rw [z] at len4
      have : 1 ≤ b ^ t.toNat := Nat.le_trans Nat.one_le_two_pow (Nat.pow_le_pow_left hb2 _)
      rw [← len4] at this
      exact absurd this (by decide)
end
end K71
set_option Elab.async false
set_option linter.all false
set_option maxRecDepth 100000
set_option maxHeartbeats 4000000
namespace K71
open PySem PySem.W PySem.Spec PyProof.Rows L2
section
variable {X : Cx} {K : PySem.W.Frag}
theorem opRep (h : X.K = K := by rfl) : OpR X (binaryOp .Mult) (rRepA K) := h ▸ op_repA
theorem opNeD (hu : X.A.units + 64 < cLine) (h : X.K = K := by rfl) : OpR X (compareOp .NotEq) (rNeD K) := h ▸ op_neD hu
end
def marks (n k : Nat) : Row := List.replicate k 0 ++ List.replicate (n - k) 1
theorem marks_len {n k : Nat} (h : k ≤ n) : (marks n k).length = n := by
  unfold marks
  rw [List.length_append, List.length_replicate, List.length_replicate]
  omega
theorem marks_in {n k i : Nat} (h : k ≤ n) (hi : i < n) : 0 ≤ ans (marks n k) i ∧ ans (marks n k) i ≤ 1 := by
  have hl := marks_len h
  have e : ans (marks n k) i = (marks n k)[i]'(by omega) := by
    unfold ans
    rw [List.getD_eq_getElem?_getD, List.getElem?_eq_getElem (by omega)]
    rfl
  have hm : ans (marks n k) i ∈ marks n k := by
    rw [e]
    exact List.getElem_mem _
  generalize ans (marks n k) i = v at hm
  unfold marks at hm
  rcases List.mem_append.mp hm with hm | hm
  · have := (List.mem_replicate.mp hm).2
    omega
  · have := (List.mem_replicate.mp hm).2
    omega
theorem code_same : ∀ {a b : Row}, a.length = b.length → TS.Bd 7 a → TS.Bd 7 b → TS.code 7 a = TS.code 7 b → a = b
  | [], [], _, _, _, _ => rfl
  | [], _ :: _, h, _, _, _ => by cases h
  | _ :: _, [], h, _, _, _ => by cases h
  | x :: a, y :: b, h, ha, hb, e => by
    have hl : a.length = b.length := by simpa using h
    rcases Int.lt_trichotomy x y with c | c | c
    · have := TS.code_lt hl ha.tail hb.tail c
      omega
    · have e2 : x * 7 ^ a.length + TS.code 7 a = y * 7 ^ b.length + TS.code 7 b := e
      rw [c, hl] at e2
      rw [c, code_same hl ha.tail hb.tail (by omega)]
    · have := TS.code_lt hl.symm hb.tail ha.tail c
      omega
theorem asc_of {d : Nat} : ∀ {M : RL}, (M.Pairwise fun q r => TS.code 7 q.2 ≤ TS.code 7 r.2) → (M.map (·.2)).Nodup → (∀ p, p ∈ M → p.2.length = d ∧ TS.Bd 7 p.2) → Asc (rws M)
  | [], _, _, _ => List.Pairwise.nil
  | x :: M, h1, h2, h3 => by
    have h1' := List.pairwise_cons.mp h1
    have h2' : x.2 ∉ M.map (·.2) ∧ (M.map (·.2)).Nodup := List.nodup_cons.mp h2
    refine List.pairwise_cons.mpr ⟨fun r hr => ?_, asc_of h1'.2 h2'.2 fun p hp => h3 p (List.mem_cons_of_mem _ hp)⟩
    obtain ⟨q, hq, rfl⟩ := List.mem_map.mp hr
    have a := h1'.1 q hq
    have b1 := h3 x List.mem_cons_self
    have b2 := h3 q (List.mem_cons_of_mem _ hq)
    have n : TS.code 7 x.2 ≠ TS.code 7 q.2 := fun e => h2'.1 (by
      rw [code_same (b1.1.trans b2.1.symm) b1.2 b2.2 e]
      exact List.mem_map.mpr ⟨q, hq, rfl⟩)
    show TS.code 7 x.2 < TS.code 7 q.2
    omega
theorem inR_bd {sz r : Row} {n : Nat} (h : InR sz r) (hl : sz.length = n) {m : Int} (hs : ∀ i, i < n → ans sz i ≤ m) (hm : m ≤ 7 := by decide) : r.length = n ∧ TS.Bd 7 r := by
  refine ⟨h.1.trans hl, fun v hv => ?_⟩
  obtain ⟨k, hk, e⟩ := List.getElem_of_mem hv
  have hk' : k < sz.length := by rw [← h.1]; exact hk
  have h1 := h.2 k hk'
  have h2 := hs k (by omega)
  have h3 : ans r k = v := by
    unfold ans
    rw [List.getD_eq_getElem?_getD, List.getElem?_eq_getElem hk, e]
    rfl
  omega
section
variable {P : Program} {w : World} {K : PySem.W.Frag} {mg : Str → Option Value} {base : Heap}
/-! ### l_sheet -/
def spSheet : Sp := fun vs H Q _ => ∃ (h c : Addr), vs = [.ref h, .int 4, .int 6] ∧ HandAt H h c ∧
  ∀ x b a (sz : Row) (L : RL) H', H x = none → But h H H' → HandAt H' h c → H' x = some (.tup [.ref b, .ref a]) → H' b = some (.tup (rowV sz)) → 1 ≤ sz.length → sz.length ≤ 4 → (∀ i, i < sz.length → 1 ≤ ans sz i ∧ ans sz i ≤ 4) → H b = none → H a = none →
    H' a = some (.lst (refs L)) → AllAt H' L → 1 ≤ L.length → L.length ≤ 20 → (∀ r, r ∈ rws L → InR sz r) → Asc (rws L) → Q (.ref x) H'
theorem k_l_sheet (B : Bi mg) (D : Placed K mg "_law_sheet" s_l_sheet p_l_sheet) (CD : Kept P w K mg base CX0 1 "_law_draw" p_l_draw spDraw) (CS : Kept P w K mg base CX0 1 "_law_step" p_l_step (spStep K)) (CP : Kept P w K mg base CX0 2 "_law_span" p_l_span spSpan) : Kept P w K mg base CX0 3 "_law_sheet" p_l_sheet spSheet := by
  obtain ⟨fD, fdD, GD, mD, kD, bD⟩ := CD
  obtain ⟨fS, fdS, GS, mS, kS, bS⟩ := CS
  obtain ⟨fP, fdP, GP, mP, kP, bP⟩ := CP
  refine D.keep fun f fd F => F.ok sc_l_sheet (fun vs H Q E h => ?_) (fun cdv A outer s H vs Q E hr h => ?_)
  · obtain ⟨h, c, rfl, _⟩ := h
    rfl
  · obtain ⟨hh, c, rfl, hA, q⟩ := h
    have hr1 : Room 1 _ := hr.mono (by decide)
    refine ⟨_, pss_cons (ps_set (i := 3) sc_l_sheet.nd rfl (Or.inr rfl) (pe_add pe_int (pe_call GD hr1 rfl mD kD bD .nil pass0 (pa_cons (pv 0) (pa_cons (pv 1) pa_nil)))))
      (pss_cons (ps_set (i := 4) sc_l_sheet.nd rfl (Or.inl rfl) (pe_call GD hr1 rfl mD kD bD .nil pass0 (pa_cons (pv 0) (pa_cons pe_int pa_nil))))
      (pss_cons (ps_set (i := 5) sc_l_sheet.nd rfl (Or.inr rfl) (pe_ix ix_list (pe_lst (pa_cons pe_int (pa_cons pe_int (pa_cons pe_int (pa_cons pe_int pa_nil))))) (pe_call GD hr1 rfl mD kD bD .nil pass0 (pa_cons (pv 0) (pa_cons pe_int pa_nil))) (fun _ _ => rfl)))
      (pss_cons (ps_set (i := 6) sc_l_sheet.nd rfl (Or.inl rfl) (pe_op op_rep (pe_lst (pa_cons (pv 5) pa_nil)) (pv 3)))
      (Evl.pss_cut (ps_if (pt_cmpR op_lt (pv 4) pe_int (nomark _))
        (pss_one (ps_setLc (i := 6) (own := [("_law_k", 8)]) (g := gName 8) (by rfl) sc_l_sheet.nd rfl rfl (sw_true rfl rfl rfl (by decide +kernel)) (pi_range1 (by rfl) B.range (pa_cons (pv 3) pa_nil)) (blkOk_by (N := n_l_sheet) (sc := defScope s_l_sheet) (by decide +kernel)) (fun _ _ _ _ _ => pg_name (i := 8) sc_l_sheet.nd rfl (Or.inl rfl)) (fun _ _ _ _ _ => pts_nil)
          (fun _ _ _ _ _ => pe_add pe_int (pe_call GD hr1 rfl mD kD bD .nil pass0 (pa_cons (pv 0) (pa_cons pe_int pa_nil)))))) pss_nil)
      (pss_cons (ps_set (i := 7) sc_l_sheet.nd rfl (Or.inr rfl) (pe_lst pa_nil))
      (Evl.pss_cut (ps_if (pt_cmpR op_lt (pv 4) pe_int (nomark _))
        (pss_one (ps_for PassesOwn.never rfl (pi_range1 (by rfl) B.range (pa_cons (pe_add pe_int (pe_call GD hr1 rfl mD kD bD .nil pass0 (pa_cons (pv 0) (pa_cons (pv 2) pa_nil)))) pa_nil)) (pg_name (i := 8) sc_l_sheet.nd rfl (Or.inl rfl))
          (pss_one (ps_expr (pe_bm PySem.F.plainAttrs_list PySem.F.slot_list_append PySem.F.type_list_append mt_append (pv 7) (pa_cons (pe_callTy callTup (by rfl) B.tuple PyProof.Rows.boot_tuple (pa_cons
            (pe_lc (own := [("_law_size", 11)]) (g := gName 11) (by rfl) sc_l_sheet.nd (pi_ls (K := K) (pv 6)) (blkOk_by (N := n_l_sheet) (sc := defScope s_l_sheet) (by decide +kernel)) (fun _ _ _ _ _ => pg_name (i := 11) sc_l_sheet.nd rfl (Or.inl rfl)) (fun _ _ _ _ _ => pts_nil)
              (fun _ _ _ _ _ => pe_call GD hr1 rfl mD kD bD .nil pass0 (pa_cons (pv 0) (pa_cons (pv 11) pa_nil)))) pa_nil)) pa_nil))))))
        (pss_one (ps_if (pt_cmpR op_eq (pv 4) pe_int (nomark _))
          (pss_one (ps_set (i := 7) sc_l_sheet.nd rfl (Or.inr rfl) (pe_lc (own := [("_law_k", 8)]) (g := gName 8) (by rfl) sc_l_sheet.nd (pi_range1 (by rfl) B.range (pa_cons (pe_add (pv 3) pe_int) pa_nil)) (blkOk_by (N := n_l_sheet) (sc := defScope s_l_sheet) (by decide +kernel)) (fun _ _ _ _ _ => pg_name (i := 8) sc_l_sheet.nd rfl (Or.inl rfl)) (fun _ _ _ _ _ => pts_nil)
            (fun _ _ _ _ _ => pe_op (opCat (K := K)) (pe_op (opRep (K := K)) (pe_tup (pa_cons pe_int pa_nil)) (pv 8)) (pe_op (opRep (K := K)) (pe_tup (pa_cons pe_int pa_nil)) (pe_sub (pv 3) (pv 8)))))))
          (pss_one (ps_if (pt_cmpR op_eq (pv 4) pe_int (nomark _))
            (pss_one (ps_for PassesOwn.never rfl (pi_range1 (by rfl) B.range (pa_cons pe_int pa_nil)) (pg_name (i := 9) sc_l_sheet.nd rfl (Or.inr rfl))
              (pss_cons (ps_set (i := 10) sc_l_sheet.nd rfl (Or.inr rfl) (pe_callTy callTup (by rfl) B.tuple PyProof.Rows.boot_tuple (pa_cons
                (pe_lc (own := [("_law_k", 8)]) (g := gName 8) (by rfl) sc_l_sheet.nd (pi_range1 (by rfl) B.range (pa_cons (pe_sub (pv 3) pe_int) pa_nil)) (blkOk_by (N := n_l_sheet) (sc := defScope s_l_sheet) (by decide +kernel)) (fun _ _ _ _ _ => pg_name (i := 8) sc_l_sheet.nd rfl (Or.inl rfl)) (fun _ _ _ _ _ => pts_nil)
                  (fun _ _ _ _ _ => pe_call GD hr1 rfl mD kD bD .nil pass0 (pa_cons (pv 0) (pa_cons (pv 5) pa_nil)))) pa_nil)))
              (pss_one (ps_expr (pe_bm PySem.F.plainAttrs_list PySem.F.slot_list_extend PySem.F.type_list_extend mt_extend (pv 7) (pa_cons
                (pe_lc (own := [("_law_x", 12)]) (g := gName 12) (by rfl) sc_l_sheet.nd (pi_range1 (by rfl) B.range (pa_cons (pv 5) pa_nil)) (blkOk_by (N := n_l_sheet) (sc := defScope s_l_sheet) (by decide +kernel)) (fun _ _ _ _ _ => pg_name (i := 12) sc_l_sheet.nd rfl (Or.inl rfl)) (fun _ _ _ _ _ => pts_nil)
                  (fun _ _ _ _ _ => pe_op (opCat (K := K)) (pe_tup (pa_cons (pv 9) pa_nil)) (pe_call GS hr1 rfl mS kS bS .nil pass0 (pa_cons (pe_op (opRep (K := K)) (pe_tup (pa_cons (pv 12) pa_nil)) (pe_sub (pv 3) pe_int)) (pa_cons (pv 10) (pa_cons (pv 5) pa_nil)))))) pa_nil)))))))
            (pss_one (ps_set (i := 7) sc_l_sheet.nd rfl (Or.inr rfl) (pe_call GP hr rfl mP kP bP .nil pass0 (pa_cons (pv 0) (pa_cons (pv 3) (pa_cons (pv 5) pa_nil))))))))))) 
      (Evl.pss_cut (ps_if (pt_cmpR op_eq (pv 4) pe_int (nomark _))
        (pss_one (ps_expr (pe_bm PySem.F.plainAttrs_list PySem.F.slot_list_append PySem.F.type_list_append mt_append (pv 7) (pa_cons (pe_callTy callTup (by rfl) B.tuple PyProof.Rows.boot_tuple (pa_cons
            (pe_lc (own := [("_law_k", 8)]) (g := gName 8) (by rfl) sc_l_sheet.nd (pi_range1 (by rfl) B.range (pa_cons (pv 3) pa_nil)) (blkOk_by (N := n_l_sheet) (sc := defScope s_l_sheet) (by decide +kernel)) (fun _ _ _ _ _ => pg_name (i := 8) sc_l_sheet.nd rfl (Or.inl rfl)) (fun _ _ _ _ _ => pts_nil)
              (fun _ _ _ _ _ => pe_call GD hr1 rfl mD kD bD .nil pass0 (pa_cons (pv 0) (pa_cons (pv 5) pa_nil)))) pa_nil)) pa_nil)))) pss_nil)
      (Evl.pss_cut (ps_if (PW.pt (pw_and (pt_cmpR op_eq (pv 4) pe_int (nomark _)) (pw_and1 (pt_cmpR op_gt (pe_callB cr_lenST (by rfl) B.len PySem.boot_len (pa_cons (pe_callTy (cr_setOfT (by rfl) hr.units) (by rfl) B.set PyProof.Rows.boot_set (pa_cons (pv 7) pa_nil)) pa_nil)) pe_int (nomark _)))))
        (pss_one (ps_set (i := 7) sc_l_sheet.nd rfl (Or.inr rfl) (pe_lc (own := [("_law_row", 13)]) (g := gName 13) (by rfl) sc_l_sheet.nd (pi_ls (K := K) (pv 7)) (blkOk_by (N := n_l_sheet) (sc := defScope s_l_sheet) (by decide +kernel)) (fun _ _ _ _ _ => pg_name (i := 13) sc_l_sheet.nd rfl (Or.inl rfl))
          (fun _ _ _ _ _ => pts_one (pt_cmpR (opNeD (K := K) hr.units) (pv 13) (pe_ix (ixL (K := K)) (pv 7) pe_int (fun _ _ => rfl)) (nomark _))) (fun _ _ _ _ _ => pv 13)))) pss_nil)
      (pss_one (ps_ret (pe_tup (pa_cons (pe_callTy callTup (by rfl) B.tuple PyProof.Rows.boot_tuple (pa_cons (pv 6) pa_nil)) (pa_cons (pe_callB (cr_sortedT (by rfl)) (by rfl) B.sorted PyProof.Rows.boot_sorted (pa_cons (pe_callTy (cr_setOfT (by rfl) hr.units) (by rfl) B.set PyProof.Rows.boot_set (pa_cons (pv 7) pa_nil)) pa_nil)) pa_nil))))))))))))), ?_⟩
    obtain ⟨⟨xh, eh⟩, _⟩ := hA.some
    have nhD : ∀ {z : Addr}, H z = none → z ≠ hh := fun e => (ne_of_none eh e).symm
    have back : ∀ {Hx : Hp} {z : Addr}, But hh H Hx → HandAt Hx hh c → Hx z = none → H z = none := fun {Hx z} b a e => by
      refine b.fresh e fun zz => ?_
      obtain ⟨⟨ys, ey⟩, _⟩ := a.some
      rw [zz, ey] at e
      cases e
    -- how many, the kind, the base
    refine ⟨_, rfl, _, rfl, hh, c, 4, rfl, hA, by decide, by decide, fun d H1 d0 d1 b1 a1 => ⟨1, d, rfl, rfl, ?_⟩⟩
    obtain ⟨n, hn⟩ : ∃ n : Nat, 1 + d = n := ⟨(1 + d).toNat, by omega⟩
    rw [hn]
    have n1 : 1 ≤ n := by omega
    have n4 : n ≤ 4 := by omega
    refine ⟨_, rfl, hh, c, 8, rfl, a1, by decide, by decide, fun kd H2 k0 k1 b2 a2 => ?_⟩
    refine ⟨by show 4 ≤ sizeLine; decide, fun ls nls => ?_⟩
    have b12 := b1.trans b2
    have nls0 := back b12 a2 nls
    have s3 := same_new (o := .lst [V.int 2, V.int 3, V.int 2, V.int 4]) nls
    refine ⟨_, rfl, hh, c, 4, rfl, a2.same s3, by decide, by decide, fun bi H3 i0 i1 b3 a3 => ?_⟩
    have els : H3 ls = some (.lst [V.int 2, V.int 3, V.int 2, V.int 4]) := b3 _ _ upd_same (nhD nls0)
    obtain ⟨bs, hb2, hb4, hbs⟩ : ∃ bs : Nat, 2 ≤ bs ∧ bs ≤ 4 ∧ atI [V.int 2, V.int 3, V.int 2, V.int 4] bi = some (.int (bs : Int)) := by
      have : bi = 0 ∨ bi = 1 ∨ bi = 2 ∨ bi = 3 := by omega
      rcases this with rfl | rfl | rfl | rfl
      · exact ⟨2, by decide, by decide, rfl⟩
      · exact ⟨3, by decide, by decide, rfl⟩
      · exact ⟨2, by decide, by decide, rfl⟩
      · exact ⟨4, by decide, by decide, rfl⟩
    refine ⟨ls, _, bi, _, rfl, rfl, SqL.of els, hbs, ?_⟩
    have b03 : But hh H H3 := (b12.then s3).trans b3
    -- the sizes
    refine ⟨_, rfl, by show 1 ≤ sizeLine; decide, fun l1 nl1 => ⟨_, rfl, l1, (n : Int), [V.int bs], rfl, rfl, upd_same, by omega, by omega, ?_, fun sa nsa => ?_⟩⟩
    · show 1 * (n : Int).toNat ≤ sizeLine
      exact Nat.le_trans (show 1 * (n : Int).toNat ≤ 100 by omega) (by decide)
    have s4 := same_new (o := .lst [V.int bs]) nl1
    have erep : (List.replicate (n : Int).toNat [V.int (bs : Int)]).flatten = rowV (List.replicate n (bs : Int)) := by
      rw [flat_one]
      unfold rowV
      rw [List.map_replicate]
      rfl
    rw [erep]
    have s5 := same_new (o := .lst (rowV (List.replicate n (bs : Int)))) nsa
    have b05 : But hh H (upd (upd H3 l1 (.lst [V.int bs])) sa (.lst (rowV (List.replicate n (bs : Int))))) := (b03.then s4).then s5
    have a5 := (a3.same s4).same s5
    have esa : (upd (upd H3 l1 (.lst [V.int bs])) sa (.lst (rowV (List.replicate n (bs : Int))))) sa = some (.lst (rowV (List.replicate n (bs : Int)))) := upd_same
    have nsa0 : H sa = none := back b03 a3 (s4.free nsa)
    generalize (upd (upd H3 l1 (.lst [V.int bs])) sa (.lst (rowV (List.replicate n (bs : Int))))) = H5 at b05 a5 esa ⊢
    have erp : ∀ i, i < n → ans (List.replicate n (bs : Int)) i = bs := fun i hi => by
      unfold ans
      rw [List.getD_eq_getElem?_getD, List.getElem?_replicate, if_pos hi]
      rfl
    refine ⟨fun σ H' => ∃ sa, ∃ sz : Row, σ = [some (.ref hh), some (.int 4), some (.int 6), some (.int n), some (.int kd), some (.int bs), some (.ref sa), none, none, none, none, none, none, none] ∧ But hh H H' ∧ HandAt H' hh c ∧ H' sa = some (.lst (rowV sz)) ∧ H sa = none ∧ sz.length = n ∧ (∀ i, i < n → 1 ≤ ans sz i ∧ ans sz i ≤ 4) ∧ (2 ≤ kd → sz = List.replicate n (bs : Int)), ?_, ?_⟩
    · refine ⟨_, rfl, _, _, rfl, rfl, _, rfl, ?_⟩
      by_cases hk2 : kd < 2
      · rw [decide_eq_true hk2]
        refine iteT ?_
        refine ⟨_, rfl, (n : Int), rfl, by omega, by omega, fun D hD => ?_⟩
        refine lc_drawG (n := n) (te := tAdd (tC (.int 1)) (tCall spDraw [] E0 (tCons (tVar 0) (tCons (tC (.int 4)) tNil)))) (j := 8) walk_range0 (fun _ => 1) (fun _ => 5) hD (by omega) a5 (fun _ _ => trivial) (fun _ => rfl) (fun i x H6 H7 R hi b6 a6 y qq => ?_) (fun H6 r b6 a6 e6 l6 g6 => ?_)
        · obtain ⟨rfl, rfl⟩ := y
          exact ⟨_, rfl, hh, c, 4, rfl, a6, by decide, by decide, fun v H8 v0 v1 b8 a8 => ⟨1, v, rfl, rfl, qq (1 + v) H8 (by omega) (by omega) b8 a8⟩⟩
        · exact ⟨D, r, rfl, b05.trans b6, a6, e6, back b05 a5 hD, l6, fun i hi => ⟨(g6 i hi).1, by have := (g6 i hi).2; omega⟩, fun z => absurd z (by omega)⟩
      · rw [decide_eq_false hk2]
        exact iteF ⟨sa, _, rfl, b05, a5, esa, nsa0, List.length_replicate, fun i hi => by rw [erp i hi]; omega, fun _ => rfl⟩
    rintro σ H6 ⟨sa, sz, rfl, b6, a6, e6, ns6, lsz, hsz, hrep⟩
    refine ⟨Nat.zero_le _, fun ra nra => ?_⟩
    have s7 := same_new (o := .lst []) nra
    have nra0 := back b6 a6 nra
    have hsr : sa ≠ ra := ne_of_none e6 nra
    have b7 := b6.then s7
    have a7 := a6.same s7
    have e7 := s7 _ _ e6
    have r7 : (upd H6 ra (.lst [])) ra = some (.lst (refs [])) := upd_same
    generalize (upd H6 ra (.lst [])) = H7 at b7 a7 e7 r7 ⊢
    have tupB : ∀ {H1 H2 : Hp} {M : RL}, But hh H1 H2 → HandAt H1 hh c → AllAt H1 M → AllAt H2 M := fun b a m p hp => b _ _ (m p hp) (by
      obtain ⟨⟨ys, ey⟩, _⟩ := a.some
      exact ne_of (m p hp) ey (fun z => nomatch z))
    have inr : 2 ≤ kd → ∀ r : Row, GoodR n bs r → InR sz r := fun z r g => by
      refine ⟨by rw [g.1, lsz], fun i hi => ?_⟩
      rw [lsz] at hi
      rw [hrep z, erp i hi]
      exact g.2 i hi
    refine ⟨fun σ H' => ∃ ra L x8 x9 x10, σ = [some (.ref hh), some (.int 4), some (.int 6), some (.int n), some (.int kd), some (.int bs), some (.ref sa), some (.ref ra), x8, x9, x10, none, none, none] ∧ But hh H H' ∧ HandAt H' hh c ∧ H' sa = some (.lst (rowV sz)) ∧ H ra = none ∧ ra ≠ sa ∧ H' ra = some (.lst (refs L)) ∧ AllAt H' L ∧ 1 ≤ L.length ∧ L.length ≤ 16 ∧ ∀ r, r ∈ rws L → InR sz r, ?_, ?_⟩
    · refine ⟨_, rfl, _, _, rfl, rfl, _, rfl, ?_⟩
      by_cases hk3 : kd < 3
      · rw [decide_eq_true hk3]
        refine iteT ?_
        -- drawn rows
        refine ⟨_, rfl, _, rfl, hh, c, 6, rfl, a7, by decide, by decide, fun t H8 t0 t1 b8 a8 => ⟨1, t, rfl, rfl, 1 + t, rfl, by omega, by omega, ?_⟩⟩
        refine for_it (n := (1 + t).toNat) walk_range0 (fun k σ H' => ∃ L x8, σ = [some (.ref hh), some (.int 4), some (.int 6), some (.int n), some (.int kd), some (.int bs), some (.ref sa), some (.ref ra), x8, none, none, none, none, none] ∧ But hh H H' ∧ HandAt H' hh c ∧ H' sa = some (.lst (rowV sz)) ∧ H' ra = some (.lst (refs L)) ∧ AllAt H' L ∧ L.length = k ∧ ∀ r, r ∈ rws L → InR sz r)
          ⟨[], none, rfl, b7.trans b8, a8, b8 _ _ e7 (nhD ns6), b8 _ _ r7 (nhD nra0), (fun p hp => nomatch hp), rfl, fun r hr => nomatch hr⟩ (fun _ _ _ _ _ => trivial) ?_ ?_
        · rintro k x σ _ H9 hk ⟨L, x8, rfl, b9, a9, e9, r9, A9, l9, g9⟩ ⟨rfl, rfl⟩
          refine ⟨_, rfl, .inl ⟨rfl, _, SqL.of r9⟩, _, rfl, sa, rfl, ⟨_, SqL.of e9⟩, fun D hD => ?_⟩
          have ws := walk_list (K := K) (a := sa) (xs := rowV sz)
          rw [rowV_len, lsz] at ws
          refine lc_drawG (n := n) (te := tCall spDraw [] E0 (tCons (tVar 0) (tCons (tVar 11) tNil))) (j := 11) ws (fun _ => 0) (fun i => ans sz i) hD (by omega) a9 (fun H' b => SqL.of (b _ _ e9 (nhD ns6))) (fun _ => rfl) (fun i x H6 H7 R hi b6 a6 y qq => ?_) (fun H10 r b10 a10 e10 l10 g10 => ?_)
          · obtain ⟨rfl, hx⟩ := y
            rw [rowV_get (by omega)] at hx
            obtain rfl : V.int (ans sz i) = x := Option.some.inj hx
            have := hsz i hi
            exact ⟨_, rfl, _, rfl, hh, c, ans sz i, rfl, a6, by omega, by omega, fun v H8 v0 v1 b8 a8 => qq v H8 v0 v1 b8 a8⟩
          · refine ⟨D, _, rfl, .inl ⟨SqL.of e10, fun u nu => ?_⟩⟩
            have su := same_new (o := .tup (rowV r)) nu
            have r10 := su _ _ (b10 _ _ r9 (nhD nra0))
            have tu : Tups (upd H10 u (.tup (rowV r))) (upd (upd H10 u (.tup (rowV r))) ra (.lst (refs L ++ [.ref u]))) := .setL r10
            have nru := nhD nra0
            refine ⟨ra, _, .ref u, rfl, rfl, r10, by rw [refs_len]; exact Nat.lt_of_le_of_lt (show L.length ≤ 100 by omega) (by decide), ?_⟩
            have hb := (b9.trans b10).then su
            refine ⟨L ++ [(u, r)], _, rfl, fun z o e nz => ?_, (a10.same su).upd nru.symm (by
                obtain ⟨_, ⟨yc, ec⟩⟩ := hA.some
                exact ne_of_none ec nra0), by rw [upd_ne hsr]; exact su _ _ (b10 _ _ e9 (nhD ns6)), by rw [upd_same, refs_snoc], fun p hp => ?_, by rw [List.length_append, l9]; rfl, fun r' hr' => ?_⟩
            · rw [upd_ne (ne_of_none e nra0)]
              exact hb _ _ e nz
            · rcases List.mem_append.mp hp with hp | hp
              · exact tu _ _ (su _ _ (tupB b10 a9 A9 p hp))
              · rw [List.mem_singleton.mp hp]
                exact tu _ _ upd_same
            · rw [rws_snoc] at hr'
              rcases List.mem_append.mp hr' with hr' | hr'
              · exact g9 r' hr'
              · rw [List.mem_singleton.mp hr']
                exact ⟨by rw [l10, lsz], fun i hi => g10 i (by omega)⟩
        · rintro σ H9 ⟨L, x8, rfl, b9, a9, e9, r9, A9, l9, g9⟩
          exact ⟨ra, L, _, _, _, rfl, b9, a9, e9, nra0, hsr.symm, r9, A9, by omega, by omega, g9⟩
      · rw [decide_eq_false hk3]
        refine iteF ?_
        refine ⟨_, rfl, rfl, _, rfl, ?_⟩
        rw [dec_int]
        cases c3 : kd == 3 with
        | true =>
          refine iteT ?_
          refine ⟨_, rfl, n, 1, rfl, rfl, ((n : Int) + 1), rfl, by omega, by omega, fun D hD => ?_⟩
          rw [show ((n : Int) + 1).toNat = n + 1 by omega]
          refine lc_same (n := n + 1) walk_range0 (fun _ => true) (fun k y H' => isRow (marks n k) y H') (fun _ _ _ _ t e => e.mono t) hD (by omega) (fun _ _ => trivial) ?_ (fun H8 acc s8 hd pr => ?_)
          · rintro k x H8 H9 N hk s8 ⟨rfl, rfl⟩ kt _
            refine ⟨rfl, ?_⟩
            refine ⟨by show 1 ≤ sizeLine; decide, fun u nu => ⟨_, rfl, rRep_one (k := k) upd_same (by omega) fun z1 H10 s10 e10 => ⟨by show 1 ≤ sizeLine; decide, fun u2 nu2 => ⟨_, rfl, _, rfl, n, k, rfl, rfl, ?_⟩⟩⟩⟩
            show rRepA K (V.ref u2) (V.int ((n : Int) - (k : Int))) _ _
            rw [show (n : Int) - (k : Int) = ((n - k : Nat) : Int) by omega]
            refine rRep_one (k := n - k) upd_same (by omega) fun z2 H11 s11 e11 => ?_
            have s12 := (same_new (o := .tup [V.int 1]) nu2).trans s11
            refine rCat_of (s12 _ _ e10) e11 (by rw [List.length_replicate, List.length_replicate]; omega) fun z H12 s13 ez => ?_
            refine kt rfl _ _ ((same_new nu).trans (s10.trans (s12.trans s13))) ⟨z, rfl, ?_⟩
            rw [ez]
            unfold marks rowV
            rw [List.map_append, List.map_replicate, List.map_replicate]
          · rw [filter_all] at pr
            obtain ⟨M, rfl, eM, aM⟩ := rows_of (g := marks n) pr
            have lM : M.length = n + 1 := by rw [← rws_len, eM, List.length_map, List.length_range]
            refine ⟨D, M, _, _, _, rfl, b7.then s8, a7.same s8, s8 _ _ e7, back b7 a7 hD, (ne_of_none e7 hD).symm, hd, aM, by omega, by omega, fun r hr' => ?_⟩
            rw [eM] at hr'
            obtain ⟨k, hk, rfl⟩ := List.mem_map.mp hr'
            have hk := List.mem_range.mp hk
            refine inr (by have := beq_iff_eq.mp c3; omega) _ ⟨marks_len (by omega), fun i hi => ?_⟩
            have := marks_in (n := n) (k := k) (by omega) hi
            omega
        | false =>
          refine iteF ?_
          refine ⟨_, rfl, rfl, _, rfl, ?_⟩
          rw [dec_int]
          cases c4 : kd == 4 with
          | true =>
            refine iteT ?_
            have hk2 : 2 ≤ kd := by have := beq_iff_eq.mp c4; omega
            refine ⟨2, rfl, by omega, by omega, ?_⟩
            refine for_it (n := 2) walk_range0 (fun k σ H' => ∃ L x9 x10, σ = [some (.ref hh), some (.int 4), some (.int 6), some (.int n), some (.int kd), some (.int bs), some (.ref sa), some (.ref ra), none, x9, x10, none, none, none] ∧ But hh H H' ∧ HandAt H' hh c ∧ H' sa = some (.lst (rowV sz)) ∧ H' ra = some (.lst (refs L)) ∧ AllAt H' L ∧ L.length = k * bs ∧ ∀ r, r ∈ rws L → GoodR n bs r)
              ⟨[], none, none, rfl, b7, a7, e7, r7, (fun p hp => nomatch hp), by rw [Nat.zero_mul]; rfl, fun r hr => nomatch hr⟩ (fun _ _ _ _ _ => trivial) ?_ ?_
            · rintro k x σ _ H9 hk ⟨L, x9, x10, rfl, b9, a9, e9, r9, A9, l9, g9⟩ ⟨rfl, rfl⟩
              refine ⟨_, rfl, n, 1, rfl, rfl, ((n : Int) - 1), rfl, by omega, by omega, fun D hD => ?_⟩
              rw [show ((n : Int) - 1).toNat = n - 1 by omega]
              refine lc_draw (n := n - 1) walk_range0 (tm := tVar 5) (i := 0) (j := 8) (fun _ => (bs : Int)) hD (by omega) a9 (fun _ _ => trivial) (fun _ => rfl) (fun _ => rfl) (fun i x H1 H2 hi b1 y => ⟨y.1, fun R r => ⟨_, rfl, r⟩⟩) (fun i hi => ⟨by omega, by omega⟩) (fun H10 sr b10 a10 e10 l10 g10 => ?_)
              refine ⟨D, _, rfl, .inl ⟨SqL.of e10, fun st nst => ?_⟩⟩
              have s11 := same_new (o := .tup (rowV sr)) nst
              have b11 : But hh H (upd H10 st (.tup (rowV sr))) := (b9.trans b10).then s11
              have a11 := a10.same s11
              have st11 : (upd H10 st (.tup (rowV sr))) st = some (.tup (rowV sr)) := upd_same
              have r11 := s11 _ _ (b10 _ _ r9 (nhD nra0))
              have e11 := s11 _ _ (b10 _ _ e9 (nhD ns6))
              have A11 := (tupB b10 a9 A9).mono (.of_same s11)
              generalize (upd H10 st (.tup (rowV sr))) = H11 at b11 a11 st11 r11 e11 A11 ⊢
              refine ⟨_, rfl, .inl ⟨rfl, _, SqL.of r11⟩, _, rfl, (bs : Int), rfl, by omega, by omega, fun D2 hD2 => ?_⟩
              refine lc_same (n := bs) walk_range0 (fun _ => true) (fun _ y H' => ∃ g, GoodR n bs g ∧ isRow g y H') (fun _ _ _ _ t e => let ⟨g, h1, h2⟩ := e; ⟨g, h1, h2.mono t⟩) hD2 (by omega) (fun _ _ => trivial) ?_ (fun H12 acc s12 hd pr => ?_)
              · rintro v x H12 H13 N hv s12 ⟨rfl, rfl⟩ kt _
                refine ⟨rfl, ?_⟩
                refine ⟨_, rfl, by show 1 ≤ sizeLine; decide, fun u nu => ⟨_, rfl, by show 1 ≤ sizeLine; decide, fun u2 nu2 => ⟨_, rfl, n, 1, rfl, rfl, ?_⟩⟩⟩
                show rRepA K (V.ref u2) (V.int ((n : Int) - 1)) _ _
                rw [show (n : Int) - 1 = ((n - 1 : Nat) : Int) by omega]
                refine rRep_one (k := n - 1) upd_same (by omega) fun z1 H14 s14 e14 => ?_
                have su := same_new (o := .tup [V.int (k : Int)]) nu
                have su2 := same_new (o := .tup [V.int (v : Int)]) nu2
                have e14' : H14 z1 = some (.tup (rowV (List.replicate (n - 1) (v : Int)))) := by
                  rw [e14]
                  unfold rowV
                  rw [List.map_replicate]
                refine ⟨_, rfl, _, rfl, z1, st, List.replicate (n - 1) (v : Int), sr, n - 1, (bs : Int), rfl, e14', s14 _ _ (su2 _ _ (su _ _ (s12 _ _ st11))), List.length_replicate, l10, by omega, by omega, fun p r' H15 np s15 e15 l15 g15 => ?_⟩
                refine rCat_of (s15 _ _ (s14 _ _ (su2 _ _ upd_same))) e15 (by rw [rowV_len, l15]; show 1 + _ ≤ _; omega) fun z H16 s16 ez => ?_
                refine kt rfl _ _ (su.trans (su2.trans (s14.trans (s15.trans s16)))) ⟨(k : Int) :: r', ⟨by rw [List.length_cons, l15]; omega, fun i hi => ?_⟩, z, rfl, by rw [ez]; rfl⟩
                cases i with
                | zero =>
                  show 0 ≤ (k : Int) ∧ (k : Int) < bs
                  omega
                | succ i => exact g15 i (by omega)
              · rw [filter_all] at pr
                obtain ⟨NL, rfl, lN, aN, gN⟩ := rows_ofP pr
                rw [List.length_range] at lN
                have r12 := s12 _ _ r11
                have hl2 : k * bs ≤ 1 * 4 := Nat.mul_le_mul (by omega) hb4
                refine ⟨ra, D2, _, _, rfl, rfl, r12, hd, by rw [refs_len, refs_len]; exact Nat.le_trans (show L.length + NL.length ≤ 100 by omega) (by decide), ?_⟩
                have tu : Tups H12 (upd H12 ra (.lst (refs L ++ refs NL))) := .setL r12
                refine ⟨L ++ NL, _, _, rfl, fun z o e nz => ?_, (a11.same s12).upd (nhD nra0).symm (by
                    obtain ⟨_, ⟨yc, ec⟩⟩ := hA.some
                    exact ne_of_none ec nra0), by rw [upd_ne hsr]; exact s12 _ _ e11, by rw [upd_same, refs_app], fun p hp => ?_, by rw [List.length_append, l9, lN, Nat.succ_mul], fun r' hr' => ?_⟩
                · rw [upd_ne (ne_of_none e nra0)]
                  exact s12 _ _ (b11 _ _ e nz)
                · rcases List.mem_append.mp hp with hp | hp
                  · exact tu _ _ (s12 _ _ (A11 p hp))
                  · exact tu _ _ (aN p hp)
                · rw [rws_app] at hr'
                  rcases List.mem_append.mp hr' with hr' | hr'
                  · exact g9 r' hr'
                  · exact gN r' hr'
            · rintro σ H9 ⟨L, x9, x10, rfl, b9, a9, e9, r9, A9, l9, g9⟩
              exact ⟨ra, L, _, _, _, rfl, b9, a9, e9, nra0, hsr.symm, r9, A9, by omega, by omega, fun r hr' => inr hk2 r (g9 r hr')⟩
          | false =>
            refine iteF ?_
            refine ⟨_, rfl, _, rfl, _, rfl, hh, c, n, bs, rfl, a7, by omega, hb2, hb4, fun l L H8 nl b8 a8 e8 A8 ne8 le8 g8 => ?_⟩
            refine ⟨l, L, _, _, _, rfl, b7.trans b8, a8, b8 _ _ e7 (nhD ns6), back b7 a7 nl, (ne_of_none e7 nl).symm, e8, A8, ?_, le8, fun r hr' => inr (by omega) r (g8 r hr')⟩
            cases L with
            | nil => exact absurd rfl ne8
            | cons p L => exact Nat.succ_le_succ (Nat.zero_le _)
    rintro σ H8 ⟨ra, L, x8, x9, x10, rfl, b8, a8, e8, nra8, nsr, r8, A8, l1, l16, g8⟩
    clear r7 e7 a7 b7 H7 hsr
    refine ⟨fun σ H' => ∃ ra L x8 x9 x10, σ = [some (.ref hh), some (.int 4), some (.int 6), some (.int n), some (.int kd), some (.int bs), some (.ref sa), some (.ref ra), x8, x9, x10, none, none, none] ∧ But hh H H' ∧ HandAt H' hh c ∧ H' sa = some (.lst (rowV sz)) ∧ H ra = none ∧ ra ≠ sa ∧ H' ra = some (.lst (refs L)) ∧ AllAt H' L ∧ 1 ≤ L.length ∧ L.length ≤ 17 ∧ ∀ r, r ∈ rws L → InR sz r, ?_, ?_⟩
    · refine ⟨_, rfl, rfl, _, rfl, ?_⟩
      rw [dec_int]
      cases c6 : kd == 6 with
      | false => exact iteF ⟨ra, L, _, _, _, rfl, b8, a8, e8, nra8, nsr, r8, A8, l1, by omega, g8⟩
      | true =>
        refine iteT ?_
        have hk2 : 2 ≤ kd := by have := beq_iff_eq.mp c6; omega
        refine ⟨_, rfl, .inl ⟨rfl, _, SqL.of r8⟩, _, rfl, (n : Int), rfl, by omega, by omega, fun D hD => ?_⟩
        refine lc_draw (n := n) walk_range0 (tm := tVar 5) (i := 0) (j := 8) (fun _ => (bs : Int)) hD (by omega) a8 (fun _ _ => trivial) (fun _ => rfl) (fun _ => rfl) (fun i x H1 H2 hi b1 y => ⟨y.1, fun R r => ⟨_, rfl, r⟩⟩) (fun i hi => ⟨by omega, by omega⟩) (fun H10 r b10 a10 e10 l10 g10 => ?_)
        refine ⟨D, _, rfl, .inl ⟨SqL.of e10, fun u nu => ?_⟩⟩
        have su := same_new (o := .tup (rowV r)) nu
        have r10 := su _ _ (b10 _ _ r8 (nhD nra8))
        have tu : Tups (upd H10 u (.tup (rowV r))) (upd (upd H10 u (.tup (rowV r))) ra (.lst (refs L ++ [.ref u]))) := .setL r10
        refine ⟨ra, _, .ref u, rfl, rfl, r10, by rw [refs_len]; exact Nat.lt_of_le_of_lt (show L.length ≤ 100 by omega) (by decide), ?_⟩
        have hb := (b8.trans b10).then su
        refine ⟨ra, L ++ [(u, r)], _, _, _, rfl, fun z o e nz => ?_, (a10.same su).upd (nhD nra8).symm (by
            obtain ⟨_, ⟨yc, ec⟩⟩ := hA.some
            exact ne_of_none ec nra8), by rw [upd_ne nsr.symm]; exact su _ _ (b10 _ _ e8 (nhD ns6)), nra8, nsr, by rw [upd_same, refs_snoc], fun p hp => ?_, by rw [List.length_append]; omega, by rw [List.length_append]; show L.length + 1 ≤ 17; omega, fun r' hr' => ?_⟩
        · rw [upd_ne (ne_of_none e nra8)]
          exact hb _ _ e nz
        · rcases List.mem_append.mp hp with hp | hp
          · exact tu _ _ (su _ _ (tupB b10 a8 A8 p hp))
          · rw [List.mem_singleton.mp hp]
            exact tu _ _ upd_same
        · rw [rws_snoc] at hr'
          rcases List.mem_append.mp hr' with hr' | hr'
          · exact g8 r' hr'
          · rw [List.mem_singleton.mp hr']
            exact inr hk2 r ⟨l10, g10⟩
    rintro σ H9 ⟨ra, L, x8, x9, x10, rfl, b9, a9, e9, nra9, nsr, r9, A9, l1, l17, g9⟩
    clear r8 A8 g8 e8 a8 b8 nra8
    refine ⟨fun σ H' => ∃ ra L x8 x9 x10, σ = [some (.ref hh), some (.int 4), some (.int 6), some (.int n), some (.int kd), some (.int bs), some (.ref sa), some (.ref ra), x8, x9, x10, none, none, none] ∧ But hh H H' ∧ HandAt H' hh c ∧ H' sa = some (.lst (rowV sz)) ∧ H' ra = some (.lst (refs L)) ∧ AllAt H' L ∧ 1 ≤ L.length ∧ L.length ≤ 17 ∧ ∀ r, r ∈ rws L → InR sz r, ?_, ?_⟩
    · refine ⟨_, rfl, rfl, _, rfl, ?_⟩
      rw [dec_int]
      cases c7 : kd == 7 with
      | false => exact iteF (iteF ⟨ra, L, _, _, _, rfl, b9, a9, e9, r9, A9, l1, l17, g9⟩)
      | true =>
        refine iteT ?_
        refine ⟨_, rfl, ra, L, rfl, SqL.of r9, fun p hp => SqT.of (A9 p hp), by omega, fun st L0 nst h1 h2 => ?_⟩
        have s1 := same_new (o := SetTO P w st L0) nst
        refine ⟨st, L0, rfl, upd_same, fun p hp => SqT.of (s1 _ _ (A9 p (h1 p hp))), fun nd0 => ?_⟩
        refine ⟨_, 1, rfl, rfl, _, rfl, ?_⟩
        by_cases hgt : (L0.length : Int) > 1
        · rw [decide_eq_true hgt]
          refine iteT ?_
          obtain ⟨p0, L', eL⟩ : ∃ p L', L = p :: L' := by
            cases L with
            | nil => exact absurd l1 (by decide)
            | cons p L' => exact ⟨p, L', rfl⟩
          have hp0 : p0 ∈ L := by rw [eL]; exact List.mem_cons_self
          refine ⟨_, rfl, ra, rfl, ⟨_, SqL.of (s1 _ _ r9)⟩, fun D hD => ?_⟩
          have wl := walk_list (K := K) (a := ra) (xs := refs L)
          rw [refs_len] at wl
          refine lc_same wl (fun i => (L[i]?.map fun q => !decide (q.2 = p0.2)).getD false) (fun i y _ => y = (refs L).getD i .non) (fun _ _ _ _ _ e => e) hD (by omega) (fun H' s => SqL.of (s _ _ (s1 _ _ r9))) ?_ (fun H10 acc s10 hd pr => ?_)
          · rintro i x H10 H11 N hi s10 ⟨rfl, hx⟩ kt kf
            obtain ⟨r, hr', rfl⟩ := refs_get hx
            have hrm : r ∈ L := List.mem_of_getElem? hr'
            have s11 := s1.trans s10
            refine ⟨rfl, ?_⟩
            refine ⟨_, rfl, _, rfl, ra, _, 0, .ref p0.1, rfl, rfl, SqL.of (s11 _ _ r9), atI_nat (j := 0) (by rw [eL]; rfl), ?_⟩
            refine ⟨rowD r.2, rowD p0.2, dpRow (s11 _ _ (A9 r hrm)), dpRow (s11 _ _ (A9 p0 hp0)), row_shaped _, row_shaped _, _, rfl, ?_⟩
            rw [eqv_row]
            rw [hr'] at kt kf
            cases cc : !decide (r.2 = p0.2) with
            | true => exact ⟨_, rfl, kt cc _ _ (Same.refl _) (by rw [List.getD_eq_getElem?_getD, hx]; rfl)⟩
            | false => exact kf cc _ (Same.refl _)
          · have e := filter_turns (fun q : Addr × Row => !decide (q.2 = p0.2)) pr
            have s11 := s1.trans s10
            have sub : ∀ q, q ∈ L.filter (fun q : Addr × Row => !decide (q.2 = p0.2)) → q ∈ L := fun q hq => (List.mem_filter.mp hq).1
            refine ⟨D, L.filter (fun q : Addr × Row => !decide (q.2 = p0.2)), _, _, _, rfl, b9.then s11, a9.same s11, s11 _ _ e9, by rw [hd, e], (A9.mono (.of_same s11)).sub sub, ?_, Nat.le_trans (List.length_filter_le _ _) l17, fun r hr' => ?_⟩
            · -- there is another one
              have : ∃ q, q ∈ L ∧ q.2 ≠ p0.2 := Classical.byContradiction fun z => by
                have all : ∀ q, q ∈ L0 → q.2 = p0.2 := fun q hq => Classical.byContradiction fun y => z ⟨q, h1 q hq, y⟩
                match L0, hgt, nd0, all with
                | [], hgt, _, _ => exact absurd hgt (by decide)
                | [y], hgt, _, _ =>
                  have hgt : ((1 : Nat) : Int) > 1 := hgt
                  omega
                | u :: v :: _, _, nd0, all =>
                  have n1 : u.2 ∉ (v :: _).map (fun q : Addr × List Int => q.2) := (List.nodup_cons.mp nd0).1
                  refine n1 ?_
                  rw [all u List.mem_cons_self]
                  exact List.mem_map.mpr ⟨v, List.mem_cons_self, all v (List.mem_cons_of_mem _ List.mem_cons_self)⟩
              obtain ⟨q, hq, nq⟩ := this
              exact List.length_pos_of_mem (List.mem_filter.mpr ⟨hq, by rw [decide_eq_false nq]; rfl⟩)
            · obtain ⟨q, hq, rfl⟩ := List.mem_map.mp hr'
              exact g9 _ (mem_rws (sub q hq))
        · rw [decide_eq_false hgt]
          exact iteF ⟨ra, L, _, _, _, rfl, b9.then s1, a9.same s1, s1 _ _ e9, s1 _ _ r9, A9.mono (.of_same s1), l1, l17, g9⟩
    rintro σ H10 ⟨ra, L, x8, x9, x10, rfl, b10, a10, e10, r10, A10, l1, l17, g10⟩
    clear r9 A9 g9 e9 a9 b9
    refine ⟨_, rfl, sa, _, rfl, .inl ⟨SqL.of e10, fun bt nbt => ?_⟩⟩
    have s1 := same_new (o := .tup (rowV sz)) nbt
    refine ⟨_, rfl, ra, L, rfl, SqL.of (s1 _ _ r10), fun p hp => SqT.of (s1 _ _ (A10 p hp)), by omega, fun st L0 nst h1 h2 => ?_⟩
    have s2 := same_new (o := SetTO P w st L0) nst
    have s12 := s1.trans s2
    refine ⟨st, L0, n, 7, rfl, upd_same, fun p hp => SqT.of (s12 _ _ (A10 p (h1 p hp))), n1, fun p hp => ?_, fun M p perm nd _ pw np => ?_⟩
    · exact inR_bd (g10 _ (mem_rws (h1 p hp))) lsz (fun i hi => (hsz i hi).2)
    · have hM : ∀ q, q ∈ M → q ∈ L := fun q hq => h1 q (perm.mem_iff.mp hq)
      have s3 := same_new (o := .lst (refs M)) np
      have s13 := s12.trans s3
      refine ⟨by show 2 ≤ sizeLine; decide, fun x nx => ?_⟩
      have s4 := same_new (o := .tup [V.ref bt, V.ref p]) nx
      have s14 := s13.trans s4
      have b14 := b10.then s14
      have gM : ∀ r, r ∈ rws M → InR sz r := fun r hr' => by
        obtain ⟨q, hq, rfl⟩ := List.mem_map.mp hr'
        exact g10 _ (mem_rws (hM q hq))
      refine q x bt p sz M _ (back (b10.then s13) (a10.same s13) nx) b14 (a10.same s14) upd_same (s4 _ _ (s3 _ _ (s2 _ _ upd_same))) (by omega) (by omega) (fun i hi => hsz i (by omega)) (back b10 a10 nbt) (back (b10.then s12) (a10.same s12) np) (s4 _ _ upd_same)
        ((A10.mono (.of_same s14)).sub hM) ?_ ?_ gM (asc_of pw nd fun q hq => inR_bd (g10 _ (mem_rws (hM q hq))) lsz (fun i hi => (hsz i hi).2))
      · -- not empty
        cases L with
        | nil => exact absurd l1 (by decide)
        | cons p0 L' =>
          have := h2 p0 List.mem_cons_self
          obtain ⟨y, hy, _⟩ := List.mem_map.mp this
          exact List.length_pos_of_mem (perm.mem_iff.mpr hy)
      · have := nodup_sub_len (rws M) (rws L) nd fun r hr' => by
          obtain ⟨q, hq, rfl⟩ := List.mem_map.mp hr'
          exact mem_rws (hM q hq)
        rw [rws_len, rws_len] at this
        omega
end
end K71
set_option Elab.async false
set_option linter.all false
set_option maxRecDepth 100000
set_option maxHeartbeats 4000000
/-! k71: sets of up to sixty-four tuples. -/
namespace K71
open PySem PySem.W PySem.Spec PyProof.Rows L2 PySem.Calls
section
variable {P : Program} {w : World} {A : Around} {E : Value → Shared → Prop} {s : Shared}
structure SetTX (P : Program) (w : World) (h : Heap) (a : Addr) (L : RL) (es : Array (Int × Value)) (ep : Nat) (t : SetTable) : Prop where
  xob : ∃ o, h.get? a = some o ∧ o.ExactSet ∧ o.data = .set es ep t
  xrows : es.toList = L2.rowsOf P w L
  xtab : TabOk t (L.map fun p => thash P w p.2)
  xnd : (L.map (·.2)).Nodup
  xtup : ∀ p, p ∈ L → IsT P w h p.2 p.1
  xplain : t.plain = true
  xled : w.params.followText "set-order" = true ∨ t.led = true
  xroom : L.length * 5 < t.mask * 3
  xfew : L.length ≤ 64
variable {a : Addr} {L : RL} {es : Array (Int × Value)} {ep : Nat} {t : SetTable}
theorem SetTX.of (R : SetTR P w s.heap a L es ep t) : SetTX P w s.heap a L es ep t :=
  ⟨R.ob, R.rows, R.tab, R.nd, R.tup, R.plain, R.led, R.room, Nat.le_of_lt R.few⟩
theorem SetTX.less {h : Heap} (R : SetTX P w h a L es ep t) (hl : L.length < 64) : SetTR P w h a L es ep t :=
  ⟨R.xob, R.xrows, R.xtab, R.xnd, R.xtup, R.xplain, R.xled, R.xroom, hl⟩
theorem SetTX.sizeX {h : Heap} (R : SetTX P w h a L es ep t) : es.size = L.length := by
  have q := congrArg List.length R.xrows
  unfold L2.rowsOf at q
  rwa [Array.length_toList, List.length_map] at q
theorem SetTX.fitsX {h : Heap} (R : SetTX P w h a L es ep t) : t.fits es.size = true := by
  have h1 := R.xtab.sz
  rw [List.length_map] at h1
  have h2 := R.sizeX
  have h3 := R.xroom
  unfold SetTable.fits SetTable.fill
  rw [R.xtab.dm, Bool.and_eq_true, beq_iff_eq, decide_eq_true_eq]
  show t.place.size = es.size ∧ t.place.size + 0 ≤ t.mask
  omega
theorem SetTX.keepX {h h' : Heap} (R : SetTX P w h a L es ep t) (ha : ∀ o, h.get? a = some o → h'.get? a = some o) (ht : ∀ p, p ∈ L → IsT P w h' p.2 p.1) : SetTX P w h' a L es ep t := by
  obtain ⟨o, ho, r⟩ := R.xob
  exact ⟨⟨o, ha o ho, r⟩, R.xrows, R.xtab, R.xnd, ht, R.xplain, R.xled, R.xroom, R.xfew⟩
/-- the sixty-fourth member -/
theorem add_64 (R : SetTR P w s.heap a L es ep t) {x : Addr} {k : List Int} (hx : IsT P w s.heap k x) (hu : A.units < cLine) (h63 : L.length = 63) {Q : Bool → Shared → Prop}
    (hQ : ∀ b h' L' es' ep' t', Heap.SameBut a s.heap h' → SetTX P w h' a L' es' ep' t' → (k ∈ L.map (·.2) → L' = L) → (k ∉ L.map (·.2) → L'.Perm ((x, k) :: L)) → Q b { s with heap := h' }) :
    wpAny (model P w) A (setAddHashed a (.ref x) (thash P w k)) Q E s := by
  obtain ⟨o, ho, hex, hd⟩ := R.ob
  have hsl := R.size
  have hroom := R.room
  unfold setAddHashed
  refine wpAny_holding ?_
  rw [show (100000 : Nat) = 99999 + 1 from rfl, setAddHashedIn_succ]
  refine wpAny_bind (wpAny_setState_of ho hd R.fits ?_)
  dsimp only
  refine wp_if_neg (by simp [byScan, Value.scannable]) ?_
  try refine wpAny_bind (wpAny_pure ?_)
  refine wpAny_bind (search_at R hx hu (fun hm => ?_) fun kk hm hK hb => ?_)
  · dsimp only
    exact wpAny_pure (hQ false s.heap L es ep t (Heap.SameBut.refl a s.heap) (.of R) (fun _ => rfl) fun z => absurd hm z)
  · dsimp only
    refine wpAny_bind (wpAny_setState_of ho hd R.fits ?_)
    dsimp only
    obtain ⟨q1, q2, q3, q4, q5, q6, q7, q8, q9⟩ := R.tab.put hK hb
    have hp1 : (t.put (way t.mask (thash P w k) kk)).1.plain = true := by rw [q6]; exact R.plain
    generalize hpt : t.put (way t.mask (thash P w k) kk) = pt at q1 q3 q4 q5 q6 q7 q8 q9 hp1 ⊢
    obtain ⟨t1, p⟩ := pt
    dsimp only at q1 q3 q4 q5 q6 q7 q8 q9 hp1 ⊢
    subst q1
    first
      | (refine wpAny_bind ?_; refine wp_if_pos hp1 ?_; refine hashBy_tup hx ?_)
      | refine wp_if_pos hp1 (wpAny_bind (hashBy_tup hx ?_))
    simp only [if_true]
    have hin : (SetTable.insertAt es (SetTable.below t.place (way t.mask (thash P w k) kk)) (thash P w k, Value.ref x)).toList = L2.rowsOf P w (L.take (SetTable.below t.place (way t.mask (thash P w k) kk)) ++ (x, k) :: L.drop (SetTable.below t.place (way t.mask (thash P w k) kk))) := by
      rw [SetTable.toList_insertAt, rows_put, R.rows]
    generalize hpp : SetTable.below t.place (way t.mask (thash P w k) kk) = p at q2 q3 hin ⊢
    have pm := put_perm L p (x, k)
    have hlen : (L.take p ++ (x, k) :: L.drop p).length = L.length + 1 := pm.length_eq
    have hhs : (L.take p ++ (x, k) :: L.drop p).map (fun p => thash P w p.2) = (L.map fun p => thash P w p.2).take p ++ thash P w k :: (L.map fun p => thash P w p.2).drop p := by
      rw [List.map_append, List.map_cons, List.map_take, List.map_drop]
    rw [← hhs] at q3
    have nd1 : ((L.take p ++ (x, k) :: L.drop p).map (·.2)).Nodup :=
      (pm.map (·.2)).nodup_iff.mpr (List.nodup_cons.mpr ⟨hm, R.nd⟩)
    have hes : (SetTable.insertAt es p (thash P w k, Value.ref x)).size = L.length + 1 := by
      have h := congrArg List.length hin
      unfold L2.rowsOf at h
      rwa [Array.length_toList, List.length_map, hlen] at h
    generalize SetTable.insertAt es p (thash P w k, Value.ref x) = es1 at hin hes ⊢
    generalize L.take p ++ (x, k) :: L.drop p = L1 at pm hlen q3 nd1 hin
    refine wpAny_bind (wpAny_storeSet_of ho hd ?_ (by rw [hes, h63]; decide))
    have sb : Heap.SameBut a s.heap (s.heap.update a (Obj.putSet es1 t1)) := Heap.SameBut.update ..
    have ho1 := store_at (es' := es1) (t' := t1) ho hd
    generalize s.heap.update a (Obj.putSet es1 t1) = h1 at sb ho1 ⊢
    have m127 : t.mask = 127 := by
      rcases R.tab.mok with e | e | e
      · rw [e, h63] at hroom; omega
      · rw [e, h63] at hroom; omega
      · exact e
    have hf : ¬ t1.tooFull = true := by
      unfold SetTable.tooFull
      rw [decide_eq_true_eq, q9, List.length_map, q4, m127, h63]
      decide
    first
      | refine wp_if_neg (by simp [hf]) ?_
      | (refine wpAny_bind ?_; refine wp_if_neg (by simp [hf]) ?_; refine wpAny_pure ?_)
    refine wpAny_pure (hQ true h1 L1 es1 (ep + 1) t1 sb ⟨⟨_, ho1, ⟨hex.1, hex.2.1, hex.2.2⟩, rfl⟩, hin, q3, nd1, fun q hq => ?_, hp1, by rw [q5]; exact R.led, by rw [hlen, q4, m127, h63]; decide, by rw [hlen, h63]; decide⟩ (fun z => absurd z hm) fun _ => pm)
    rcases List.mem_cons.mp (pm.mem_iff.mp hq) with e | hq
    · rw [e]; exact isT_same hx ho hd sb
    · exact isT_same (R.tup q hq) ho hd sb
theorem add_any (R : SetTX P w s.heap a L es ep t) {x : Addr} {k : List Int} (hx : IsT P w s.heap k x) (hu : A.units < cLine) (h63 : L.length < 64) {Q : Bool → Shared → Prop}
    (hQ : ∀ b h' L' es' ep' t', Heap.SameBut a s.heap h' → SetTX P w h' a L' es' ep' t' → (k ∈ L.map (·.2) → L' = L) → (k ∉ L.map (·.2) → L'.Perm ((x, k) :: L)) → Q b { s with heap := h' }) :
    wpAny (model P w) A (setAddHashed a (.ref x) (thash P w k)) Q E s := by
  by_cases c : L.length + 1 < 64
  · exact add_at (R.less h63) hx hu c fun b h' L' es' ep' t' h1 h2 h3 h4 => hQ b h' L' es' ep' t' h1 (SetTX.of (s := { s with heap := h' }) h2) h3 h4
  · exact add_64 (R.less h63) hx hu (by omega) hQ
theorem updateX {I : Addr} {fp wr : List Addr} {G : Array GenState → Array GenState → Prop} {n : Nat} {Pv : Nat → Value → Prop} {St : Nat → Shared → Prop} {R : Result → Shared → Prop}
    (W : WalksS P w A.in1 I fp wr G n Pv St) (S : Addr) (hSf : S ∉ fp) (ks : RL) (hn : n = ks.length) (hfew : ks.length ≤ 64) (hval : ∀ i v, Pv i v → ∃ p, ks[i]? = some p ∧ v = .ref p.1)
    (h0 : Heap) (hk : ∀ p, p ∈ ks → IsT P w h0 p.2 p.1) (hS0 : h0.get? S = none) (hw0 : ∀ b, b ∈ wr → h0.get? b = none) (hu : A.in1.units < cLine) :
    ∀ (k i : Nat) (s : Shared), n - i = k → i ≤ n → St i s → (∀ b o, h0.get? b = some o → s.heap.get? b = some o) → (∃ L es ep t, SetTX P w s.heap S L es ep t ∧ Got ks i L) →
      (∀ s' L es ep t, Moved (S :: wr) G s s' → SetTX P w s'.heap S L es ep t → Got ks n L → (∀ b o, h0.get? b = some o → s'.heap.get? b = some o) → R (.ok (.ret .none)) s') →
      codeAny (model P w) A (.builtin "set.update.loop" ⟨[.ref S, .ref I], []⟩) R s := by
  have hSw : S ∉ wr := fun h => hSf (W.sub _ h)
  have hsub : ∀ b, b ∈ wr → b ∈ S :: wr := fun b hb => List.mem_cons_of_mem _ hb
  have still : ∀ {s s' : Shared}, Moved wr G s s' → (∀ b o, h0.get? b = some o → s.heap.get? b = some o) → ∀ b o, h0.get? b = some o → s'.heap.get? b = some o := fun hm hkp b o e =>
    hm.heap b o (fun hb => by rw [hw0 b hb] at e; cases e) (hkp b o e)
  intro k
  induction k with
  | zero =>
    intro i s hk' hi hst hkp ⟨L, es, ep, t, hS, g⟩ hR
    have hin : i = n := by omega
    subst hin
    refine codeAny_builtin F.entry_set_update_loop ?_
    rw [Around.under_plainId F.plain_set_update_loop _]
    show wpAny _ A.in1 (pyNext (.ref I) >>= _) _ _ s
    refine wpAny_bind (W.done s _ _ hst fun s' hm => ?_)
    show wpAny _ A.in1 (ret Value.none) _ _ s'
    have hkp' := still hm hkp
    exact wpAny_pure (hR s' L es ep t (hm.mono hsub) (hS.keepX (fun o e => hm.heap S o hSw e) fun p hp => isT_keep (hk p (List.mem_of_mem_take (g.sub p hp))) hkp') g hkp')
  | succ k ih =>
    intro i s hk' hi hst hkp ⟨L, es, ep, t, hS, g⟩ hR
    have hlt : i < n := by omega
    refine codeAny_builtin F.entry_set_update_loop ?_
    rw [Around.under_plainId F.plain_set_update_loop _]
    show wpAny _ A.in1 (pyNext (.ref I) >>= _) _ _ s
    refine wpAny_bind (W.item i s _ _ hlt hst fun v s' hP hst' hm => ?_)
    obtain ⟨p, hp, rfl⟩ := hval i v hP
    have hkp' := still hm hkp
    have hS' : SetTX P w s'.heap S L es ep t := hS.keepX (fun o e => hm.heap S o hSw e) fun q hq => isT_keep (hk q (List.mem_of_mem_take (g.sub q hq))) hkp'
    have hx : IsT P w s'.heap p.2 p.1 := isT_keep (hk p (List.mem_of_getElem? hp)) hkp'
    show wpAny _ A.in1 (holding [Value.ref p.1] (setAdd S (.ref p.1)) >>= _) _ _ s'
    refine wpAny_bind (wpAny_holding ?_)
    unfold setAdd
    refine wpAny_holding ?_
    refine wpAny_bind (wpAny_pyHash_tuple hu hx ?_)
    refine add_any (s := { s' with toks := s'.toks + (p.2.length + 1) }) hS' hx hu (by have := g.len; omega) fun b h' L' es' ep' t' hsb hS2 c1 c2 => ?_
    have g' : Got ks (i + 1) L' := by
      rcases Classical.em (p.2 ∈ L.map (·.2)) with c | c
      · rw [c1 c]; exact g.same hp c
      · exact g.more hp (c2 c)
    have hkp2 : ∀ b o, h0.get? b = some o → h'.get? b = some o := fun b o e => (hsb.2 b (fun z => by rw [z, hS0] at e; cases e)).trans (hkp' b o e)
    refine wpAny_pure ⟨plainId_quiet F.plain_set_update_loop _, ih (i + 1) _ (by omega) hlt (W.frame _ s' _ _ hst' (Nat.le_add_right _ _) fun b hb o e => ?_) hkp2 ⟨L', es', ep', t', hS2, g'⟩ fun s'' L2 es2 ep2 t2 hm'' hS'' g'' hkp'' => ?_⟩
    · rw [hsb.2 b (fun h : b = S => hSf (by rw [← h]; exact hb))]; exact e
    · refine hR s'' L2 es2 ep2 t2 (Moved.trans W.gtrans ((hm.mono hsub).then_heap (Nat.le_add_right _ _) fun b o hb e => ?_) hm'') hS'' g'' hkp''
      rw [hsb.2 b (fun h : b = S => hb (by rw [h]; exact List.mem_cons_self))]; exact e
end
end K71
set_option Elab.async false
set_option linter.all false
set_option maxRecDepth 100000
set_option maxHeartbeats 4000000
/-! k71: set of a list of up to sixty-four tuples. -/
namespace K71
open PySem PySem.W PySem.Spec PyProof.Rows L2 PySem.Calls
section
variable {P : Program} {w : World} {A : Around} {E : Value → Shared → Prop} {s : Shared}
theorem call_setX {l : Addr} {items : Array Value} (ks : RL) {Q : Value → Shared → Prop} (hh : A.handled = none) (hl : s.heap.IsList l items) (hit : items.toList = ks.map fun p => Value.ref p.1)
    (hk : ∀ p, p ∈ ks → IsT P w s.heap p.2 p.1) (hfew : ks.length ≤ 64) (hu : A.units + 3 < cLine)
    (h : ∀ (h' : Heap) (tk : Nat) L es ep t, SetTX P w h' s.heap.objs.size L es ep t → Got ks ks.length L → (∀ b o, s.heap.get? b = some o → h'.get? b = some o) → Q (.ref s.heap.objs.size) { s with heap := h', toks := tk }) :
    wpAny (model P w) A (call (.type "set") [.ref l]) Q E s := by
  have hisz : items.size = ks.length := by
    have q := congrArg List.length hit
    rwa [Array.length_toList, List.length_map] at q
  obtain ⟨c, tl, hmro⟩ := F.called_set.mro
  have hmade := F.called_set.made
  have hsub := F.called_set.sub
  refine wpAny_call (codeAny_of_tree ?_)
  show wpAny _ _ (PySem.callAny (.type "set") _) _ _ _
  refine wpAny_pure ⟨Code.quiet_builtin _ (by decide +kernel), codeAny_builtin F.entry_type_call ?_⟩
  rw [Around.under_plain (weight_type_call_type "set" [.ref l] []) rfl]
  have h1 := F.called_set.notType
  have h2 := F.called_set.canCreate
  have hct := F.typeCall_set_1 (.ref l)
  repeat (any_goals (first | assumption | wp_step))

  refine codeAny_mono (code_set_led1 (.ref l) (E := E) (Q₁ := fun obj s₁ => obj = .ref s.heap.objs.size ∧ s₁ = { s with heap := s.heap.push { cls := .type "set", dict := none, data := .set #[] 0 (.fresh 0 0 (!w.params.followText "set-order")) } }) ⟨rfl, rfl⟩) fun r s₁ hr => ?_
  cases r with
  | error e => exact hr
  | ok fl =>
    cases fl with
    | ret obj =>
      obtain ⟨rfl, rfl⟩ := hr
      have hS : (s.heap.push { cls := .type "set", dict := none, data := .set #[] 0 (.fresh 0 0 (!w.params.followText "set-order")) }).get? s.heap.objs.size = some { cls := .type "set", dict := none, data := .set #[] 0 (.fresh 0 0 (!w.params.followText "set-order")) } := Heap.get?_push_size _ rfl
      have hT : Shared.TypeIs { s with heap := s.heap.push { cls := .type "set", dict := none, data := .set #[] 0 (.fresh 0 0 (!w.params.followText "set-order")) } } (.ref s.heap.objs.size) "set" := ⟨_, hS, rfl⟩
      have hli := F.called_set.init.lookup
      have hbi := F.called_set.init.bind (.ref s.heap.objs.size)
      repeat (any_goals (first | assumption | wp_step))

      refine codeAny_mono (codeAny_call_builtin (R := wants (fun r s₂ => r = .none ∧ ∃ h' tk L es ep t, s₂ = { s with heap := h', toks := tk } ∧ SetTX P w h' s.heap.objs.size L es ep t ∧ Got ks ks.length L ∧
          (∀ b o, s.heap.get? b = some o → h'.get? b = some o)) E) F.called_set.init.plain F.entry_set_init (check_set_init_1 hT ?_)) fun r₂ s₂ hr₂ => ?_
      · obtain ⟨ol, hol, hcl, nl, hdl⟩ := hl
        obtain ⟨ocls, odict, odata, oslots⟩ := ol
        simp only at hcl hdl
        subst hcl; subst hdl
        have hol' : (s.heap.push { cls := .type "set", dict := none, data := .set #[] 0 (.fresh 0 0 (!w.params.followText "set-order")) }).get? l = some { cls := .type "list", dict := odict, data := .seq items nl, slots := oslots } := Heap.get?_push_of_some _ hol
        have hsls := F.sub_list_set
        have hslf := F.sub_list_frozenset
        have hne : (Value.type "list" == Value.type "dict") = false := by decide
        have hl1 : (s.heap.push { cls := .type "set", dict := none, data := .set #[] 0 (.fresh 0 0 (!w.params.followText "set-order")) }).IsList l items := ⟨_, hol', rfl, nl, rfl⟩
        unfold Builtin.«set.__init__» noKeywords Builtin.Frozenset.updateFrom
        generalize hPI : pyIter = PI
        wp_walk
        subst hPI

        refine wpAny_pyIter_list hl1 ?_
        refine wpAny_bind (wpAny_runValue ?_)
        have hlS : l < s.heap.objs.size := Heap.lt_size hol
        have hh3 : A.in1.in1.in1.handled = none := by simp [hh]
        have hz1 : (s.heap.push { cls := .type "set", dict := none, data := .set #[] 0 (.fresh 0 0 (!w.params.followText "set-order")) }).objs.size = s.heap.objs.size + 1 := Heap.size_push ..
        have hneI : l ≠ (s.heap.push { cls := .type "set", dict := none, data := .set #[] 0 (.fresh 0 0 (!w.params.followText "set-order")) }).objs.size := by
          rw [Heap.size_push]; exact Nat.ne_of_lt (Nat.lt_succ_of_lt hlS)
        have hSf : s.heap.objs.size ∉ [(s.heap.push { cls := .type "set", dict := none, data := .set #[] 0 (.fresh 0 0 (!w.params.followText "set-order")) }).objs.size, l] := by
          rw [Heap.size_push]; simp only [List.mem_cons, List.mem_singleton, List.not_mem_nil, or_false, not_or]
          exact ⟨Nat.ne_of_lt (Nat.lt_succ_self _), Nat.ne_of_gt hlS⟩
        have hval : ∀ (i : Nat) (v : Value), items[i]? = some v → ∃ p, ks[i]? = some p ∧ v = .ref p.1 := fun i v hv => by
          have q : items.toList[i]? = some v := by rw [Array.getElem?_toList]; exact hv
          rw [hit, List.getElem?_map] at q
          cases hq : ks[i]? with
          | none => rw [hq] at q; cases q
          | some p =>
            rw [hq] at q
            exact ⟨p, rfl, (Option.some.inj q).symm⟩
        have none_of : ∀ b, s.heap.objs.size ≤ b → s.heap.get? b = none := fun b hb => by
          cases q : s.heap.get? b with
          | none => rfl
          | some o => exact absurd (Nat.lt_of_lt_of_le (Heap.lt_size q) hb) (Nat.lt_irrefl _)
        refine updateX ((Walks.list hh3 _ l hneI items).toS) s.heap.objs.size
          hSf ks hisz hfew hval s.heap hk (none_of _ (Nat.le_refl _)) (fun b hb => none_of b (by
            rw [List.mem_singleton.mp hb, Heap.size_push]
            exact Nat.le_succ _)) hu (items.size - 0) 0 _ (by omega) (Nat.zero_le _)
          ⟨⟨_, Heap.get?_push_size _ rfl, rfl, rfl⟩, (hl1.push _)⟩ (fun b o e => Heap.get?_push_of_some _ (Heap.get?_push_of_some _ e)) ?hS0 ?hR
        case hS0 =>
          have hget : ((s.heap.push { cls := .type "set", dict := none, data := .set #[] 0 (.fresh 0 0 (!w.params.followText "set-order")) }).push { cls := .type "list_iterator", data := .fields #[.ref l, .int 0 0] }).get? s.heap.objs.size
              = some { cls := .type "set", dict := none, data := .set #[] 0 (.fresh 0 0 (!w.params.followText "set-order")) } := Heap.get?_push_of_some _ hS
          exact ⟨[], #[], 0, _, SetTX.of (s := { s with heap := _ }) (setTR_fresh hget), Got.zero ks⟩
        case hR =>
          intro s' L es ep t hm hS' g' hkp
          obtain ⟨h', g2, d', tk', os'⟩ := s'
          have eg : g2 = s.gens := hm.gens
          have ed : d' = s.drawn := hm.drawn
          have eo : os' = s.os := hm.os
          subst eg; subst ed; subst eo
          show wpAny _ _ _ _ _ _
          refine wpAny_pure ?_
          show wpAny _ _ (ret Value.none) _ _ _
          rw [hisz] at g'
          exact wpAny_pure ⟨rfl, h', tk', L, es, ep, t, rfl, hS', g', hkp⟩

      · cases r₂ with
        | error e => exact hr₂
        | ok fl₂ =>
          cases fl₂ with
          | ret r =>
            obtain ⟨rfl, h', tk, L, es, ep, t, rfl, hS', g', hk'⟩ := hr₂
            repeat (any_goals (first | assumption | wp_step))
            exact h _ _ _ _ _ _ hS' g' hk'
          | _ => exact hr₂.elim
    | _ => exact hr.elim

end
end K71
set_option Elab.async false
set_option linter.all false
set_option maxRecDepth 100000
set_option maxHeartbeats 4000000
/-! k71: the rules for set and sorted of up to sixty-four tuples. -/
namespace K71
open PySem PySem.W PySem.Spec PyProof.Rows L2 PySem.Calls
/-! the order of the data is the order of the codes -/
theorem code_mono : ∀ {a b : Row}, a.length = b.length → TS.Bd 7 a → TS.Bd 7 b → a ≤ b → TS.code 7 a ≤ TS.code 7 b
  | [], [], _, _, _, _ => Int.le_refl _
  | [], _ :: _, h, _, _, _ => by cases h
  | _ :: _, [], h, _, _, _ => by cases h
  | x :: a, y :: b, h, ha, hb, e => by
    have hl : a.length = b.length := by simpa using h
    rcases List.cons_le_cons_iff.mp e with c | ⟨c, e2⟩
    · exact Int.le_of_lt (TS.code_lt hl ha.tail hb.tail c)
    · have := code_mono hl ha.tail hb.tail e2
      show x * 7 ^ a.length + TS.code 7 a ≤ y * 7 ^ b.length + TS.code 7 b
      rw [c, hl]
      omega
def pD (p : Addr × Row) : PyData := rowD p.2
theorem le_pD : dataLe false pD = fun p q => decide (p.2 ≤ q.2) := by
  funext p q
  show (!dataLt (rowD q.2) (rowD p.2)) = _
  unfold rowD
  rw [dataLt_tuple]
  show (!rowLt (q.2.map .int) (p.2.map .int)) = _
  rw [dataLt_ints]
  by_cases h : q.2 < p.2
  · have h' : ¬ p.2 ≤ q.2 := fun r => List.not_lt.mpr r h
    simp [h, h']
  · have h' : p.2 ≤ q.2 := List.not_lt.mp h
    simp [h, h']
theorem sort_pD (L : RL) : (L.mergeSort (dataLe false pD)).Perm L ∧ (L.mergeSort (dataLe false pD)).Pairwise fun p q => p.2 ≤ q.2 := by
  refine ⟨List.mergeSort_perm _ _, ?_⟩
  rw [le_pD]
  have h := List.pairwise_mergeSort (le := fun p q : Addr × Row => decide (p.2 ≤ q.2)) (fun a b c h1 h2 => ?_) (fun a b => ?_) L
  · exact h.imp fun h => of_decide_eq_true h
  · exact decide_eq_true (List.le_trans (of_decide_eq_true h1) (of_decide_eq_true h2))
  · rcases List.le_total a.2 b.2 with h | h
    · simp [h]
    · simp [h]
theorem reads_ints {h : Heap} : ∀ {k : List Int} {vs : List Value}, IntsAre vs k → ReadsAll h vs (k.map PyData.int) []
  | _, _, .nil => .nil
  | _, _, .cons i t r => .cons (as := []) (bs := []) (.int i t) (reads_ints r)
section
variable {P : Program} {w : World} {A : Around} {E : Value → Shared → Prop} {s : Shared}
theorem reads_row {h : Heap} {k : List Int} {b : Addr} (x : IsT P w h k b) : Reads h (.ref b) (rowD k) [] := by
  obtain ⟨o, items, n, ho, hc, hd, hi⟩ := x
  exact .tuple ho hc hd (reads_ints (ints_of_items hi))
theorem alike_rows (p q : Addr × Row) : alike (pD p) (pD q) = true := by
  show alike (.tuple (p.2.map .int)) (.tuple (q.2.map .int)) = true
  have := alike_ints p.2 q.2
  simpa [alike] using this
variable {a : Addr} {L : RL} {es : Array (Int × Value)} {ep : Nat} {t : SetTable}
theorem sorted_setX {Q : Value → Shared → Prop} (R : SetTX P w s.heap a L es ep t) (hh : A.handled = none) (hu : A.units + 64 < cLine) (hd : ∀ p, p ∈ L → p.2 ≠ [])
    (hQ : ∀ s' p (out : Array Value) (c : Nat) (M : RL), (∀ b o, s.heap.get? b = some o → s'.heap.get? b = some o) → s'.gens = s.gens → s'.os = s.os → s.heap.objs.size ≤ p →
      s'.heap.get? p = some (seqObj "list" out c) → out.toList = M.map (fun q => Value.ref q.1) → M.Perm L → (M.Pairwise fun q r => q.2 ≤ r.2) → Q (.ref p) s') :
    wpAny (model P w) A (call (.builtin "sorted") [.ref a]) Q E s := by
  obtain ⟨o, ho, hex, hdt⟩ := R.xob
  have hsz := R.sizeX
  have hfew := R.xfew
  refine Calls.call_function_entry kind_sorted plain_sorted entry_sorted (args_sorted1 _) ?_
  unfold Builtin.«sorted»
  refine wpAny_bind (m := checkCount "sorted" 1 1 _) (wpAny_pure ?_)
  refine wpAny_bind (collect_set (A := A.in1) hh ⟨o, ho, hex.1, hdt⟩ R.fitsX (by unfold scanBound; omega) R.xtab.ris R.xled fun s1 vs k1 hz g1 o1 pm => ?_)
  have hes : es.toList.map (·.2) = L.map fun q => Value.ref q.1 := by
    rw [R.xrows]
    unfold L2.rowsOf
    rw [List.map_map] <;> rfl
  rw [hes] at pm
  have ord : ∀ vs : List Value, (∀ v, v ∈ vs → ∃ q, q ∈ L ∧ v = Value.ref q.1) → ∃ M : RL, vs = M.map (fun q => Value.ref q.1) ∧ ∀ q, q ∈ M → q ∈ L := by
    intro vs
    induction vs with
    | nil => exact fun _ => ⟨[], rfl, fun q hq => nomatch hq⟩
    | cons v vs ih =>
      intro hv
      obtain ⟨q, hq, e⟩ := hv v List.mem_cons_self
      obtain ⟨M, e1, hs⟩ := ih fun u hu => hv u (List.mem_cons_of_mem _ hu)
      refine ⟨q :: M, by rw [List.map_cons, e, e1], fun r hr => ?_⟩
      rcases List.mem_cons.mp hr with z | z
      · rw [z]; exact hq
      · exact hs r z
  have one : ∀ q, q ∈ L → ∀ r, r ∈ L → q.1 = r.1 → q = r := fun q hq r hr e => by
    have a1 := R.xtup q hq
    have a2 := R.xtup r hr
    rw [e] at a1
    exact Prod.ext e (a1.inj a2)
  obtain ⟨M, rfl, hML⟩ := ord vs fun v hv => by
    obtain ⟨q, hq, e⟩ := List.mem_map.mp (pm.mem_iff.mp hv)
    exact ⟨q, hq, e.symm⟩
  have pM : M.Perm L := by
    have nL : L.Nodup := nodup_of_map R.xnd
    have nref : (L.map fun q => Value.ref q.1).Nodup :=
      List.pairwise_map.mpr (List.Pairwise.imp_of_mem (fun {q r} hq hr hne e => hne (one q hq r hr (by injection e))) nL)
    refine (List.perm_ext_iff_of_nodup (nodup_of_map (pm.nodup_iff.mpr nref)) nL).mpr fun q => ⟨hML q, fun hq => ?_⟩
    obtain ⟨r, hr, e⟩ := List.mem_map.mp (pm.mem_iff.mpr (List.mem_map.mpr ⟨q, hq, rfl⟩))
    injection e with e
    rw [← one r (hML r hr) q hq e]
    exact hr
  have lM : M.length ≤ 64 := by rw [pM.length_eq]; exact hfew
  refine wpAny_bind (wpAny_newList ?_ (by show _ ≤ sizeLine; rw [List.length_map]; exact Nat.le_trans lM (by decide)))
  have hoL : (s1.heap.push (seqObj "list" (M.map fun q => Value.ref q.1).toArray 0)).get? s1.heap.objs.size = some (seqObj "list" (M.map fun q => Value.ref q.1).toArray 0) := Heap.get?_push_size _ rfl
  have tk : ∀ q, q ∈ M → Reads (s1.heap.push (seqObj "list" (M.map fun q => Value.ref q.1).toArray 0)) (.ref q.1) (pD q) [] := fun q hq => reads_row (isT_keep (R.xtup q (hML q hq)) fun b u e => Heap.get?_push_of_some _ (k1 b u e))
  have each : ∀ {Rel : Value → (Addr × Row) → Prop} (N : RL), (∀ q, q ∈ N → Rel (.ref q.1) q) → EachIs Rel (N.map fun q => Value.ref q.1) N := fun {Rel} N => by
    induction N with
    | nil => exact fun _ => .nil
    | cons q N ih => exact fun h => .cons (h q List.mem_cons_self) (ih fun r hr => h r (List.mem_cons_of_mem _ hr))
  refine wpAny_bind (wpAny_holding (list_sort_data (s := { s1 with heap := s1.heap.push (seqObj "list" (M.map fun q => Value.ref q.1).toArray 0) }) (R := fun v q => v = Value.ref q.1) (enc := pD) hoL (each M fun _ _ => rfl) (each M fun q hq => ⟨[], tk q hq, fun z => nomatch z⟩)
    (AllAlike.of alike_rows) (.inl fun d hd' => ?_) (Nat.le_trans lM (by decide)) (fun q _ => ?_) fun out e1 e2 => ?_))
  · obtain ⟨q, hq, rfl⟩ := List.mem_map.mp hd'
    cases e : q.2 with
    | nil => exact absurd e (hd q (hML q hq))
    | cons x r => exact ⟨.int x, r.map .int, by unfold pD rowD; rw [e]; rfl⟩
  · have := row_depth q.2
    show A.units + 1 + 1 + (rowD q.2).depth < cLine
    omega
  · obtain ⟨c, hc⟩ := sortedHeap_at (vs := M.map fun q => Value.ref q.1) (out := out.toArray) hoL
    have eo : out = (M.mergeSort (dataLe false pD)).map fun q => Value.ref q.1 := by
      have : ∀ {us : List Value} {N : RL}, EachIs (fun v q => v = Value.ref q.1) us N → us = N.map fun q => Value.ref q.1 := fun {us N} h => by
        induction h with
        | nil => rfl
        | cons h _ ih => rw [h, ih]; rfl
      exact this e2
    obtain ⟨p1, p2⟩ := sort_pD M
    refine wpAny_pure ⟨_, rfl, hQ _ s1.heap.objs.size out.toArray c _ (fun b u e => ?_) g1 o1 hz hc (by rw [eo]) (p1.trans pM) p2⟩
    have q := k1 b u e
    have hlt := Heap.lt_size q
    show (sortedHeap (s1.heap.push (seqObj "list" (M.map fun q => Value.ref q.1).toArray 0)) s1.heap.objs.size _ _).get? b = some u
    rw [sortedHeap_old (Nat.ne_of_lt hlt) (by rw [size_push']; exact Nat.lt_succ_of_lt hlt)]
    exact Heap.get?_push_of_some _ q
end
end K71
set_option Elab.async false
set_option linter.all false
set_option maxRecDepth 100000
set_option maxHeartbeats 4000000
/-! k71: set and sorted of up to sixty-four tuples, for the walk. -/
namespace K71
open PySem PySem.W PySem.Spec PyProof.Rows L2 PySem.Calls
structure SetX0 (P : Program) (w : World) (h : Heap) (a : Addr) (L : RL) : Prop where
  ex : ∃ (es : Array (Int × Value)) (ep : Nat) (t : SetTable), (∃ o, h.get? a = some o ∧ o.ExactSet ∧ o.data = .set es ep t) ∧ es.toList = L2.rowsOf P w L ∧ TabOk t (L.map fun p => thash P w p.2) ∧ (L.map (·.2)).Nodup ∧ t.plain = true ∧
    (w.params.followText "set-order" = true ∨ t.led = true) ∧ L.length * 5 < t.mask * 3 ∧ L.length ≤ 64
def SetXO (P : Program) (w : World) (a : Addr) (L : RL) : HO := .ext fun h => SetX0 P w h a L
theorem SetTX.x0 {P : Program} {w : World} {h : Heap} {a : Addr} {L : RL} {es : Array (Int × Value)} {ep : Nat} {t : SetTable} (R : SetTX P w h a L es ep t) : SetX0 P w h a L :=
  ⟨es, ep, t, R.xob, R.xrows, R.xtab, R.xnd, R.xplain, R.xled, R.xroom, R.xfew⟩
theorem SetX0.full {P : Program} {w : World} {h : Heap} {a : Addr} {L : RL} (R : SetX0 P w h a L) (ht : ∀ p, p ∈ L → IsT P w h p.2 p.1) : ∃ es ep t, SetTX P w h a L es ep t := by
  obtain ⟨es, ep, t, h1, h2, h3, h4, h5, h6, h7, h8⟩ := R.ex
  exact ⟨es, ep, t, h1, h2, h3, h4, ht, h5, h6, h7, h8⟩
theorem setXO_new {P : Program} {w : World} {H : Hp} {h : Heap} {a : Addr} {L : RL} (R : SetX0 P w h a L) : ObjOk P w H h a (SetXO P w a L) := by
  have ⟨es, ep, t, ⟨o, ho, r⟩, q⟩ := R.ex
  refine ⟨R, ⟨o, ho⟩, fun h1 h2 p k => ?_⟩
  have ⟨es', ep', t', ⟨o', ho', r'⟩, q'⟩ := SetX0.ex p
  exact ⟨es', ep', t', ⟨o', k o' ho', r'⟩, q'⟩
section
variable {X : Cx}
def rSetX (P : Program) (w : World) : List V → Hp → VK → Prop := fun xs H Q => ∃ (l : Addr) (L : RL), xs = [V.ref l] ∧ H l = some (.lst (refs L)) ∧ AllAt H L ∧ L.length ≤ 64 ∧
  ∀ a (M : RL), H a = none → (∀ p, p ∈ M → p ∈ L) → (∀ r, r ∈ rws L → r ∈ rws M) → Q (.ref a) (upd H a (SetXO P w a M))
theorem refs_eq (L : RL) : refs L = L.map fun p => V.ref p.1 := rfl
theorem cr_setX (hc : X.calm = true) (hu : X.A.units + 64 < cLine) : CallR X (.type "set") (rSetX X.prog X.w) := by
  intro pins s σ H xs us Q I r h
  obtain ⟨l, L, rfl, hl, hA, hf, q⟩ := h
  rw [Vals.ref1 r]
  obtain ⟨its, rv, pl, hz⟩ := I.list (SqL.of hl)
  have hn : H s.heap.objs.size = none := I.hok.fresh (Nat.le_refl _)
  refine call_setX (P := X.prog) (w := X.w) L (I.ok.hd hc) pl.isList (by simpa using refs_of_vals rv) (fun p hp => I.isT (SqT.of (hA p hp))) hf (by omega) fun h' tk M es ep t R g k => ?_
  refine ⟨.ref s.heap.objs.size, upd H s.heap.objs.size (SetXO X.prog X.w s.heap.objs.size M), I.laid (t' := tk) k (Nat.le_refl _) (setXO_new R.x0), rfl, q _ M hn (fun p hp => ?_) fun r hr => ?_⟩
  · exact List.mem_of_mem_take (g.sub p hp)
  · obtain ⟨p, hp, rfl⟩ := List.mem_map.mp hr
    exact g.all p (by rw [List.take_length]; exact hp)
def rSortX (P : Program) (w : World) : List V → Hp → VK → Prop := fun vs H Q => ∃ (a : Addr) (L : RL) (d : Nat), vs = [V.ref a] ∧ H a = some (SetXO P w a L) ∧ AllAt H L ∧ 1 ≤ d ∧ (∀ r, r ∈ rws L → r.length = d ∧ TS.Bd 7 r) ∧
  ∀ (M : RL) (p : Addr), M.Perm L → M.length ≤ 64 → Asc (rws M) → H p = none → Q (.ref p) (upd H p (.lst (refs M)))
theorem cr_sortX (hc : X.calm = true) (hu : X.A.units + 64 < cLine) : CallR X (.builtin "sorted") (rSortX X.prog X.w) := by
  intro pins s σ H vs us Q I r h
  obtain ⟨a, L, d, rfl, ha, hA, hd, hB, q⟩ := h
  have R0 : SetX0 X.prog X.w s.heap a L := (I.hok a _ ha).1
  obtain ⟨es, ep, t, R⟩ := R0.full fun p hp => I.isT (SqT.of (hA p hp))
  have inr : ∀ p : Addr × Row, p ∈ L → p.2 ∈ rws L := fun p hp => List.mem_map.mpr ⟨p, hp, rfl⟩
  rw [Vals.ref1 r]
  refine sorted_setX R (I.ok.hd hc) hu (fun p hp e => by have := (hB p.2 (inr p hp)).1; rw [e] at this; simp at this; omega) fun s' p out c M k g o hp hg hout pm pw => ?_
  have lM : M.length ≤ 64 := by rw [pm.length_eq]; exact R.xfew
  have hlen : (refs M).length ≤ sizeLine := by
    show (M.map fun q => V.ref q.1).length ≤ sizeLine
    rw [List.length_map]
    exact Nat.le_trans lM (by decide)
  have hn : H p = none := I.hok.fresh hp
  have hv : Vals (refs M) out.toList := by rw [hout]; exact vals_of_refs M
  have J : Inv X pins σ (upd H p (.lst (refs M))) { s with heap := s'.heap, gens := s'.gens, drawn := s'.drawn, toks := s'.toks } :=
    I.call (ch := []) (Un.laid k hp hn) (I.hok.laid k hp ⟨hlen, out.toList, c, hv, hg⟩) (by rw [g]; exact I.bare) (fun _ z => nomatch z)
  have e : s' = { s with heap := s'.heap, gens := s'.gens, drawn := s'.drawn, toks := s'.toks } := by
    cases s'
    cases s
    cases o
    rfl
  rw [e]
  have bd : ∀ p, p ∈ M → p.2.length = d ∧ TS.Bd 7 p.2 := fun p hp => hB p.2 (inr p (pm.mem_iff.mp hp))
  refine ⟨.ref p, _, J, rfl, q M p pm lM (asc_of (d := d) (List.Pairwise.imp_of_mem (fun {x y} hx hy h => ?_) pw) ((pm.map (·.2)).nodup_iff.mpr R.xnd) bd) hn⟩
  exact code_mono ((bd x hx).1.trans (bd y hy).1.symm) (bd x hx).2 (bd y hy).2 h
end
end K71
set_option Elab.async false
set_option linter.all false
set_option maxRecDepth 100000
set_option maxHeartbeats 4000000
namespace K71
open PySem PySem.W PySem.Spec PyProof.Rows L2
theorem blk_in {X : Cx} {N : List Str} {sc0 scO scI : Scope} {own : List (Str × Nat)} {s : Shared} {H : Hp} {cl : List (Str × Addr)} {C : Addr} {fp : List Addr} (h : blkC N (relS scO sc0) scI own = true) (e : X.env.scope = sc0 := by rfl) :
    BlkOk N (X.blk s H scO (compEnvC scO cl C X.env) fp).env.scope scI own := by
  subst e
  exact blkOk_by h
/-- [a drawn row for ..] -/
theorem lc_rows {J : It} {n : Nat} {G : Hp → Prop} {Y : Nat → Hp → V → Hp → Prop} (wk : Walk J n G Y) (Pr : Row → Prop) {te : TE} {vs : List Nat} {j : Nat} {σ : L2.St} {H : Hp} {D h c : Addr} {Qd : Hp → Prop} (hD : H D = none) (hn : n ≤ 1000) (hA : HandAt H h c) (hG : ∀ H', But h H H' → G H')
    (hw : ∀ x, wipe ((wipe σ vs).set j (some x)) vs = wipe σ vs) 
    (hte : ∀ i x H1 H2 (R : VK), i < n → But h H H1 → HandAt H1 h c → Y i H1 x H2 → (∀ u r H4, Pr r → But h H1 H4 → HandAt H4 h c → H4 u = some (.tup (rowV r)) → R (.ref u) H4) → te ((wipe σ vs).set j (some x)) H2 R)
    (done : ∀ H' (L : RL), But h H H' → HandAt H' h c → H' D = some (.lst (refs L)) → AllAt H' L → L.length = n → (∀ r, r ∈ rws L → Pr r) → Qd H') :
    ∃ W : Nat → Nat → Hp → Prop, (∃ m, W 0 m (upd H D (.lst []))) ∧ ∀ k m H, W k m H →
      (J.stop k H ∧ Qd H) ∨ (J.go k H ∧ ∃ Nx : Hp → Prop, (∀ H', Nx H' → ∃ m', m' < m ∧ W (k + 1) m' H') ∧ ∀ x H', J.yld k H x H' → gName j x (wipe σ vs) H' fun σ2 H2 => wipe σ2 vs = wipe σ vs ∧ tYes σ2 H2 fun b H3 =>
        if b = true then te σ2 H3 fun y H4 => ∃ acc, H4 D = some (.lst acc) ∧ acc.length < sizeLine ∧ Nx (upd H4 D (.lst (acc ++ [y]))) else Nx H3) := by
  obtain ⟨⟨xh, eh⟩, ⟨xc, ec⟩⟩ := hA.some
  have nh : h ≠ D := ne_of_none eh hD
  have nc : c ≠ D := ne_of_none ec hD
  refine lc_it wk (fun k H' => But h H H' ∧ HandAt H' h c ∧ ∃ L : RL, H' D = some (.lst (refs L)) ∧ AllAt H' L ∧ L.length = k ∧ ∀ r, r ∈ rws L → Pr r) ⟨.of_same (same_new hD), hA.upd nh nc, [], upd_same, (fun p hp => nomatch hp), rfl, fun r hr => nomatch hr⟩ (fun k H' _ p => hG H' p.1) ?_ (fun H' p => ?_)
  · rintro k x H1 H2 hk ⟨b1, a1, L, hL, A1, lL, gL⟩ hy
    refine ⟨hw x, ?_⟩
    show te _ H2 _
    refine hte k x H1 H2 _ hk b1 a1 hy fun u r H4 hr b4 a4 eu => ?_
    have h4 := b4 _ _ hL nh.symm
    refine ⟨refs L, h4, by rw [refs_len, lL]; exact Nat.lt_of_le_of_lt (Nat.le_trans (Nat.le_of_lt hk) hn) (by decide), ?_⟩
    have tu : Tups H4 (upd H4 D (.lst (refs L ++ [.ref u]))) := .setL h4
    refine ⟨fun b o e nb => ?_, a4.upd nh nc, L ++ [(u, r)], by rw [upd_same, refs_snoc], fun p hp => ?_, by rw [List.length_append, lL]; rfl, fun r' hr' => ?_⟩
    · rw [upd_ne (ne_of_none e hD)]
      exact b4 _ _ (b1 _ _ e nb) nb
    · rcases List.mem_append.mp hp with hp | hp
      · obtain ⟨⟨ys, ey⟩, _⟩ := a1.some
        exact tu _ _ (b4 _ _ (A1 p hp) (ne_of (A1 p hp) ey (fun z => nomatch z)))
      · rw [List.mem_singleton.mp hp]
        exact tu _ _ eu
    · rw [rws_snoc] at hr'
      rcases List.mem_append.mp hr' with hr' | hr'
      · exact gL r' hr'
      · rw [List.mem_singleton.mp hr']
        exact hr
  · obtain ⟨b1, a1, L, hL, A1, lL, gL⟩ := p
    exact done H' L b1 a1 hL A1 lL gL
theorem rep_ans {n : Nat} {v : Int} {i : Nat} (h : i < n) : ans (List.replicate n v) i = v := by
  unfold ans
  rw [List.getD_eq_getElem?_getD, List.getElem?_replicate, if_pos h]
  rfl
theorem natRow_rep (n k : Nat) : natRow (List.replicate n k) = List.replicate n (k : Int) := by
  unfold natRow
  rw [List.map_replicate]
theorem prod_rep : ∀ (n k : Nat), prodN (List.replicate n k) = k ^ n
  | 0, _ => rfl
  | n + 1, k => by
    rw [List.replicate_succ, Nat.pow_succ, Nat.mul_comm]
    show k * prodN (List.replicate n k) = _
    rw [prod_rep n k]
section
variable {P : Program} {w : World} {K : PySem.W.Frag} {mg : Str → Option Value} {base : Heap}
/-! ### l_great -/
def spGreat : Sp := fun vs H Q _ => ∃ (h c : Addr), vs = [.ref h] ∧ HandAt H h c ∧
  ∀ x b a (sz : Row) (L : RL) H', H x = none → But h H H' → HandAt H' h c → H' x = some (.tup [.ref b, .ref a]) → H' b = some (.tup (rowV sz)) → 1 ≤ sz.length → sz.length ≤ 6 → (∀ i, i < sz.length → 1 ≤ ans sz i ∧ ans sz i ≤ 6) → H b = none → H a = none →
    H' a = some (.lst (refs L)) → AllAt H' L → 1 ≤ L.length → L.length ≤ 64 → (∀ r, r ∈ rws L → InR sz r) → Asc (rws L) → Q (.ref x) H'
theorem k_l_great (B : Bi mg) (D : Placed K mg "_law_great" s_l_great p_l_great) (CD : Kept P w K mg base CX0 1 "_law_draw" p_l_draw spDraw) (CA : Kept P w K mg base CX0 1 "_law_all" p_l_all (spAll K)) (CP : Kept P w K mg base CX0 2 "_law_span" p_l_span spSpan) : Kept P w K mg base CX0 3 "_law_great" p_l_great spGreat := by
  obtain ⟨fD, fdD, GD, mD, kD, bD⟩ := CD
  obtain ⟨fA, fdA, GA, mA, kA, bA⟩ := CA
  obtain ⟨fP, fdP, GP, mP, kP, bP⟩ := CP
  refine D.keep fun f fd F => F.ok sc_l_great (fun vs H Q E h => ?_) (fun cdv A outer s H vs Q E hr h => ?_)
  · obtain ⟨h, c, rfl, _⟩ := h
    rfl
  · obtain ⟨hh, c, rfl, hA, q⟩ := h
    have hr1 : Room 1 _ := hr.mono (by decide)
    refine ⟨_, pss_cons (ps_set (i := 1) sc_l_great.nd rfl (Or.inl rfl) (pe_call GD hr1 rfl mD kD bD .nil pass0 (pa_cons (pv 0) (pa_cons pe_int pa_nil))))
      (pss_cons (ps_set (i := 2) sc_l_great.nd rfl (Or.inr rfl) (pe_add pe_int (pe_call GD hr1 rfl mD kD bD .nil pass0 (pa_cons (pv 0) (pa_cons pe_int pa_nil)))))
      (pss_cons (ps_set (i := 3) sc_l_great.nd rfl (Or.inl rfl) (pe_op op_rep (pe_lst (pa_cons pe_int pa_nil)) (pv 2)))
      (Evl.pss_cut (ps_if (pt_cmpR op_eq (pv 1) pe_int (nomark _))
        (pss_cons (ps_set (i := 3) sc_l_great.nd rfl (Or.inl rfl) (pe_op op_rep (pe_lst (pa_cons pe_int pa_nil)) (pv 2)))
        (pss_one (ps_setLc (i := 4) (own := [("_law_turn", 6)]) (g := gName 6) (by rfl) sc_l_great.nd rfl rfl (sw_true rfl rfl rfl (by decide +kernel)) (pi_range1 (by rfl) B.range (pa_cons (pe_add pe_int (pe_call GD hr1 rfl mD kD bD .nil pass0 (pa_cons (pv 0) (pa_cons pe_int pa_nil)))) pa_nil)) (blkOk_by (N := n_l_great) (sc := defScope s_l_great) (by decide +kernel)) (fun _ _ _ _ _ => pg_name (i := 6) sc_l_great.nd rfl (Or.inl rfl)) (fun _ _ _ _ _ => pts_nil)
          (fun _ _ _ _ _ => pe_callTy (callTup (K := K)) (by rfl) B.tuple PyProof.Rows.boot_tuple (pa_cons
            (pe_lc (own := [("_law_place", 5)]) (g := gName 5) (by rfl) sc_l_great.nd (pi_range1 (by rfl) B.range (pa_cons (pv 2) pa_nil)) (blk_in (N := n_l_great) (sc0 := defScope s_l_great) (by decide +kernel)) (fun _ _ _ _ _ => pg_name (i := 5) sc_l_great.nd rfl (Or.inl rfl)) (fun _ _ _ _ _ => pts_nil)
              (fun _ _ _ _ _ => pe_call GD hr1 rfl mD kD bD .nil pass0 (pa_cons (pv 0) (pa_cons pe_int pa_nil)))) pa_nil)))))
        (pss_one (ps_if (pt_cmpR op_eq (pv 1) pe_int (nomark _))
          (pss_one (ps_set (i := 4) sc_l_great.nd rfl (Or.inl rfl) (pe_call GA hr1 rfl mA kA bA .nil pass0 (pa_cons (pv 3) pa_nil))))
          (pss_one (ps_if (pt_cmpR op_eq (pv 1) pe_int (nomark _))
            (pss_cons (ps_set (i := 3) sc_l_great.nd rfl (Or.inl rfl) (pe_lst (pa_cons pe_int (pa_cons (pe_add pe_int (pe_call GD hr1 rfl mD kD bD .nil pass0 (pa_cons (pv 0) (pa_cons pe_int pa_nil)))) (pa_cons pe_int pa_nil)))))
            (pss_one (ps_set (i := 4) sc_l_great.nd rfl (Or.inl rfl) (pe_slice sl_list (pe_call GA hr1 rfl mA kA bA .nil pass0 (pa_cons (pv 3) pa_nil)) (po_some (pe_call GD hr1 rfl mD kD bD .nil pass0 (pa_cons (pv 0) (pa_cons pe_int pa_nil)))) po_none))))
            (pss_one (ps_set (i := 4) sc_l_great.nd rfl (Or.inl rfl) (pe_op op_cat (pe_call GP hr rfl mP kP bP .nil pass0 (pa_cons (pv 0) (pa_cons (pv 2) (pa_cons pe_int pa_nil))))
              (pe_op op_rep (pe_lst (pa_cons (pe_callTy callTup (by rfl) B.tuple PyProof.Rows.boot_tuple (pa_cons
                (pe_lc (own := [("_law_place", 5)]) (g := gName 5) (by rfl) sc_l_great.nd (pi_range1 (by rfl) B.range (pa_cons (pv 2) pa_nil)) (blkOk_by (N := n_l_great) (sc := defScope s_l_great) (by decide +kernel)) (fun _ _ _ _ _ => pg_name (i := 5) sc_l_great.nd rfl (Or.inl rfl)) (fun _ _ _ _ _ => pts_nil)
                  (fun _ _ _ _ _ => pe_call GD hr1 rfl mD kD bD .nil pass0 (pa_cons (pv 0) (pa_cons pe_int pa_nil)))) pa_nil)) pa_nil)) (pe_call GD hr1 rfl mD kD bD .nil pass0 (pa_cons (pv 0) (pa_cons pe_int pa_nil))))))))))))
      (pss_one (ps_ret (pe_tup (pa_cons (pe_callTy callTup (by rfl) B.tuple PyProof.Rows.boot_tuple (pa_cons (pv 3) pa_nil)) (pa_cons (pe_callB (cr_sortX (by rfl) hr.units) (by rfl) B.sorted PyProof.Rows.boot_sorted (pa_cons (pe_callTy (cr_setX (by rfl) hr.units) (by rfl) B.set PyProof.Rows.boot_set (pa_cons (pv 4) pa_nil)) pa_nil)) pa_nil)))))))), ?_⟩
    obtain ⟨⟨xh, eh⟩, _⟩ := hA.some
    have nhD : ∀ {z : Addr}, H z = none → z ≠ hh := fun e => (ne_of_none eh e).symm
    have back : ∀ {Hx : Hp} {z : Addr}, But hh H Hx → HandAt Hx hh c → Hx z = none → H z = none := fun {Hx z} b a e => by
      refine b.fresh e fun zz => ?_
      obtain ⟨⟨ys, ey⟩, _⟩ := a.some
      rw [zz, ey] at e
      cases e
    have tupB : ∀ {H1 H2 : Hp} {M : RL}, But hh H1 H2 → HandAt H1 hh c → AllAt H1 M → AllAt H2 M := fun b a m p hp => b _ _ (m p hp) (by
      obtain ⟨⟨ys, ey⟩, _⟩ := a.some
      exact ne_of (m p hp) ey (fun z => nomatch z))
    refine ⟨_, rfl, hh, c, 4, rfl, hA, by decide, by decide, fun wy H1 w0 w1 b1 a1 => ?_⟩
    refine ⟨_, rfl, hh, c, 2, rfl, a1, by decide, by decide, fun d H2 d0 d1 b2 a2 => ⟨5, d, rfl, rfl, ?_⟩⟩
    obtain ⟨n, hn⟩ : ∃ n : Nat, 5 + d = n := ⟨(5 + d).toNat, by omega⟩
    rw [hn]
    have n5 : 5 ≤ n := by omega
    have n6 : n ≤ 6 := by omega
    have b02 := b1.trans b2
    refine ⟨by show 1 ≤ sizeLine; decide, fun l1 nl1 => ⟨_, rfl, l1, (n : Int), [V.int 2], rfl, rfl, upd_same, by omega, by omega, ?_, fun sa nsa => ?_⟩⟩
    · show 1 * (n : Int).toNat ≤ sizeLine
      exact Nat.le_trans (show 1 * (n : Int).toNat ≤ 100 by omega) (by decide)
    have s4 := same_new (o := .lst [V.int 2]) nl1
    have erep : ∀ v : Nat, (List.replicate (n : Int).toNat [V.int (v : Int)]).flatten = rowV (List.replicate n (v : Int)) := fun v => by
      rw [flat_one]
      unfold rowV
      rw [List.map_replicate]
      rfl
    rw [show V.int 2 = V.int ((2 : Nat) : Int) from rfl, erep 2]
    have s5 := same_new (o := .lst (rowV (List.replicate n ((2 : Nat) : Int)))) nsa
    have b05 : But hh H (upd (upd H2 l1 (.lst [V.int 2])) sa (.lst (rowV (List.replicate n ((2 : Nat) : Int))))) := (b02.then s4).then s5
    have a5 := (a2.same s4).same s5
    have esa : (upd (upd H2 l1 (.lst [V.int 2])) sa (.lst (rowV (List.replicate n ((2 : Nat) : Int))))) sa = some (.lst (rowV (List.replicate n ((2 : Nat) : Int)))) := upd_same
    have nsa0 : H sa = none := back b02 a2 (s4.free nsa)
    rw [show (2 : Int) = ((2 : Nat) : Int) from rfl] at b05 a5 esa
    generalize (upd (upd H2 l1 (.lst [V.int ((2 : Nat) : Int)])) sa (.lst (rowV (List.replicate n ((2 : Nat) : Int))))) = H5 at b05 a5 esa ⊢
    refine ⟨fun σ H' => ∃ sa ra x5 x6, ∃ (sz : Row) (L : RL), σ = [some (.ref hh), some (.int wy), some (.int n), some (.ref sa), some (.ref ra), x5, x6] ∧ But hh H H' ∧ HandAt H' hh c ∧ H' sa = some (.lst (rowV sz)) ∧ H' ra = some (.lst (refs L)) ∧ AllAt H' L ∧ 1 ≤ L.length ∧ L.length ≤ 64 ∧
      1 ≤ sz.length ∧ sz.length ≤ 6 ∧ (∀ i, i < sz.length → 1 ≤ ans sz i ∧ ans sz i ≤ 6) ∧ ∀ r, r ∈ rws L → InR sz r, ?_, ?_⟩
    · refine ⟨_, rfl, rfl, _, rfl, ?_⟩
      rw [dec_int]
      cases c0 : wy == 0 with
      | true =>
        refine iteT ?_
        -- way 0
        refine ⟨by show 1 ≤ sizeLine; decide, fun l2 nl2 => ⟨_, rfl, l2, (n : Int), [V.int 6], rfl, rfl, upd_same, by omega, by omega, ?_, fun sb nsb => ?_⟩⟩
        · show 1 * (n : Int).toNat ≤ sizeLine
          exact Nat.le_trans (show 1 * (n : Int).toNat ≤ 100 by omega) (by decide)
        have s6 := same_new (o := .lst [V.int 6]) nl2
        rw [show V.int 6 = V.int ((6 : Nat) : Int) from rfl, erep 6]
        have s7 := same_new (o := .lst (rowV (List.replicate n ((6 : Nat) : Int)))) nsb
        have b07 : But hh H (upd (upd H5 l2 (.lst [V.int 6])) sb (.lst (rowV (List.replicate n ((6 : Nat) : Int))))) := (b05.then s6).then s7
        have a7 := (a5.same s6).same s7
        have esb : (upd (upd H5 l2 (.lst [V.int 6])) sb (.lst (rowV (List.replicate n ((6 : Nat) : Int))))) sb = some (.lst (rowV (List.replicate n ((6 : Nat) : Int)))) := upd_same
        have nsb0 : H sb = none := back b05 a5 (s6.free nsb)
        rw [show (6 : Int) = ((6 : Nat) : Int) from rfl] at b07 a7 esb
        generalize (upd (upd H5 l2 (.lst [V.int ((6 : Nat) : Int)])) sb (.lst (rowV (List.replicate n ((6 : Nat) : Int))))) = H7 at b07 a7 esb ⊢
        refine ⟨_, rfl, hh, c, 48, rfl, a7, by decide, by decide, fun t H8 t0 t1 b8 a8 => ⟨17, t, rfl, rfl, 17 + t, rfl, by omega, by omega, fun D hD => ?_⟩⟩
        refine lc_rows (n := (17 + t).toNat) walk_range0 (GoodR n 6) hD (by omega) a8 (fun _ _ => trivial) (fun _ => rfl) (fun i x H9 H10 R hi b9 a9 y qq => ?_) (fun H9 L b9 a9 e9 A9 l9 g9 => ?_)
        · obtain ⟨rfl, rfl⟩ := y
          refine ⟨_, rfl, (n : Int), rfl, by omega, by omega, fun D2 hD2 => ?_⟩
          refine lc_draw (n := n) walk_range0 (tm := tC (.int 6)) (i := 0) (j := 5) (fun _ => 6) hD2 (by omega) a9 (fun _ _ => trivial) (fun _ => rfl) (fun _ => rfl) (fun i x H1 H2 hi b1 y => ⟨y.1, fun R r => r⟩) (fun i hi => ⟨by omega, by omega⟩) (fun H11 r b11 a11 e11 l11 g11 => ?_)
          refine ⟨D2, _, rfl, .inl ⟨SqL.of e11, fun u nu => ?_⟩⟩
          have su := same_new (o := .tup (rowV r)) nu
          exact qq u r _ ⟨l11, g11⟩ (b11.then su) (a11.same su) upd_same
        · refine ⟨sb, D, _, _, _, L, rfl, (b07.trans b8).trans b9, a9, b9 _ _ (b8 _ _ esb (nhD nsb0)) (nhD nsb0), e9, A9, by omega, by omega, by rw [List.length_replicate]; omega, by rw [List.length_replicate]; omega, fun i hi => ?_, fun r hr' => ?_⟩
          · rw [List.length_replicate] at hi
            rw [rep_ans hi]
            decide
          · have g := g9 r hr'
            refine ⟨by rw [List.length_replicate]; exact g.1, fun i hi => ?_⟩
            rw [List.length_replicate] at hi
            rw [rep_ans hi]
            exact g.2 i hi
      | false =>
        refine iteF ?_
        refine ⟨_, rfl, rfl, _, rfl, ?_⟩
        rw [dec_int]
        cases c1 : wy == 1 with
        | true =>
          refine iteT ?_
          -- way 1
          have p64 : prodN (List.replicate n 2) ≤ 64 := by
            rw [prod_rep]
            exact Nat.le_trans (Nat.pow_le_pow_right (by decide) n6) (by decide)
          refine ⟨_, rfl, sa, List.replicate n 2, rfl, by rw [← rowV_nat, natRow_rep]; exact esa, fun s hs => by rw [(List.mem_replicate.mp hs).2]; decide, by rw [List.length_replicate]; omega, p64, fun l L H8 nl s8 e8 A8 eL => ?_⟩
          have lL : L.length = prodN (List.replicate n 2) := by rw [← rws_len, eL, allF_len]; exact Nat.one_mul _
          refine ⟨sa, l, _, _, _, L, rfl, b05.then s8, a5.same s8, s8 _ _ esa, e8, A8, by rw [lL]; exact prodN_pos fun s hs => by rw [(List.mem_replicate.mp hs).2]; decide, by rw [lL]; exact p64, by rw [List.length_replicate]; omega, by rw [List.length_replicate]; omega, fun i hi => ?_, fun r hr' => ?_⟩
          · rw [List.length_replicate] at hi
            rw [rep_ans hi]
            decide
          · rw [eL] at hr'
            have := allF_in _ hr'
            rw [natRow_rep] at this
            exact this
        | false =>
          refine iteF ?_
          refine ⟨_, rfl, rfl, _, rfl, ?_⟩
          rw [dec_int]
          cases c2 : wy == 2 with
          | true =>
            refine iteT ?_
            -- way 2
            refine ⟨_, rfl, hh, c, 6, rfl, a5, by decide, by decide, fun e H6 e0 e1 b6 a6 => ⟨1, e, rfl, rfl, ?_⟩⟩
            obtain ⟨k, hk⟩ : ∃ k : Nat, 1 + e = k := ⟨(1 + e).toNat, by omega⟩
            rw [hk]
            have k1 : 1 ≤ k := by omega
            have k6 : k ≤ 6 := by omega
            refine ⟨by show 3 ≤ sizeLine; decide, fun sb nsb => ?_⟩
            have s7 := same_new (o := .lst [V.int 6, V.int k, V.int 1]) nsb
            have b07 := (b05.trans b6).then s7
            have a7 := a6.same s7
            have nsb0 : H sb = none := back (b05.trans b6) a6 nsb
            have esb : (upd H6 sb (.lst [V.int 6, V.int k, V.int 1])) sb = some (.lst (intsV [6, k, 1])) := upd_same
            generalize (upd H6 sb (.lst [V.int 6, V.int k, V.int 1])) = H7 at b07 a7 esb ⊢
            have hp : prodN [6, k, 1] = 6 * k := by
              show 6 * (k * (1 * 1)) = 6 * k
              rw [show k * (1 * 1) = k from Nat.mul_one k]
            refine ⟨_, rfl, sb, [6, k, 1], rfl, esb, fun s hs => ?_, (show 3 ≤ 10 by omega), by rw [hp]; omega, fun l L H8 nl s8 e8 A8 eL => ?_⟩
            · rcases List.mem_cons.mp hs with rfl | hs
              · decide
              · rcases List.mem_cons.mp hs with rfl | hs
                · exact k1
                · rw [List.mem_singleton.mp hs]
                  exact Nat.le_refl 1
            have lL : L.length = 6 * k := by rw [← rws_len, eL, allF_len, hp]; exact Nat.one_mul _
            refine ⟨_, rfl, hh, c, 3, rfl, a7.same s8, by decide, by decide, fun g H9 g0 g1 b9 a9 => ⟨g, rfl, ?_⟩⟩
            have nl0 : H l = none := back b07 a7 nl
            have e9 := b9 _ _ e8 (nhD nl0)
            have A9 := tupB b9 (a7.same s8) A8
            simp only [tNoPart]
            refine ⟨l, _, rfl, SqL.of e9, fun p np => ?_⟩
            obtain ⟨m, hm⟩ : ∃ m : Nat, g = m := ⟨g.toNat, by omega⟩
            subst hm
            have ecut : cutV (refs L) (some (m : Int)) none = refs (L.drop m) := by
              unfold cutV
              rw [HT.sIx_none, HT.sIx_nat, refs_len, Nat.min_eq_left (by omega), List.take_of_length_le (by rw [List.length_drop, refs_len]; exact Nat.le_refl _)]
              unfold refs
              rw [List.map_drop]
            rw [ecut]
            have s10 := same_new (o := .lst (refs (L.drop m))) np
            have ert : rowV (natRow [6, k, 1]) = intsV [6, k, 1] := rowV_nat _
            refine ⟨sb, p, _, _, natRow [6, k, 1], L.drop m, rfl, ((b07.then s8).trans b9).then s10, a9.same s10, by rw [ert]; exact s10 _ _ (b9 _ _ (s8 _ _ esb) (nhD nsb0)), upd_same, (A9.mono (.of_same s10)).sub (fun q hq => List.mem_of_mem_drop hq), by rw [List.length_drop]; omega, by rw [List.length_drop]; omega, (show 1 ≤ 3 by omega), (show 3 ≤ 6 by omega), fun i hi => ?_, fun r hr' => ?_⟩
            · have hi : i < 3 := hi
              have : i = 0 ∨ i = 1 ∨ i = 2 := by omega
              rcases this with rfl | rfl | rfl
              · show 1 ≤ ((6 : Nat) : Int) ∧ ((6 : Nat) : Int) ≤ 6
                omega
              · show 1 ≤ (k : Int) ∧ (k : Int) ≤ 6
                omega
              · show 1 ≤ ((1 : Nat) : Int) ∧ ((1 : Nat) : Int) ≤ 6
                omega
            · obtain ⟨q, hq, rfl⟩ := List.mem_map.mp hr'
              have hm : q.2 ∈ rws L := mem_rws (List.mem_of_mem_drop hq)
              rw [eL] at hm
              exact allF_in _ hm
          | false =>
            refine iteF ?_
            -- way 3
            refine ⟨_, rfl, _, rfl, hh, c, n, 2, rfl, a5, n6, by decide, by decide, fun l L H6 nl b6 a6 e6 A6 neL l16 g6 => ?_⟩
            refine ⟨_, rfl, (n : Int), rfl, by omega, by omega, fun D hD => ?_⟩
            refine lc_draw (n := n) walk_range0 (tm := tC (.int 2)) (i := 0) (j := 5) (fun _ => 2) hD (by omega) a6 (fun _ _ => trivial) (fun _ => rfl) (fun _ => rfl) (fun i x H1 H2 hi b1 y => ⟨y.1, fun R r => r⟩) (fun i hi => ⟨by omega, by omega⟩) (fun H7 r b7 a7 e7 l7 g7 => ?_)
            refine ⟨D, _, rfl, .inl ⟨SqL.of e7, fun u nu => ?_⟩⟩
            have su := same_new (o := .tup (rowV r)) nu
            refine ⟨by show 1 ≤ sizeLine; decide, fun l2 nl2 => ?_⟩
            have s8 := same_new (o := .lst [V.ref u]) nl2
            have b08 : But hh H (upd (upd H7 u (.tup (rowV r))) l2 (.lst [V.ref u])) := (((b05.trans b6).trans b7).then su).then s8
            have nl0 : H l = none := back b05 a5 nl
            have nl20 : H l2 = none := back (((b05.trans b6).trans b7).then su) (a7.same su) nl2
            have a8 := (a7.same su).same s8
            have el8 := s8 _ _ (su _ _ (b7 _ _ e6 (nhD nl0)))
            have A8 := ((tupB b7 a6 A6).mono (.of_same su)).mono (.of_same s8)
            have eu8 := s8 _ _ (upd_same (H := H7) (a := u) (o := .tup (rowV r)))
            have esa8 := s8 _ _ (su _ _ (b7 _ _ (b6 _ _ esa (nhD nsa0)) (nhD nsa0)))
            have el28 : (upd (upd H7 u (.tup (rowV r))) l2 (.lst [V.ref u])) l2 = some (.lst [V.ref u]) := upd_same
            generalize (upd (upd H7 u (.tup (rowV r))) l2 (.lst [V.ref u])) = H8 at b08 a8 el8 A8 eu8 esa8 el28 ⊢
            refine ⟨_, rfl, hh, c, 2, rfl, a8, by decide, by decide, fun g H9 g0 g1 b9 a9 => ?_⟩
            obtain ⟨m, rfl⟩ : ∃ m : Nat, g = m := ⟨g.toNat, by omega⟩
            refine ⟨l2, (m : Int), [V.ref u], rfl, rfl, b9 _ _ el28 (nhD nl20), by omega, by omega, ?_, fun l3 nl3 => ?_⟩
            · show 1 * (m : Int).toNat ≤ sizeLine
              exact Nat.le_trans (show 1 * (m : Int).toNat ≤ 100 by omega) (by decide)
            have eflat : (List.replicate (m : Int).toNat [V.ref u]).flatten = refs (List.replicate m (u, r)) := by
              rw [flat_one]
              unfold refs
              rw [List.map_replicate]
              rfl
            rw [eflat]
            have s10 := same_new (o := .lst (refs (List.replicate m (u, r)))) nl3
            have e10 := s10 _ _ (b9 _ _ el8 (nhD nl0))
            refine ⟨l, l3, _, _, rfl, rfl, e10, upd_same, ?_, fun l4 nl4 => ?_⟩
            · rw [refs_len, refs_len, List.length_replicate]
              exact Nat.le_trans (show L.length + m ≤ 100 by omega) (by decide)
            have s11 := same_new (o := .lst (refs L ++ refs (List.replicate m (u, r)))) nl4
            have A11 := ((tupB b9 a8 A8).mono (.of_same s10)).mono (.of_same s11)
            have eu11 := s11 _ _ (s10 _ _ (b9 _ _ eu8 (by
              obtain ⟨⟨ys, ey⟩, _⟩ := a8.some
              exact ne_of eu8 ey (fun z => nomatch z))))
            have lpos : 1 ≤ L.length := List.length_pos_iff.mpr neL
            refine ⟨sa, l4, _, _, _, L ++ List.replicate m (u, r), rfl, ((b08.trans b9).then s10).then s11, (a9.same s10).same s11, s11 _ _ (s10 _ _ (b9 _ _ esa8 (nhD nsa0))), ?_, fun p hp => ?_, by rw [List.length_append]; omega, by rw [List.length_append, List.length_replicate]; omega, by rw [List.length_replicate]; omega, by rw [List.length_replicate]; omega, fun i hi => ?_, fun r' hr' => ?_⟩
            · rw [upd_same]
              unfold refs
              rw [List.map_append]
            · rcases List.mem_append.mp hp with hp | hp
              · exact A11 p hp
              · rw [(List.mem_replicate.mp hp).2]
                exact eu11
            · rw [List.length_replicate] at hi
              rw [rep_ans hi]
              decide
            · have g : GoodR n 2 r' := by
                obtain ⟨q, hq, rfl⟩ := List.mem_map.mp hr'
                rcases List.mem_append.mp hq with hq | hq
                · exact g6 _ (mem_rws hq)
                · rw [(List.mem_replicate.mp hq).2]
                  exact ⟨l7, g7⟩
              refine ⟨by rw [List.length_replicate]; exact g.1, fun i hi => ?_⟩
              rw [List.length_replicate] at hi
              rw [rep_ans hi]
              exact g.2 i hi
    rintro σ H10 ⟨sa, ra, x5, x6, sz, L, rfl, b10, a10, e10, r10, A10, l1, l64, z1, z6, hsz, g10⟩
    refine ⟨_, rfl, sa, _, rfl, .inl ⟨SqL.of e10, fun bt nbt => ?_⟩⟩
    have s1 := same_new (o := .tup (rowV sz)) nbt
    refine ⟨_, rfl, ra, L, rfl, s1 _ _ r10, A10.mono (.of_same s1), l64, fun st L0 nst h1 h2 => ?_⟩
    have s2 := same_new (o := SetXO P w st L0) nst
    have s12 := s1.trans s2
    refine ⟨st, L0, sz.length, rfl, upd_same, (A10.mono (.of_same s12)).sub h1, z1, fun r hr' => ?_, fun M p perm lM asc np => ?_⟩
    · obtain ⟨q, hq, rfl⟩ := List.mem_map.mp hr'
      exact inR_bd (g10 _ (mem_rws (h1 q hq))) rfl (fun i hi => (hsz i hi).2)
    · have hM : ∀ q, q ∈ M → q ∈ L := fun q hq => h1 q (perm.mem_iff.mp hq)
      have s3 := same_new (o := .lst (refs M)) np
      have s13 := s12.trans s3
      refine ⟨by show 2 ≤ sizeLine; decide, fun x nx => ?_⟩
      have s4 := same_new (o := .tup [V.ref bt, V.ref p]) nx
      have s14 := s13.trans s4
      have gM : ∀ r, r ∈ rws M → InR sz r := fun r hr' => by
        obtain ⟨q, hq, rfl⟩ := List.mem_map.mp hr'
        exact g10 _ (mem_rws (hM q hq))
      refine q x bt p sz M _ (back (b10.then s13) (a10.same s13) nx) (b10.then s14) (a10.same s14) upd_same (s4 _ _ (s3 _ _ (s2 _ _ upd_same))) z1 z6 hsz (back b10 a10 nbt) (back (b10.then s12) (a10.same s12) np) (s4 _ _ upd_same)
        ((A10.mono (.of_same s14)).sub hM) ?_ lM gM asc
      cases L with
      | nil => exact absurd l1 (by decide)
      | cons p0 L' =>
        have := h2 p0.2 (mem_rws List.mem_cons_self)
        obtain ⟨y, hy, _⟩ := List.mem_map.mp this
        exact List.length_pos_of_mem (perm.mem_iff.mpr hy)
end
end K71
set_option Elab.async false
set_option linter.all false
set_option maxRecDepth 100000
set_option maxHeartbeats 4000000
namespace K71
open PySem PySem.W PySem.Spec PyProof.Rows L2
theorem passE0 {X : Cx} {P : Program} {w : World} : Passes (L2.CX P w) X E0 := fun _ _ _ _ _ _ _ h => by
  obtain ⟨a, B, H', cls, d, _, _, _, _, _, _, _, z⟩ := h
  exact z.elim
theorem opNeR {X : Cx} (hu : X.A.units + 64 < cLine) : OpR X (compareOp .NotEq) (rNeD X.K) := op_neD hu
/-- what is known of Sheet's making -/
def MkSh (P : Program) (w : World) (K : PySem.W.Frag) (mg : Str → Option Value) (base : Heap) (C : Addr) : Prop :=
  ∃ (f : Addr) (fd : FuncData), Mk K C f ∧ FnOk P w K mg base CX0 3 f fd p_sheet_init (spInit K C) ∧ mg "Sheet" = some (.ref C) ∧ Binds K fd p_sheet_init []
theorem cut24 (L : RL) : cutV (refs L) none (some 24) = refs (L.take 24) := by
  unfold cutV
  rw [show (24 : Int) = ((24 : Nat) : Int) from rfl, HT.sIx_none, HT.sIx_nat, List.drop_zero, Nat.sub_zero, refs_len]
  unfold refs
  rw [List.map_take]
  by_cases h : 24 ≤ L.length
  · rw [Nat.min_eq_left h]
  · rw [Nat.min_eq_right (by omega), List.take_of_length_le (by rw [List.length_map]; exact Nat.le_refl _), List.take_of_length_le (by rw [List.length_map]; omega)]
theorem rws_take (L : RL) (k : Nat) : rws (L.take k) = (rws L).take k := by
  unfold rws
  rw [List.map_take]
theorem wid_of {sz : Row} {rs : List Row} (h : ∀ r, r ∈ rs → InR sz r) : Wid sz.length rs := fun r hr => (h r hr).1
section
variable {P : Program} {w : World} {K : PySem.W.Frag} {mg : Str → Option Value} {base : Heap}
/-! ### l_great_right -/
def spGR : Sp := fun vs H Q _ => ∃ (h c : Addr), vs = [.ref h] ∧ HandAt H h c ∧ ∀ H', But h H H' → HandAt H' h c → Q (.bl true) H'
theorem k_l_great_right {C Ce : Addr} (B : Bi mg) (D : Placed K mg "_law_great_right" s_l_great_right p_l_great_right) (M : MkSh P w K mg base C) (CR : Kept P w K mg base CX0 3 "_law_great" p_l_great spGreat) (CB : Kept P w K mg base CX0 8 "_law_both_counts" p_l_both_counts (spBC P w 7))
    (CC : Kept P w K mg base (L2.CX P w) 9 "counts" p_counts (spCounts K Ce)) (CL : Kept P w K mg base CX0 4 "loose" p_loose (spLoose K)) (CI : Kept P w K mg base CX0 4 "is_loose" p_is_loose (spIsLoose K)) : Kept P w K mg base CX0 10 "_law_great_right" p_l_great_right spGR := by
  obtain ⟨fS, fdS, mkS, GS, mS, bS⟩ := M
  obtain ⟨fR, fdR, GR, mR, kR, bR⟩ := CR
  obtain ⟨fB, fdB, GB, mB, kB, bB⟩ := CB
  obtain ⟨fC, fdC, GC, mC, kC, bC⟩ := CC
  obtain ⟨fL, fdL, GL, mL, kL, bL⟩ := CL
  obtain ⟨fI, fdI, GI, mI, kI, bI⟩ := CI
  refine D.keep fun f fd F => F.ok sc_l_great_right (fun vs H Q E h => ?_) (fun cdv A outer s H vs Q E hr h => ?_)
  · obtain ⟨h, c, rfl, _⟩ := h
    rfl
  · obtain ⟨hh, c, rfl, hA, q⟩ := h
    have hr3 : Room 3 _ := hr.mono (by decide)
    have hr4 : Room 4 _ := hr.mono (by decide)
    have hr8 : Room 8 _ := hr.mono (by decide)
    refine ⟨_, pss_cons (ps_asg (pe_call GR hr3 rfl mR kR bR .nil pass0 (pa_cons (pv 0) pa_nil)) (pg_two (K := K) (pg_name (i := 1) sc_l_great_right.nd rfl (Or.inl rfl)) (pg_name (i := 2) sc_l_great_right.nd rfl (Or.inl rfl))))
      (pss_cons (ps_set (i := 2) sc_l_great_right.nd rfl (Or.inl rfl) (pe_slice sl_list (pv 2) po_none (po_some pe_int)))
      (pss_cons (ps_set (i := 3) sc_l_great_right.nd rfl (Or.inl rfl) (pe_make mkS GS hr4 rfl mS bS .nil pass0 (pa_cons (pv 1) (pa_cons (pv 2) pa_nil))))
      (pss_cons (ps_set (i := 4) sc_l_great_right.nd rfl (Or.inl rfl) pe_bl)
      (pss_cons (ps_for PassesOwn.never rfl (pi_list (pv 2)) (pg_name (i := 5) sc_l_great_right.nd rfl (Or.inl rfl))
        (pss_cons (ps_set (i := 6) sc_l_great_right.nd rfl (Or.inl rfl) (pe_call GB hr8 rfl mB kB bB .nil pass0 (pa_cons (pe_nnew (P := P) (w := w)) (pa_cons (pe_callTy callTup (by rfl) B.tuple PyProof.Rows.boot_tuple (pa_cons (pv 2) pa_nil)) (pa_cons (pv 5) pa_nil)))))
        (Evl.pss_cut (ps_set (i := 4) sc_l_great_right.nd rfl (Or.inl rfl) (pe_or (pv 4) (pe_one (pe_cmpR op_ne (pe_ix ix_tup (pv 6) pe_int (fun _ _ => rfl)) (pe_ix ix_tup (pv 6) pe_int (fun _ _ => rfl)) (nomark _)))))
        (pss_one (ps_if (pt_cmpR (opNeR hr.units) (pe_call GC hr rfl mC kC bC .nil passE0 (pa_cons (pv 3) (pa_cons (pv 5) pa_nil))) (pv 6) (nomark _)) (pss_one (ps_ret pe_bl)) pss_nil)))))
      (pss_cons (ps_set (i := 7) sc_l_great_right.nd rfl (Or.inl rfl) (pe_call GL hr4 rfl mL kL bL .nil pass0 (pa_cons (pv 3) pa_nil)))
      (pss_one (ps_ret (pe_and (pe_cmpR op_eq (pe_cmpR op_notN (pv 7) pe_non (nomark _)) (pv 4) (nomark _)) (pe_one (pe_or (pe_cmpR op_isN (pv 7) pe_non (nomark _)) (pe_one (pe_cmpR op_is_bl (pe_call GI hr4 rfl mI kI bI .nil pass0 (pa_cons (pv 3) (pa_cons (pv 7) pa_nil))) pe_bl (nomark _))))))))))))), ?_⟩
    refine ⟨_, rfl, hh, c, rfl, hA, fun x b a sz L0 H1 nx b1 a1 ex eb z1 z6 hsz nb na ea AL0 l1 l64 g0 asc0 => ?_⟩
    refine gTwo ex ?_
    refine ⟨_, rfl, 24, rfl, a, _, rfl, SqL.of ea, fun ra nra => ?_⟩
    rw [cut24]
    have s2 := same_new (o := .lst (refs (L0.take 24))) nra
    have hra : (upd H1 ra (.lst (refs (L0.take 24)))) ra = some (.lst (refs (L0.take 24))) := upd_same
    have AL : AllAt (upd H1 ra (.lst (refs (L0.take 24)))) (L0.take 24) := (AL0.mono (.of_same s2)).sub fun p hp => List.mem_of_mem_take hp
    have hl : (L0.take 24).length ≤ 24 := by rw [List.length_take]; omega
    have hl1 : 1 ≤ (L0.take 24).length := by rw [List.length_take]; omega
    have gL : ∀ r, r ∈ rws (L0.take 24) → InR sz r := fun r hr' => by
      rw [rws_take] at hr'
      exact g0 r (List.mem_of_mem_take hr')
    have asc : Asc (rws (L0.take 24)) := by
      rw [rws_take]
      exact List.Pairwise.sublist (List.take_sublist _ _) asc0
    have b2 := b1.then s2
    have a2 := a1.same s2
    have eb2 := s2 _ _ eb
    generalize (upd H1 ra (.lst (refs (L0.take 24)))) = H2 at hra AL b2 a2 eb2 ⊢
    generalize L0.take 24 = L at hra AL hl hl1 gL asc ⊢
    refine ⟨_, rfl, _, rfl, fun sh dx nsh ndx ndxsh => ?_⟩
    have s3 : Same H2 (upd (upd H2 dx (.own sh)) sh (.ins C dx [])) := (same_new ndx).trans (same_new (by rw [upd_ne ndxsh.symm]; exact nsh))
    refine ⟨sh, b, ra, dx, sz, L, rfl, upd_same, s3 _ _ eb2, z1, z6, hsz, s3 _ _ hra, AL.mono (.of_same s3), hl1, by omega, gL, asc, fun H3 b3 S3 => ⟨rfl, ?_⟩⟩
    have s23 : Same H2 H3 := fun z o e => b3 _ _ (s3 _ _ e) (ne_of_none e nsh)
    have b03 := b2.then s23
    have a3 := a2.same s23
    have hra3 := s23 _ _ hra
    have AL3 := AL.mono (.of_same s23)
    have hw := S3.wid
    have hne := S3.ne
    refine ⟨_, rfl, ra, rfl, ⟨_, SqL.of hra3⟩, ?_⟩
    have wl := walk_list (K := K) (a := ra) (xs := refs L)
    rw [refs_len] at wl
    refine for_it wl (fun k σ H' => ∃ (u : Bool) (x5 x6 : Option V), σ = [some (.ref hh), some (.ref b), some (.ref ra), some (.ref sh), some (.bl u), x5, x6, none] ∧ Same H3 H' ∧ (u = true ↔ ∃ r, r ∈ (rws L).take k ∧ (cnt sz.length (rws L) r).1 ≠ (cnt sz.length (rws L) r).2))
      ⟨false, none, none, rfl, Same.refl _, ⟨(fun z => nomatch z), (fun ⟨r, hr', _⟩ => nomatch hr')⟩⟩ (fun k σ H' _ p => by obtain ⟨_, _, _, _, s, _⟩ := p; exact SqL.of (s _ _ hra3)) ?_ ?_
    · rintro k x σ _ H4 hk ⟨u, x5, x6, rfl, s4, hu⟩ ⟨rfl, hx⟩
      obtain ⟨p, hp, rfl⟩ := refs_get hx
      have hpm : p ∈ L := List.mem_of_getElem? hp
      have hrow : p.2 ∈ rws L := mem_rws hpm
      intro d nd
      have s5 := same_new (o := DkO P w d []) nd
      refine ⟨_, rfl, ra, _, rfl, .inl ⟨SqL.of (s5 _ _ (s4 _ _ hra3)), fun t nt => ?_⟩⟩
      have s6 := same_new (o := .tup (refs L)) nt
      have s46 := s4.trans (s5.trans s6)
      refine ⟨_, rfl, d, t, p.1, L, sz.length, p.2, [], rfl, upd_same, AL3.mono (.of_same s46), hw, z6, by omega, s46 _ _ (AL3 p hpm), hrow, Nat.le_trans (opn_len _ _) z6, ⟨s6 _ _ upd_same, fun x hx => nomatch hx⟩, by decide, fun v xs' H7 b7 _ _ e7 => ?_⟩
      have s7 : Same H3 H7 := fun z o e => b7 _ _ (s46 _ _ e) (ne_of_none (s4 _ _ e) nd)
      have hnext : ∀ u' : Bool, (u' = true ↔ (u = true ∨ (cnt sz.length (rws L) p.2).1 ≠ (cnt sz.length (rws L) p.2).2)) → (u' = true ↔ ∃ r, r ∈ (rws L).take (k + 1) ∧ (cnt sz.length (rws L) r).1 ≠ (cnt sz.length (rws L) r).2) := fun u' h => by
        have hpr : (rws L)[k]? = some p.2 := by
          unfold rws
          rw [List.getElem?_map, hp]
          rfl
        rw [h, hu]
        constructor
        · rintro (⟨r, h1, h2⟩ | h2)
          · refine ⟨r, ?_, h2⟩
            rw [List.take_add_one]
            exact List.mem_append_left _ h1
          · refine ⟨p.2, ?_, h2⟩
            rw [List.take_add_one, hpr]
            exact List.mem_append_right _ (List.mem_singleton.mpr rfl)
        · rintro ⟨r, h1, h2⟩
          rcases take_mem hpr h1 with h1 | h1
          · exact .inl ⟨r, h1, h2⟩
          · rw [h1] at h2
            exact .inr h2
      have hcnt : ∀ H', Same H3 H' → ∀ v', H' v' = some (.tup (rowV (cntRow sz.length (rws L) p.2))) → H' v' = some (.tup [.int (cnt sz.length (rws L) p.2).1, .int (cnt sz.length (rws L) p.2).2]) := fun _ _ _ h => h
      refine ⟨fun σ H' => H' = H7 ∧ ∃ u' : Bool, σ = [some (.ref hh), some (.ref b), some (.ref ra), some (.ref sh), some (.bl u'), some (.ref p.1), some (.ref v), none] ∧ (u' = true ↔ ∃ r, r ∈ (rws L).take (k + 1) ∧ (cnt sz.length (rws L) r).1 ≠ (cnt sz.length (rws L) r).2), ?_, ?_⟩
      · refine ⟨_, rfl, u, rfl, ?_⟩
        cases u with
        | true => exact iteT ⟨rfl, true, rfl, hnext true ⟨fun _ => .inl rfl, fun _ => rfl⟩⟩
        | false =>
          refine iteF ?_
          refine ⟨_, rfl, v, _, 0, _, rfl, rfl, SqT.of (hcnt _ s7 v e7), rfl, _, rfl, v, _, 1, _, rfl, rfl, SqT.of (hcnt _ s7 v e7), rfl, rfl, rfl, _, rfl, hnext _ ?_⟩
          rw [dec_int]
          constructor
          · intro z
            refine .inr fun y => ?_
            rw [y] at z
            simp at z
          · rintro (z | z)
            · cases z
            · simpa using z
      rintro σ _ ⟨rfl, u', rfl, hu'⟩
      refine ⟨_, rfl, _, rfl, sh, sz, L, .ref p.1, rfl, S3.mono s7, .inl ⟨p.1, p.2, rfl, s7 _ _ (AL3 p hpm), hrow, fun v2 H8 s8 e8 => ?_⟩⟩
      refine ⟨_, rfl, rowD (cntRow sz.length (rws L) p.2), rowD (cntRow sz.length (rws L) p.2), dpRow e8, dpRow (s8 _ _ e7), row_shaped _, row_shaped _, _, rfl, ?_⟩
      rw [eqv_row, decide_eq_true rfl]
      exact iteF ⟨u', _, _, rfl, s7.trans s8, hu'⟩
    · rintro σ H4 ⟨u, x5, x6, rfl, s4, hu⟩
      rw [List.take_of_length_le (by rw [rws_len]; exact Nat.le_refl _)] at hu
      have hun := looseF_unlike hw hne
      have b4 := b03.then s4
      have a4 := a3.same s4
      refine ⟨_, rfl, sh, sz, L, rfl, S3.mono s4, fun hno H5 s5 => ?_, fun st t ht x9 b9 H5 n9 s5 e9 t9 => ?_⟩
      · have uf : u = false := by
          rw [hno] at hun
          refine Bool.eq_false_iff.mpr fun z => ?_
          exact nomatch hun.mpr (hu.mp z)
        subst uf
        refine ⟨_, rfl, rfl, _, rfl, rfl, true, rfl, ?_⟩
        refine iteT ⟨_, rfl, rfl, true, rfl, ?_⟩
        exact iteT (q _ (b4.then s5) (a4.same s5))
      · have ut : u = true := by
          rw [ht] at hun
          exact hu.mpr (hun.mp rfl)
        subst ut
        obtain ⟨f1, f2, f3⟩ := looseF_some hw hne ht
        refine ⟨_, rfl, rfl, _, rfl, rfl, true, rfl, ?_⟩
        refine iteT ⟨_, rfl, rfl, false, rfl, ?_⟩
        refine iteF ⟨_, rfl, _, rfl, sh, x9, b9, t.1.1, sz, L, st, t.1.2, t.2.1, t.2.2, rfl, S3.mono (s4.trans s5), t9, e9, ?_, f1, f3, fun H6 s6 => ?_⟩
        · exact s5 _ _ (s4 _ _ (AL3 t.1 (List.mem_filter.mp f2).1))
        · exact ⟨_, _, rfl, rfl, q _ (b4.then (s5.trans s6)) (a4.same (s5.trans s6))⟩
end
end K71
set_option Elab.async false
set_option linter.all false
set_option maxRecDepth 100000
set_option maxHeartbeats 4000000
/-! k71: the law's own call stands under no repr: what follows for repr, and the head for a law that leans on it. -/
namespace K71
open PySem PySem.W PySem.Spec PyProof.Rows L2
def RunG (P : Program) (w : World) (K : PySem.W.Frag) (mg : Str → Option Value) (base : Heap) (CX : CXT) (k : Nat) (f : Addr) (fd : FuncData) (ps : List Str) (sp : Sp) : Prop :=
  ∀ (A : Around) (outer : List Env) (s : Shared) (H : Hp) (args : Args) (us : List Value) (vs : List V) (Q : VK) (E : XK), Room k A → A.guards = some [] → Env0 P w K mg base A outer s H → BindsTo s fd args (ps.zip us) → Vals vs us → sp vs H Q E →
    codeAny (model P w) A (.call (.ref f) args) (CR CX outer P w H s Q E) s
section
variable {P : Program} {w : World} {K : PySem.W.Frag} {mg : Str → Option Value} {base : Heap}
theorem fun_okG {x qual : Str} {st : Stmt} {f : Addr} {fd : FuncData} {N ps : List Str} {k : Nat} {sp : Sp} (F : Fun K x qual st f fd) (S : FnScope N ps (defScope st)) (len : ∀ vs H Q E, sp vs H Q E → vs.length = ps.length)
    (hbody : ∀ (cdv : Value) (A : Around) (outer : List Env) (s : Shared) (H : Hp) (vs : List V) (Q : VK) (E : XK), Room k (A.deeper (envOfC qual (defScope st) s.heap.objs.size f cdv)) → A.guards = some [] → sp vs H Q E →
      ∃ t, PSs (cxOf CX0 P w K mg base N qual (defScope st) f cdv A outer s H E).nox (defBody st) t ∧ t { nx := fun _ H' => Q .non H', rt := Q } (start N vs) H) : RunG P w K mg base CX0 (k + 1) f fd ps sp := by
  obtain ⟨oc, od, kV, doc, pm, an, cdv, ct, osl, rfl, lk, hcd⟩ := F.ex
  intro A outer s H args us vs Q E hr hg e0 hb r hsp
  have hl := len _ _ _ _ hsp
  have KX : K.In s.heap := e0.mod.kin.keeps fun b o e => (e0.bs b o e).1
  have lim : s.heap.NoLimit := e0.mod.nolimit.keeps fun b o e => (e0.bs b o e).1
  have hkind : ∀ y ∈ ps.zip us, (defScope st).names.lookup y.1 = some .local ∨ ((defScope st).names.lookup y.1 = some .cell ∧ ((cellsFrom (s.heap.objs.size + 1) (defScope st).names []).lookup y.1).isSome = true) := fun ⟨n, v⟩ hy => by
    rcases S.par n (List.of_mem_zip hy).1 with q | q
    · exact .inl q
    · exact .inr ⟨q, PySem.W.cellsFrom_some _ _ _ (.inl q)⟩
  refine codeAny_call_function hr.depth (KX _ _ lk) rfl S.co S.gen rfl (PySem.W.codeRec_of KX hcd) (hb _ _ _ _ ?_)
  refine wpAny_newFunctionEnv_cells S.kind hkind fun env he s1 x => ?_
  subst he
  refine ⟨lim.keeps x.toInCall.keep, codeAny_func ?_⟩
  obtain ⟨t, ht, hq⟩ := hbody cdv A outer s H vs Q E (hr.deeper _) hg hsp
  have I : Inv (cxOf CX0 P w K mg base N qual (defScope st) f cdv A outer s H E) [] (start N vs) H s1 := inv_start S hr.hd e0 hl r x
  refine wpAny_mono (ht.nox.run [] s1 (start N vs) H _ I hq) (fun fl s' hs => ?_) fun e s' hs => hs
  have fin : ∀ {σ' : L2.St} {H' : Hp} {v : V} {u : Value}, Inv (cxOf CX0 P w K mg base N qual (defScope st) f cdv A outer s H E) [] σ' H' s' → RelV v u → Q v H' → CE outer P w H s Q u s' :=
    fun {σ' H' v u} J rv q => ⟨v, H', J.os, J.bare, J.base, J.hok, rv, q⟩
  cases fl with
  | ret u =>
    obtain ⟨v, σ', H', J, rv, q⟩ := hs
    exact fin J rv q
  | next =>
    obtain ⟨σ', H', J, q⟩ := hs
    exact fin (v := V.non) (u := Value.none) J rfl q
  | brk =>
    obtain ⟨_, _, _, q⟩ := hs
    exact False.elim q
  | cont =>
    obtain ⟨_, _, _, q⟩ := hs
    exact False.elim q
theorem law_callG {mb : Str → Option Value} {k : Nat} {fa a : Addr} {fd : FuncData} {x : Str} {sp : Sp} {s₁ : Shared} {vs : List Value} {ns : List Int}
    (KX : K.In s₁.heap) (hns : s₁.heap.Ns mainGlobals mg) (hb : s₁.heap.Ns builtinsNs mb) (hbb : ∀ x : Str, x ≠ "__name__" → mb x = bootBuiltins x) (hlim : s₁.heap.NoLimit) (hg : s₁.gens = #[])
    (ha : s₁.heap.get? a = some { cls := .type "list", data := .seq vs.toArray }) (hi : IntsAre vs ns) (hl : ns.length ≤ sizeLine) (hr : Room k callerA)
    (F : ∀ base : Heap, K.In base → base.Ns mainGlobals mg → RunG P w K mg base CX0 k fa fd [x] sp) (hbind : ∀ (s : Shared) (u : Value), BindsTo s fd ⟨[u], []⟩ [(x, u)])
    (hsp : ∀ H : Hp, Only H → SqL K H a (ns.map V.int) → sp [.ref a] H (fun v _ => v = .bl true) fun _ _ _ => False) :
    codeAny (model P w) callerA (.call (.ref fa) ⟨[.ref a], []⟩) (fun r s' => r = .ok (.ret (.bool true)) ∧ OldK s₁.heap s'.heap ∧ s'.os = s₁.os ∧ AllBare s'.gens) s₁ := by
  have rv := vals_ints hi
  have core : ∀ H : Hp, Only H → SqL K H a (ns.map V.int) → HOk P w H s₁.heap → (∀ b, H b ≠ none → b = a) → (H a ≠ none → K.lookup a = none) →
      codeAny (model P w) callerA (.call (.ref fa) ⟨[.ref a], []⟩) (fun r s' => r = .ok (.ret (.bool true)) ∧ OldK s₁.heap s'.heap ∧ s'.os = s₁.os ∧ AllBare s'.gens) s₁ := by
    intro H hO hS hok hA hK
    have one : ∀ {b : Addr}, (b = a → False) → H b = none := fun {b} h => by
      cases q : H b with
      | none => rfl
      | some u => exact (h (hA b (by rw [q]; simp))).elim
    have nsK : ∀ {b : Addr} {m : Str → Option Value}, s₁.heap.Ns b m → (hidT s₁.heap H).Ns b m := fun {b m} ⟨o, es, ep, e, d, r⟩ => ⟨o, es, ep, hidT_get e (one fun z => by
      subst z
      rw [ha] at e
      cases e
      have d' : Data.seq vs.toArray _ = Data.dict es ep := d
      cases d'), d, r⟩
    have hKb : K.In (hidT s₁.heap H) := fun b o e => hidT_get (KX b o e) (by
      cases q : H b with
      | none => rfl
      | some u =>
        have z : b = a := hA b (by rw [q]; simp)
        subst z
        rw [hK (by rw [q]; simp)] at e
        cases e)
    have e0 : Env0 P w K mg (hidT s₁.heap H) callerA [] s₁ H := ⟨rfl, ⟨hKb, nsK hns, ⟨mb, nsK hb, hbb⟩, let ⟨mc, h1, h2⟩ := hlim; ⟨mc, nsK h1, h2⟩⟩, fun b o e => of_hidT e, Nat.le_of_eq (hidT_size _ _), trivial, (fun b hb => nomatch hb), hok, .of_eq hg⟩
    refine codeAny_mono (F _ hKb (nsK hns) callerA [] s₁ H ⟨[.ref a], []⟩ [.ref a] [.ref a] _ _ hr rfl e0 (hbind s₁ (.ref a)) (.cons rfl .nil) (hsp H hO hS)) fun r s' h => ?_
    cases r with
    | error e => exact False.elim h
    | ok fl =>
      cases fl with
      | ret u =>
        obtain ⟨v, H', os, bare, un, hok', r', q⟩ := h
        have q' : v = .bl true := q
        subst q'
        obtain rfl : u = Value.bool true := r'
        refine ⟨rfl, OldK.of_keep fun b o e => ?_, os, bare⟩
        cases q : H b with
        | none => exact un.keep b o e q (fun z => nomatch z) (by simp)
        | some u =>
          rcases hO b with z | ⟨ob, xs, z⟩
          · rw [q] at z; cases z
          · obtain ⟨e1, _⟩ := hok b _ z
            obtain ⟨e2, _⟩ := hok' b _ (un.frzs b ob _ z)
            rw [e] at e1; cases e1
            exact e2
      | _ => exact False.elim h
  cases hk : K.lookup a with
  | some o =>
    have e := KX a o hk
    rw [ha] at e
    cases e
    refine core (fun _ => none) (fun _ => .inl rfl) (.inr ⟨_, vs.toArray, _, hk, rfl, rfl, rfl, by rw [List.size_toArray, hi.length]; exact hl, by simpa using rv⟩) (fun b u z => by have z' : (none : Option HO) = some u := z; cases z') (fun b z => absurd rfl z) fun z => absurd rfl z
  | none =>
    refine core (fun b => if b = a then some (.frz { cls := .type "list", data := .seq vs.toArray } (.lst (ns.map V.int))) else none) (fun b => ?_) (.inl (.inr ⟨{ cls := .type "list", data := .seq vs.toArray }, if_pos rfl⟩)) (fun b u z => ?_) (fun b z => ?_) fun _ => hk
    · by_cases hb : b = a
      · exact .inr ⟨_, _, if_pos hb⟩
      · exact .inl (if_neg hb)
    · by_cases hb : b = a
      · have z' := (if_pos hb).symm.trans z
        cases z'
        subst hb
        exact ⟨ha, by rw [List.length_map]; exact hl, vs, _, rv, ha⟩
      · have z' := (if_neg hb).symm.trans z
        cases z'
    · by_cases hb : b = a
      · exact hb
      · exact absurd (if_neg hb) z
end
theorem walk_ofG {l : PySem.W.OpenLaw} {n k : Nat} {q : Program} {loose : List Str} {XP : (Str → Option Value) → Heap → Prop} {YP : World → Heap → Prop} {d : DefRec} {K : Params → PySem.W.Frag} {sp : World → Sp} {x : Str}
    (hn : l.most = some n) (hn2 : n ≤ sizeLine) (hdf : d.params.defaults = []) (hr : Room k callerA)
    (hY : ∀ (w : World) (h : Heap), YP w h → (K w.params).In h)
    (F : ∀ (w : World) (mg : Str → Option Value) (fa : Addr) (h : Heap), (K w.params).In h → h.Ns mainGlobals mg → mg d.name = some (.ref fa) →
      ∃ fd : FuncData, (∀ (s : Shared) (u : Value), BindsTo s fd ⟨[u], []⟩ [(x, u)]) ∧
        ∀ base : Heap, (K w.params).In base → base.Ns mainGlobals mg → RunG l.prog w (K w.params) mg base CX0 k fa fd [x] (sp w))
    (hsp : ∀ (w : World) (H : Hp) (a : Addr) (ns : List Int), ns.length ≤ n → Only H → SqL (K w.params) H a (ns.map V.int) → sp w [.ref a] H (fun v _ => v = .bl true) fun _ _ _ => False) :
    PySem.W.WalkO q loose XP YP l.row.toRowW d [] (fun f vs => PySem.call f vs) := by
  refine Att.attach_call hn hdf fun w s₀ s₁ mg mb fa o pm cd doc a vs ns G Y ho hd hcd hmg hobj hints hlen hg => ?_
  have KX := hY w _ Y
  obtain ⟨fd, hb, hF⟩ := F w mg fa _ KX G.T.g hmg
  exact law_callG KX G.T.g G.T.b G.T.builtins G.T.nolimit hg hobj hints (Nat.le_trans hlen hn2) hr hF hb (fun H hO hS => hsp w H a ns hlen hO hS)
end K71
set_option Elab.async false
set_option linter.all false
set_option maxRecDepth 100000
set_option maxHeartbeats 4000000
/-! k71: repr of a pair of small ints. -/
namespace K71
open PySem PySem.W PySem.Spec PyProof.Rows L2
theorem pair_fits : ∀ u : Nat, u < 8 → ∀ v : Nat, v < 8 → (rowD [(u : Int), (v : Int)]).showable = true ∧ (rowD [(u : Int), (v : Int)]).shown.length ≤ 100 := by decide +kernel
theorem pair_fitsI {u v : Int} (hu : 0 ≤ u ∧ u < 8) (hv : 0 ≤ v ∧ v < 8) : (rowD [u, v]).showable = true ∧ (rowD [u, v]).shown.length ≤ 100 := by
  obtain ⟨a, rfl⟩ : ∃ a : Nat, u = a := ⟨u.toNat, by omega⟩
  obtain ⟨b, rfl⟩ : ∃ b : Nat, v = b := ⟨v.toNat, by omega⟩
  exact pair_fits a (by omega) b (by omega)
section
variable {X : Cx} {K : PySem.W.Frag}
def rReprP : List V → Hp → VK → Prop := fun xs H Q => ∃ (a : Addr) (u v : Int), xs = [.ref a] ∧ H a = some (.tup (rowV [u, v])) ∧ (0 ≤ u ∧ u < 8) ∧ (0 ≤ v ∧ v < 8) ∧ Q (.str (rowD [u, v]).shown) H
theorem cr_reprP (hg : X.A.guards = some []) (hu : X.A.units + 64 < cLine) : CallR X (.builtin "repr") rReprP := by
  intro pins s σ H xs us Q I r h
  obtain ⟨a, u, v, rfl, ha, h1, h2, q⟩ := h
  rw [Vals.ref1 r]
  obtain ⟨hs, hz⟩ := pair_fitsI h1 h2
  have rd : Reads s.heap (.ref a) (rowD [u, v]) [] := reads_row (P := X.prog) (w := X.w) (I.isT (SqT.of ha))
  have hd := row_depth [u, v]
  refine repr_of_reads' rd hs (PyData.noDict_hsm (by simp [rowD, PyData.hasDict, PyData.hasDictAll])) hg (by omega) (fun _ _ e => e) (fun h' t tk k => ?_) (Nat.le_trans hz (by decide))
  exact ⟨.str (rowD [u, v]).shown, H, I.kept (t' := tk) k, ⟨_, rfl⟩, q⟩
end
end K71
set_option Elab.async false
set_option linter.all false
set_option maxRecDepth 100000
set_option maxHeartbeats 8000000
namespace K71
open PySem PySem.W PySem.Spec PyProof.Rows L2
theorem counted_bd : ∀ (o : List Nat) (rs : List Row) (r : Row), 0 ≤ counted rs o r ∧ counted rs o r ≤ o.length
  | [], _, _ => ⟨Int.le_refl _, Int.le_refl _⟩
  | p :: o, rs, r => by
    obtain ⟨h1, h2⟩ := counted_bd o (part rs p r) r
    show 0 ≤ (if (part rs p r).length < rs.length then 1 else 0) + counted (part rs p r) o r ∧ (if (part rs p r).length < rs.length then 1 else 0) + counted (part rs p r) o r ≤ ((o.length + 1 : Nat) : Int)
    by_cases c : (part rs p r).length < rs.length
    · rw [if_pos c]
      omega
    · rw [if_neg c]
      omega
theorem cnt_bd {n : Nat} {rs : List Row} {r : Row} (hr : r ∈ rs) : (0 ≤ (cnt n rs r).1 ∧ (cnt n rs r).1 ≤ n) ∧ 0 ≤ (cnt n rs r).2 ∧ (cnt n rs r).2 ≤ n := by
  obtain ⟨⟨o, ho, e⟩, o2, ho2, e2⟩ := order_attains (n := n) hr
  have h := (mem_orders.mp ho).2.1
  have h2 := (mem_orders.mp ho2).2.1
  have b := counted_bd o rs r
  have b2 := counted_bd o2 rs r
  omega
theorem RDict.same {P : Program} {w : World} {H H' : Hp} {d : Addr} {L : RL} {E : List EE} (R : RDict P w .lst H d L E) (s : Same H H') : RDict P w .lst H' d L E := by
  refine ⟨?_, fun e he => ⟨s _ _ (R.en e he).1, s _ _ (R.en e he).2⟩⟩
  rcases R.ob with h | ⟨o, h⟩
  · exact .inl (s _ _ h)
  · exact .inr ⟨o, s _ _ h⟩
def tellD (st : Std) (t : (Addr × Row) × Nat × Nat) : PyData := .tuple [stD st, rowD t.1.2, .int t.2.1, .int t.2.2]
theorem tellDp {K : PySem.W.Frag} {H : Hp} {x b : Addr} {st : Std} {t : (Addr × Row) × Nat × Nat} (h : H x = some (.tup [.ref b, .ref t.1.1, .int t.2.1, .int t.2.2])) (hb : H b = some (.tup (stV st))) (hr : H t.1.1 = some (.tup (rowV t.1.2))) : Dp K H (.ref x) (tellD st t) :=
  .tup (SqT.of h) (.cons (dpSt hb) (.cons (dpRow hr) (.cons (.int _) (.cons (.int _) .nil))))
theorem tell_shaped (st : Std) (t : (Addr × Row) × Nat × Nat) : SeqAt.shaped (tellD st t) = true := by
  refine shaped_of ?_ ?_
  · simp [tellD, PyData.canLay0, PyData.canLayAll0, st_lay, row_lay]
  · have h1 := st_depth st
    have h2 := row_depth t.1.2
    simp only [tellD, PyData.depth, PyData.depthAll]
    omega
theorem tell_eqv (st : Std) (t : (Addr × Row) × Nat × Nat) : PyData.eqv (tellD st t) (tellD st t) = true := by
  simp [tellD, PyData.eqv, PyData.eqvAll, eqv_st, eqv_row]
theorem rSl_1 {K : PySem.W.Frag} {H : Hp} {a : Addr} {xs : List V} {Q : VK} (ha : H a = some (.tup xs)) (hk : 0 < xs.length) (q : ∀ p H', Same H H' → H' p = some (.tup (xs.drop 1)) → Q (.ref p) H') : rSlA K (.ref a) (some 1) none H Q := rSl_hi (k := 0) ha hk q
theorem isAns_bl {n : Nat} {sz : Row} (h : 1 ≤ sz.length) (hn : n = sz.length) : isAns (List.replicate n (V.bl true)) sz = false := by
  unfold isAns
  rw [Bool.and_eq_false_iff]
  refine .inr (List.all_eq_false.mpr ⟨0, List.mem_range.mpr (by omega), ?_⟩)
  rw [List.getD_eq_getElem?_getD, List.getElem?_replicate, if_pos (by omega)]
  simp [itemOk]
theorem orders_few : ∀ n : Nat, n < 5 → (orders n n).length ≤ 100 ∧ 0 < (orders n n).length := by decide +kernel
section
variable {P : Program} {w : World} {K : PySem.W.Frag} {mg : Str → Option Value} {base : Heap}
theorem SheetAt.but {H H' : Hp} {s x : Addr} {sz : Row} {L : RL} {ys : List V} (h : SheetAt K H s sz L) (e : But x H H') (hx : H x = some (.lst ys)) : SheetAt K H' s sz L := by
  obtain ⟨⟨C, dx, az, ar, fs, h1, h2, h3, h4, h5, h6, h7, h8⟩, a, b, c, d, m⟩ := h
  exact ⟨⟨C, dx, az, ar, fs, e _ _ h1 (ne_of h1 hx (fun z => nomatch z)), h2, h3, h4, h5, h6, e _ _ h7 (ne_of h7 hx (fun z => nomatch z)), e _ _ h8 (ne_of h8 hx (fun z => nomatch z))⟩, fun p hp => e _ _ (a p hp) (ne_of (a p hp) hx (fun z => nomatch z)), b, c, d, m⟩
/-! ### law -/
def spLaw (K : PySem.W.Frag) : Sp := fun vs H Q _ => ∃ (a : Addr) (ns : List Int), vs = [.ref a] ∧ SqL K H a (ns.map V.int) ∧ ns.length ≤ 63 ∧ ∀ H', Q (.bl true) H'
theorem k_law {C Ce : Addr} {f : Addr} {fd : FuncData} (B : Bi mg) (F : Fun K "law" "law" s_law f fd) (M : MkSh P w K mg base C) (CH : Kept P w K mg base CX0 1 "_law_hand" p_l_hand (spHand K)) (CS : Kept P w K mg base CX0 3 "_law_sheet" p_l_sheet spSheet)
    (CD : Kept P w K mg base CX0 1 "_law_draw" p_l_draw spDraw) (CG : Kept P w K mg base CX0 10 "_law_great_right" p_l_great_right spGR) (CO : Kept P w K mg base CX0 1 "_law_orders" p_l_orders spOrders) (CN : Kept P w K mg base CX0 2 "_law_counted" p_l_counted (spCounted K))
    (CC : Kept P w K mg base (L2.CX P w) 9 "counts" p_counts (spCounts K Ce)) (CR : Kept P w K mg base CX0 2 "_law_reached" p_l_reached (spLReached P w K)) (CL : Kept P w K mg base CX0 4 "loose" p_loose (spLoose K)) (CI : Kept P w K mg base CX0 4 "is_loose" p_is_loose (spIsLoose K))
    (CT : Kept P w K mg base CX0 3 "_law_some_loose" p_l_some_loose (spSomeLoose P w)) (CJ : Kept P w K mg base CX0 2 "_law_is_loose" p_l_is_loose (spLIsLoose P w K)) (CU : Kept P w K mg base CX0 10 "_law_refused" p_l_refused (spRefused K)) :
    RunG P w K mg base CX0 11 f fd p_law (spLaw K) := by
  obtain ⟨fM, fdM, mkM, GM, mM, bM⟩ := M
  obtain ⟨fH, fdH, GH, mH, kH, bH⟩ := CH
  obtain ⟨fS, fdS, GS, mS, kS, bS⟩ := CS
  obtain ⟨fD, fdD, GD, mD, kD, bD⟩ := CD
  obtain ⟨fG, fdG, GG, mG, kG, bG⟩ := CG
  obtain ⟨fO, fdO, GO, mO, kO, bO⟩ := CO
  obtain ⟨fN, fdN, GN, mN, kN, bN⟩ := CN
  obtain ⟨fC, fdC, GC, mC, kC, bC⟩ := CC
  obtain ⟨fR, fdR, GR, mR, kR, bR⟩ := CR
  obtain ⟨fL, fdL, GL, mL, kL, bL⟩ := CL
  obtain ⟨fI, fdI, GI, mI, kI, bI⟩ := CI
  obtain ⟨fT, fdT, GT, mT, kT, bT⟩ := CT
  obtain ⟨fJ, fdJ, GJ, mJ, kJ, bJ⟩ := CJ
  obtain ⟨fU, fdU, GU, mU, kU, bU⟩ := CU
  refine fun_okG F sc_law (fun vs H Q E h => ?_) (fun cdv A outer s H vs Q E hr hg h => ?_)
  · obtain ⟨a, ns, rfl, _⟩ := h
    rfl
  · obtain ⟨a0, ns, rfl, ha0, hns, q⟩ := h
    have hr1 : Room 1 _ := hr.mono (by decide)
    have hr2 : Room 2 _ := hr.mono (by decide)
    have hr3 : Room 3 _ := hr.mono (by decide)
    have hr4 : Room 4 _ := hr.mono (by decide)
    have hr9 : Room 9 _ := hr.mono (by decide)
    refine ⟨_, pss_cons (ps_set (i := 1) sc_law.nd rfl (Or.inl rfl) (pe_call GH hr1 rfl mH kH bH .nil pass0 (pa_cons (pv 0) pa_nil)))
      (pss_cons (ps_asg (pe_call GS hr3 rfl mS kS bS .nil pass0 (pa_cons (pv 1) (pa_cons pe_int (pa_cons pe_int pa_nil)))) (pg_two (K := K) (pg_name (i := 2) sc_law.nd rfl (Or.inl rfl)) (pg_name (i := 3) sc_law.nd rfl (Or.inr rfl))))
      (pss_cons (ps_set (i := 4) sc_law.nd rfl (Or.inl rfl) (pe_make mkM GM hr4 rfl mM bM .nil pass0 (pa_cons (pv 2) (pa_cons (pv 3) pa_nil))))
      (Evl.pss_cut (ps_if (PW.pt (pw_and (pt_cmpR op_eq (pe_call GD hr1 rfl mD kD bD .nil pass0 (pa_cons (pv 1) (pa_cons pe_int pa_nil))) pe_int (nomark _)) (pw_and1 (pt_not (pt_val (pe_call GG hr rfl mG kG bG .nil pass0 (pa_cons (pv 1) pa_nil))))))) (pss_one (ps_ret pe_bl)) pss_nil)
      (pss_cons (ps_set (i := 5) sc_law.nd rfl (Or.inl rfl) pe_bl)
      (Evl.pss_cut (ps_for PassesOwn.never rfl (pi_list (pv 3)) (pg_name (i := 6) sc_law.nd rfl (Or.inr rfl))
        (pss_cons (ps_setLc (i := 7) (own := [("_law_order", 13)]) (g := gName 13) (by rfl) sc_law.nd rfl rfl (sw_true rfl rfl rfl (by decide +kernel)) (pi_ls (K := K) (pe_call GO hr1 rfl mO kO bO .nil pass0 (pa_cons (pe_callB callLen (by rfl) B.len PySem.boot_len (pa_cons (pv 2) pa_nil)) pa_nil))) (blkOk_by (N := n_law) (sc := defScope s_law) (by decide +kernel)) (fun _ _ _ _ _ => pg_name (i := 13) sc_law.nd rfl (Or.inl rfl)) (fun _ _ _ _ _ => pts_nil)
          (fun _ _ _ _ _ => pe_call GN hr2 rfl mN kN bN .nil pass0 (pa_cons (pv 3) (pa_cons (pv 13) (pa_cons (pv 6) pa_nil)))))
        (pss_cons (ps_if (pt_cmpR op_ne (pe_callB (cr_reprP hg hr.units) (by rfl) B.repr PyProof.Rows.boot_repr (pa_cons (pe_call GC hr9 rfl mC kC bC .nil passE0 (pa_cons (pv 4) (pa_cons (pv 6) pa_nil))) pa_nil))
            (pe_callB (cr_reprP hg hr.units) (by rfl) B.repr PyProof.Rows.boot_repr (pa_cons (pe_tup (pa_cons (pe_callB callMin (by rfl) B.min PyProof.Rows.boot_min (pa_cons (pv 7) pa_nil)) (pa_cons (pe_callB callMax (by rfl) B.max PyProof.Rows.boot_max (pa_cons (pv 7) pa_nil)) pa_nil))) pa_nil)) (nomark _)) (pss_one (ps_ret pe_bl)) pss_nil)
        (pss_one (ps_set (i := 5) sc_law.nd rfl (Or.inl rfl) (pe_or (pv 5) (pe_one (pe_cmpR op_ne (pe_callB callMin (by rfl) B.min PyProof.Rows.boot_min (pa_cons (pv 7) pa_nil)) (pe_callB callMax (by rfl) B.max PyProof.Rows.boot_max (pa_cons (pv 7) pa_nil)) (nomark _)))))))))
      (pss_cons (ps_set (i := 8) sc_law.nd rfl (Or.inl rfl) (pe_call GR hr2 rfl mR kR bR .nil pass0 (pa_cons (pv 3) pa_nil)))
      (Evl.pss_cut (ps_set (i := 9) sc_law.nd rfl (Or.inl rfl) (pe_call GL hr4 rfl mL kL bL .nil pass0 (pa_cons (pv 4) pa_nil)))
      (pss_cons (ps_if (PW.pt (pw_or (pt_cmpR op_ne (pe_cmpR op_notN (pv 9) pe_non (nomark _)) (pv 5) (nomark _)) (pw_or1 (pt_cmpR op_ne (pe_call GT hr3 rfl mT kT bT .nil pass0 (pa_cons (pv 8) pa_nil)) (pv 5) (nomark _))))) (pss_one (ps_ret pe_bl)) pss_nil)
      (Evl.pss_cut (ps_if (pt_cmpR op_notN (pv 9) pe_non (nomark _))
        (pss_cons (ps_if (PW.pt (pw_or (pt_not (pt_val (pe_callB callIsi (by rfl) B.isi boot_isinstance (pa_cons (pv 9) (pa_cons (pe_bltn (v := .ty "tuple") (by rfl) B.tuple PyProof.Rows.boot_tuple rfl) pa_nil)))))
          (pw_or (pt_cmpR op_ne (pe_callB callLen (by rfl) B.len PySem.boot_len (pa_cons (pv 9) pa_nil)) pe_int (nomark _)) (pw_or1 (pt_cmpR op_isnot_bl (pe_call GI hr4 rfl mI kI bI .nil pass0 (pa_cons (pv 4) (pa_cons (pv 9) pa_nil))) pe_bl (nomark _)))))) (pss_one (ps_ret pe_bl)) pss_nil)
        (pss_one (ps_if (PW.pt (pw_or (pt_not (pt_val (pe_call GJ hr2 rfl mJ kJ bJ .nil pass0 (pa_cons (pv 8) (pa_cons (pe_ix ix_tup (pv 9) pe_int (fun _ _ => rfl)) (pa_cons (pe_ix ix_tup (pv 9) pe_int (fun _ _ => rfl)) (pa_cons (pe_ix ix_tup (pv 9) pe_int (fun _ _ => rfl)) (pa_cons (pe_ix ix_tup (pv 9) pe_int (fun _ _ => rfl)) pa_nil))))))))
          (pw_or1 (pt_cmpR (opNeR hr.units) (pe_call GL hr4 rfl mL kL bL .nil pass0 (pa_cons (pv 4) pa_nil)) (pv 9) (nomark _))))) (pss_one (ps_ret pe_bl)) pss_nil))) pss_nil)
      (pss_cons (ps_set (i := 6) sc_law.nd rfl (Or.inr rfl) (pe_ix ix_list (pv 3) (pe_call GD hr1 rfl mD kD bD .nil pass0 (pa_cons (pv 1) (pa_cons (pe_callB callLen (by rfl) B.len PySem.boot_len (pa_cons (pv 3) pa_nil)) pa_nil))) (fun _ _ => rfl)))
      (pss_cons (ps_set (i := 10) sc_law.nd rfl (Or.inl rfl) (pe_call GD hr1 rfl mD kD bD .nil pass0 (pa_cons (pv 1) (pa_cons (pe_callB callLen (by rfl) B.len PySem.boot_len (pa_cons (pv 2) pa_nil)) pa_nil))))
      (Evl.pss_cut (ps_set (i := 11) sc_law.nd rfl (Or.inl rfl) (pe_op op_catA (pe_op op_catA (pe_slice sl_tupA (pv 6) po_none (po_some (pv 10))) (pe_tup (pa_cons (pe_call GD hr1 rfl mD kD bD .nil pass0 (pa_cons (pv 1) (pa_cons (pe_ix ix_tup (pv 2) (pv 10) (fun _ _ => rfl)) pa_nil))) pa_nil))) (pe_slice sl_tupA (pv 6) (po_some (pe_add (pv 10) pe_int)) po_none)))
      (Evl.pss_cut (ps_if (pt_cmpR op_ne (pe_call GU hr rfl mU kU bU .nil pass0 (pa_cons (pv 4) (pa_cons (pv 11) pa_nil))) (pe_cmpR (op_notInD (room65 hr)) (pv 11) (pv 3) rfl) (nomark _)) (pss_one (ps_ret pe_bl)) pss_nil)
      (Evl.pss_cut (ps_set (i := 12) sc_law.nd rfl (Or.inl rfl) (pe_lst (pa_cons pe_non (pa_cons (pe_tup pa_nil) (pa_cons (pe_callTy call_list_of (by rfl) B.list PyProof.Rows.boot_list (pa_cons (pv 6) pa_nil)) (pa_cons (pe_op op_catA (pv 6) (pe_tup (pa_cons pe_int pa_nil)))
        (pa_cons (pe_slice sl_tupA (pv 6) (po_some pe_int) po_none) (pa_cons (pe_op op_repA (pe_tup (pa_cons pe_bl pa_nil)) (pe_callB callLen (by rfl) B.len PySem.boot_len (pa_cons (pv 6) pa_nil))) (pa_cons pe_str (pa_cons pe_int (pa_cons pe_dnewK
        (pa_cons (pe_op op_repA (pe_tup (pa_cons (pe_un un_neg pe_int) pa_nil)) (pe_callB callLen (by rfl) B.len PySem.boot_len (pa_cons (pv 6) pa_nil))) (pa_cons (pv 2) pa_nil)))))))))))))
      (pss_one (ps_ret (pe_call GU hr rfl mU kU bU .nil pass0 (pa_cons (pv 4) (pa_cons (pe_ix ix_list (pv 12) (pe_call GD hr1 rfl mD kD bD .nil pass0 (pa_cons (pv 1) (pa_cons pe_int pa_nil))) (fun _ _ => rfl)) pa_nil))))))))))))))))))), ?_⟩
    refine ⟨_, rfl, a0, ns, rfl, ha0, hns, fun hh c H1 nh s1 hA1 => ?_⟩
    refine ⟨_, rfl, hh, c, rfl, hA1, fun x b a sz L H2 nx b2 a2 ex eb z1 z4 hsz nb na ea AL l1 l20 gL asc => ?_⟩
    refine gTwo ex ?_
    refine ⟨_, rfl, _, rfl, fun sh dx nsh ndx ndxsh => ?_⟩
    have s3 : Same H2 (upd (upd H2 dx (.own sh)) sh (.ins C dx [])) := (same_new ndx).trans (same_new (by rw [upd_ne ndxsh.symm]; exact nsh))
    refine ⟨sh, b, a, dx, sz, L, rfl, upd_same, s3 _ _ eb, z1, by omega, (fun i hi => by have := hsz i hi; omega), s3 _ _ ea, AL.mono (.of_same s3), l1, by omega, gL, asc, fun H3 b3 S3 => ⟨rfl, ?_⟩⟩
    have s23 : Same H2 H3 := fun z o e => b3 _ _ (s3 _ _ e) (ne_of_none e nsh)
    have a3 := a2.same s23
    have ea3 := s23 _ _ ea
    have eb3 := s23 _ _ eb
    obtain ⟨⟨xh, eh⟩, _⟩ := hA1.some
    have nah : a ≠ hh := (ne_of_none eh na).symm
    have nbh : b ≠ hh := (ne_of_none eh nb).symm
    have S3b : ∀ {H H'}, SheetAt K H sh sz L → HandAt H hh c → But hh H H' → SheetAt K H' sh sz L := fun S a b => by
      obtain ⟨⟨ys, ey⟩, _⟩ := a.some
      exact S.but b ey
    clear s3 b3 s23 s1 b2 hA1 nsh ndx ndxsh AL ea eb ex a2
    refine ⟨fun σ H' => σ = [some (.ref a0), some (.ref hh), some (.ref b), some (.ref a), some (.ref sh), none, none, none, none, none, none, none, none, none] ∧ HandAt H' hh c ∧ H' b = some (.tup (rowV sz)) ∧ H' a = some (.lst (refs L)) ∧ SheetAt K H' sh sz L, ?_, ?_⟩
    · refine ⟨_, rfl, hh, c, 12, rfl, a3, by decide, by decide, fun d H4 d0 d1 b4 a4 => ⟨rfl, _, rfl, ?_⟩⟩
      rw [dec_int]
      cases cd : d == 0 with
      | false => exact iteF (iteF ⟨rfl, a4, b4 _ _ eb3 nbh, b4 _ _ ea3 nah, S3b S3 a3 b4⟩)
      | true =>
        refine iteT ⟨_, rfl, hh, c, rfl, a4, fun H5 b5 a5 => ⟨true, rfl, ?_⟩⟩
        exact iteF ⟨rfl, a5, b5 _ _ (b4 _ _ eb3 nbh) nbh, b5 _ _ (b4 _ _ ea3 nah) nah, S3b (S3b S3 a3 b4) a4 b5⟩
    clear a3 ea3 eb3 S3
    rintro σ H4 ⟨rfl, a4, eb, ea, S⟩
    have hw := S.wid
    have hne := S.ne
    have AL := S.all
    obtain ⟨of1, of2⟩ := orders_few sz.length (by omega)
    refine ⟨fun σ H' => ∃ (u : Bool) (x6 x7 : Option V), σ = [some (.ref a0), some (.ref hh), some (.ref b), some (.ref a), some (.ref sh), some (.bl u), x6, x7, none, none, none, none, none, none] ∧ Same H4 H' ∧ (u = true ↔ ∃ r, r ∈ rws L ∧ (cnt sz.length (rws L) r).1 ≠ (cnt sz.length (rws L) r).2), ?_, ?_⟩
    · refine ⟨_, rfl, a, rfl, ⟨_, SqL.of ea⟩, ?_⟩
      have wl := walk_list (K := K) (a := a) (xs := refs L)
      rw [refs_len] at wl
      refine for_it wl (fun k σ H' => ∃ (u : Bool) (x6 x7 : Option V), σ = [some (.ref a0), some (.ref hh), some (.ref b), some (.ref a), some (.ref sh), some (.bl u), x6, x7, none, none, none, none, none, none] ∧ Same H4 H' ∧ (u = true ↔ ∃ r, r ∈ (rws L).take k ∧ (cnt sz.length (rws L) r).1 ≠ (cnt sz.length (rws L) r).2))
        ⟨false, none, none, rfl, Same.refl _, ⟨(fun z => nomatch z), (fun ⟨r, hr', _⟩ => nomatch hr')⟩⟩ (fun k σ H' _ p => by obtain ⟨_, _, _, _, s, _⟩ := p; exact SqL.of (s _ _ ea)) ?_ ?_
      · rintro k x σ _ H5 hk ⟨u, x6, x7, rfl, s5, hu⟩ ⟨rfl, hx⟩
        obtain ⟨p, hp, rfl⟩ := refs_get hx
        have hpm : p ∈ L := List.mem_of_getElem? hp
        have hrow : p.2 ∈ rws L := mem_rws hpm
        have lrow := hw p.2 hrow
        refine ⟨_, rfl, b, _, rfl, .inr (SqT.of (s5 _ _ eb)), (rowV sz).length, rfl, by rw [rowV_len]; exact z4, fun ol OL H6 nol s6 eol AOL eOL => ⟨ol, rfl, ⟨_, SqL.of eol⟩, fun D hD => ?_⟩⟩
        rw [rowV_len] at eOL
        have wo := walk_list (K := K) (a := ol) (xs := refs OL)
        rw [refs_len] at wo
        have lOL : OL.length = (numbers sz.length (rws L) p.2).length := by
          unfold numbers
          rw [← rws_len, eOL, List.length_map, List.length_map]
        have lnum : (numbers sz.length (rws L) p.2).length = (orders sz.length sz.length).length := List.length_map _
        refine lc_same wo (fun _ => true) (fun i y _ => y = V.int ((numbers sz.length (rws L) p.2).getD i 0)) (fun _ _ _ _ _ e => e) hD (by omega) (fun H' s => SqL.of (s _ _ eol)) ?_ (fun H7 acc s7 hd pr => ?_)
        · rintro i x H7 H8 N hi s7 ⟨rfl, hx⟩ kt _
          obtain ⟨o, ho, rfl⟩ := refs_get hx
          have hom : o ∈ OL := List.mem_of_getElem? ho
          have h1 : (rws OL)[i]? = some o.2 := by
            unfold rws
            rw [List.getElem?_map, ho]
            rfl
          rw [eOL, List.getElem?_map] at h1
          obtain ⟨ord, h2, h3⟩ := Option.map_eq_some_iff.mp h1
          have hord := mem_orders.mp (List.mem_of_getElem? h2)
          have s57 := s5.trans (s6.trans s7)
          have eo := s7 _ _ (AOL o hom)
          rw [← h3, rowV_nat] at eo
          refine ⟨rfl, ?_⟩
          refine ⟨_, rfl, _, rfl, _, rfl, a, o.1, p.1, L, ord, p.2, sz.length, rfl, .inl (SqL.of (s57 _ _ ea)), AL.mono (.of_same s57), hw, by omega, eo, hord.2.2, s57 _ _ (AL p hpm), lrow, fun H9 s9 => kt rfl _ _ s9 ?_⟩
          unfold numbers
          rw [List.getD_eq_getElem?_getD, List.getElem?_map, h2]
          rfl
        · rw [filter_all] at pr
          have e := paired_map (v := fun i => V.int ((numbers sz.length (rws L) p.2).getD i 0)) pr
          rw [lOL, range_map (numbers sz.length (rws L) p.2) 0 V.int] at e
          have s57 := s5.trans (s6.trans s7)
          have hD7 : H7 D = some (.lst ((numbers sz.length (rws L) p.2).map V.int)) := by rw [hd, e]
          obtain ⟨⟨c1, c2⟩, c3, c4⟩ := cnt_bd (n := sz.length) hrow
          refine ⟨_, rfl, _, rfl, sh, sz, L, .ref p.1, rfl, S.mono s57, .inl ⟨p.1, p.2, rfl, s57 _ _ (AL p hpm), hrow, fun v H8 s8 e8 => ?_⟩⟩
          refine ⟨v, _, _, rfl, e8, by omega, by omega, ?_⟩
          refine ⟨_, rfl, D, _, rfl, SqL.of (s8 _ _ hD7), by omega, fun m hm hmin => ⟨_, rfl, D, _, rfl, SqL.of (s8 _ _ hD7), by omega, fun m2 hm2 hmax => ⟨by show 2 ≤ sizeLine; decide, fun z nz => ?_⟩⟩⟩
          have em := numbers_min hrow hm hmin
          have em2 := numbers_max hrow hm2 hmax
          subst em em2
          have s9 := same_new (o := .tup [V.int (cnt sz.length (rws L) p.2).1, V.int (cnt sz.length (rws L) p.2).2]) nz
          refine ⟨z, _, _, rfl, upd_same, by omega, by omega, rfl, _, rfl, ?_⟩
          rw [decide_eq_true rfl]
          refine iteF ?_
          have s59 := s57.trans (s8.trans s9)
          have hpr : (rws L)[k]? = some p.2 := by
            unfold rws
            rw [List.getElem?_map, hp]
            rfl
          have hnext : ∀ u' : Bool, (u' = true ↔ (u = true ∨ (cnt sz.length (rws L) p.2).1 ≠ (cnt sz.length (rws L) p.2).2)) → (u' = true ↔ ∃ r, r ∈ (rws L).take (k + 1) ∧ (cnt sz.length (rws L) r).1 ≠ (cnt sz.length (rws L) r).2) := fun u' h => by
            rw [h, hu]
            constructor
            · rintro (⟨r, h1, h2⟩ | h2)
              · refine ⟨r, ?_, h2⟩
                rw [List.take_add_one]
                exact List.mem_append_left _ h1
              · refine ⟨p.2, ?_, h2⟩
                rw [List.take_add_one, hpr]
                exact List.mem_append_right _ (List.mem_singleton.mpr rfl)
            · rintro ⟨r, h1, h2⟩
              rcases take_mem hpr h1 with h1 | h1
              · exact .inl ⟨r, h1, h2⟩
              · rw [h1] at h2
                exact .inr h2
          refine ⟨_, rfl, u, rfl, ?_⟩
          cases u with
          | true => exact iteT ⟨true, _, _, rfl, s59, hnext true ⟨fun _ => .inl rfl, fun _ => rfl⟩⟩
          | false =>
            refine iteF ⟨_, rfl, D, _, rfl, SqL.of (s9 _ _ (s8 _ _ hD7)), by omega, fun m hm hmin => ⟨_, rfl, D, _, rfl, SqL.of (s9 _ _ (s8 _ _ hD7)), by omega, fun m2 hm2 hmax => ⟨rfl, _, _, _, rfl, s59, hnext _ ?_⟩⟩⟩
            rw [numbers_min hrow hm hmin, numbers_max hrow hm2 hmax, dec_int]
            constructor
            · intro z
              refine .inr fun y => ?_
              rw [y] at z
              simp at z
            · rintro (z | z)
              · cases z
              · simpa using z
      · rintro σ H5 ⟨u, x6, x7, rfl, s5, hu⟩
        rw [List.take_of_length_le (by rw [rws_len]; exact Nat.le_refl _)] at hu
        exact ⟨u, x6, x7, rfl, s5, hu⟩
    rintro σ H5 ⟨u, x6, x7, rfl, s5, hu⟩
    have hun := looseF_unlike hw hne
    refine ⟨_, rfl, a, L, sz.length, rfl, s5 _ _ ea, AL.mono (.of_same s5), hne, hw, by omega, by omega, fun d E H6 nd s6 od RD ek => ?_⟩
    refine ⟨fun σ H' => ∃ o : V, σ = [some (.ref a0), some (.ref hh), some (.ref b), some (.ref a), some (.ref sh), some (.bl u), x6, x7, some (.ref d), some o, none, none, none, none] ∧ Same H6 H' ∧ ((o = .non ∧ looseF sz.length L = none) ∨ ∃ st t x b, o = .ref x ∧ looseF sz.length L = some (st, t) ∧ H' b = some (.tup (stV st)) ∧ H' x = some (.tup [.ref b, .ref t.1.1, .int t.2.1, .int t.2.2])), ?_, ?_⟩
    · exact ⟨_, rfl, sh, sz, L, rfl, S.mono (s5.trans s6), fun hno H7 s7 => ⟨.non, rfl, s7, .inl ⟨rfl, hno⟩⟩, fun st t ht x9 b9 H7 n9 s7 e9 t9 => ⟨_, rfl, s7, .inr ⟨st, t, x9, b9, rfl, ht, e9, t9⟩⟩⟩
    rintro σ H7 ⟨o, rfl, s7, ho⟩
    have eo : (!decide (o = V.non)) = u := by
      rcases ho with ⟨rfl, hno⟩ | ⟨st, t, x, b9, rfl, ht, _⟩
      · rw [hno] at hun
        refine (Bool.eq_false_iff.mpr fun z => ?_).symm
        exact nomatch hun.mpr (hu.mp z)
      · rw [ht] at hun
        exact (hu.mpr (hun.mp rfl)).symm
    refine ⟨_, rfl, rfl, _, rfl, rfl, _, rfl, ?_⟩
    rw [eo, decide_eq_true rfl]
    refine iteF ?_
    have s57 := s5.trans (s6.trans s7)
    refine ⟨_, rfl, d, E, L, sz.length, rfl, s7 _ _ od, RD.same s7, AL.mono (.of_same s57), hw, hne, by omega, by omega, ek, fun res H8 s8 hres => ⟨_, rfl, rfl, _, rfl, ?_⟩⟩
    have er : res = u := by
      rw [Bool.eq_iff_iff, hres, hu]
      exact unlike_reached.symm
    rw [er, decide_eq_true rfl]
    refine iteF ?_
    have s58 := s57.trans s8
    refine ⟨fun σ H' => σ = [some (.ref a0), some (.ref hh), some (.ref b), some (.ref a), some (.ref sh), some (.bl u), x6, x7, some (.ref d), some o, none, none, none, none] ∧ Same H8 H', ?_, ?_⟩
    · refine ⟨_, rfl, rfl, _, rfl, ?_⟩
      rcases ho with ⟨rfl, hno⟩ | ⟨st, t, x, b9, rfl, ht, e9, t9⟩
      · exact iteF ⟨rfl, Same.refl _⟩
      · obtain ⟨f1, f2, f3⟩ := looseF_some hw hne ht
        have r4 := AL t.1 (List.mem_filter.mp f2).1
        have e8 := s8 _ _ e9
        have t8 := s8 _ _ t9
        have fr : rws (fitL L st) = fit (rws L) st := rws_fit L st
        refine iteT ?_
        refine ⟨.ref x, rfl, .ref x, .ty "tuple", .type "tuple", .type "tuple", true, rfl, .ty _, tyTup t8, kitTT, true, rfl, ?_⟩
        refine ⟨_, rfl, x, _, rfl, .inr (SqT.of t8), rfl, _, rfl, ?_⟩
        refine ⟨_, rfl, _, rfl, sh, x, b9, t.1.1, sz, L, st, t.1.2, t.2.1, t.2.2, rfl, S.mono s58, t8, e8, s58 _ _ r4, f1, f3, fun H9 s9 => ⟨_, _, rfl, rfl, _, rfl, ?_⟩⟩
        refine iteF ?_
        have s59 := s58.trans s9
        have e9 := s9 _ _ e8
        have t9 := s9 _ _ t8
        refine ⟨_, rfl, _, rfl, x, _, 0, _, rfl, rfl, SqT.of t9, rfl, _, rfl, x, _, 1, _, rfl, rfl, SqT.of t9, rfl, _, rfl, x, _, 2, _, rfl, rfl, SqT.of t9, rfl, _, rfl, x, _, 3, _, rfl, rfl, SqT.of t9, rfl, ?_⟩
        refine ⟨d, b9, t.1.1, E, L, sz.length, st, t.1.2, t.2.1, t.2.2, rfl, RD.same (s7.trans (s8.trans s9)), AL.mono (.of_same s59), hw, by omega, by omega, (ek st).mpr f1, e9, s59 _ _ r4, f3.1, f3.2.1, f3.2.2.1, fun H10 s10 => ⟨_, rfl, ?_⟩⟩
        have lb : looseB sz.length (fitL L st) t.1.2 t.2.1 t.2.2 = true := (looseB_at (n := sz.length)).mpr (by rw [fr]; exact f3.2.2.2)
        rw [lb]
        refine ⟨_, rfl, sh, sz, L, rfl, S.mono (s59.trans s10), fun hno => ?_, fun st2 t2 ht2 x2 b2 H11 n2 s11 e2 t2' => ?_⟩
        · rw [ht] at hno
          cases hno
        · rw [ht] at ht2
          cases ht2
          have s411 := s59.trans (s10.trans s11)
          refine ⟨_, rfl, tellD st t, tellD st t, tellDp t2' e2 (s411 _ _ r4), tellDp (s11 _ _ (s10 _ _ t9)) (s11 _ _ (s10 _ _ e9)) (s411 _ _ r4), tell_shaped _ _, tell_shaped _ _, _, rfl, ?_⟩
          rw [tell_eqv]
          exact iteF ⟨rfl, s9.trans (s10.trans s11)⟩
    rintro σ H9 ⟨rfl, s9⟩
    have sA := s58.trans s9
    have a9 := a4.same sA
    have S9 := S.mono sA
    have eb9 := sA _ _ eb
    have ea9 := sA _ _ ea
    clear s9 sA s58 s57 s8 s7 s6 s5 RD od ho eo hu hun S ea eb a4 hres er AL
    have AL9 := S9.all
    -- a row, a place, another row
    refine ⟨_, rfl, _, rfl, _, rfl, a, _, rfl, .inl (SqL.of ea9), hh, c, (refs L).length, rfl, a9, by rw [refs_len]; omega, by rw [refs_len]; omega, fun k' H10 k0 k1 b10 a10 => ?_⟩
    rw [refs_len] at k1
    obtain ⟨k, rfl⟩ : ∃ k : Nat, k' = k := ⟨k'.toNat, by omega⟩
    have hk : k < L.length := by omega
    have hp : L[k]? = some L[k] := List.getElem?_eq_getElem hk
    generalize L[k] = p at hp
    have hpm : p ∈ L := List.mem_of_getElem? hp
    have hrow : p.2 ∈ rws L := mem_rws hpm
    have lrow := hw p.2 hrow
    have S10 := S3b S9 a9 b10
    have eb10 := b10 _ _ eb9 nbh
    have ea10 := b10 _ _ ea9 nah
    refine ⟨a, _, (k : Int), .ref p.1, rfl, rfl, SqL.of ea10, atI_nat (j := k) (by unfold refs; rw [List.getElem?_map, hp]; rfl), ?_⟩
    refine ⟨_, rfl, _, rfl, b, _, rfl, .inr (SqT.of eb10), hh, c, (rowV sz).length, rfl, a10, by rw [rowV_len]; omega, by rw [rowV_len]; omega, fun m' H11 m0 m1 b11 a11 => ?_⟩
    rw [rowV_len] at m1
    obtain ⟨m, rfl⟩ : ∃ m : Nat, m' = m := ⟨m'.toNat, by omega⟩
    have hm : m < sz.length := by omega
    have S11 := S3b S10 a10 b11
    have eb11 := b11 _ _ eb10 nbh
    have ea11 := b11 _ _ ea10 nah
    have r11 := S11.all p hpm
    have hmv : m < (rowV p.2).length := by rw [rowV_len, lrow]; exact hm
    refine ⟨fun σ H' => ∃ (y : Addr) (r : Row), σ = [some (.ref a0), some (.ref hh), some (.ref b), some (.ref a), some (.ref sh), some (.bl u), some (.ref p.1), x7, some (.ref d), some o, some (.int m), some (.ref y), none, none] ∧ HandAt H' hh c ∧ SheetAt K H' sh sz L ∧ H' b = some (.tup (rowV sz)) ∧ H' a = some (.lst (refs L)) ∧ H' y = some (.tup (rowV r)) ∧ r.length = sz.length, ?_, ?_⟩
    · refine ⟨_, rfl, _, rfl, (m : Int), rfl, ?_⟩
      refine rSl_lo r11 hmv fun p1 H12 s12 e12 => ?_
      have S12 := S11.mono s12
      have a12 := a11.same s12
      have sm := hsz m hm
      refine ⟨_, rfl, _, rfl, _, rfl, rIxT_of (s12 _ _ eb11) (rowV_at hm) ⟨hh, c, ans sz m, rfl, a12, by omega, by omega, fun v H13 v0 v1 b13 a13 => ⟨by show 1 ≤ sizeLine; decide, fun p2 n2 => ?_⟩⟩⟩
      have s14 := same_new (o := .tup [V.int v]) n2
      have S14 := (S3b S12 a12 b13).mono s14
      have eb14 := s14 _ _ (b13 _ _ (s12 _ _ eb11) nbh)
      have ea14 := s14 _ _ (b13 _ _ (s12 _ _ ea11) nah)
      have a14 := a13.same s14
      have e14 := s14 _ _ (b13 _ _ e12 (by
        obtain ⟨⟨ys, ey⟩, _⟩ := a12.some
        exact ne_of e12 ey (fun z => nomatch z)))
      refine rCat_of e14 upd_same (by rw [List.length_take, rowV_len]; show _ + 1 ≤ _; omega) fun p3 H15 s15 e15 => ?_
      refine ⟨_, rfl, _, rfl, (m : Int), 1, rfl, rfl, ((m : Int) + 1), rfl, ?_⟩
      simp only [tNoPart]
      refine rSl_hi ((S14.mono s15).all p hpm) hmv fun p4 H16 s16 e16 => ?_
      refine rCat_of (s16 _ _ e15) e16 (by rw [List.length_append, List.length_take, List.length_drop, rowV_len]; show _ + 1 + _ ≤ _; omega) fun p5 H17 s17 e17 => ?_
      have s57 := s15.trans (s16.trans s17)
      refine ⟨p5, p.2.set m v, rfl, a14.same s57, S14.mono s57, s57 _ _ eb14, s57 _ _ ea14, ?_, by rw [List.length_set]; exact lrow⟩
      rw [e17, set_cut (rowV p.2) m (.int v) hmv, rowV_set]
    clear r11 ea11 eb11 S11 a11 b11 ea10 eb10 S10 a10 b10 ea9 eb9 S9 a9 AL9
    rintro σ H1 ⟨y, r, rfl, a1, S1, eb1, ea1, ey, lr⟩
    have AL1 := S1.all
    have hr' : (r ∈ rws L ∧ (rws L).contains r = true) ∨ (r ∉ rws L ∧ (rws L).contains r = false) := by
      by_cases z : r ∈ rws L
      · exact .inl ⟨z, List.contains_iff_mem.mpr z⟩
      · exact .inr ⟨z, Bool.eq_false_iff.mpr fun w => z (List.contains_iff_mem.mp w)⟩
    refine ⟨fun σ H' => σ = [some (.ref a0), some (.ref hh), some (.ref b), some (.ref a), some (.ref sh), some (.bl u), some (.ref p.1), x7, some (.ref d), some o, some (.int m), some (.ref y), none, none] ∧ Same H1 H', ?_, ?_⟩
    · refine ⟨_, rfl, _, rfl, sh, sz, L, .ref y, rfl, S1, ?_⟩
      rcases hr' with ⟨z, e⟩ | ⟨z, e⟩
      · refine .inl ⟨y, r, rfl, ey, z, fun H2 s2 => ?_⟩
        refine ⟨_, rfl, _, rfl, rowD r, rowsD (rws L), dpRow (s2 _ _ ey), dpRowsL (SqL.of (s2 _ _ ea1)) (AL1.mono (.of_same s2)), row_shaped _, rowsL_shaped _, rfl, _, rfl, ?_⟩
        rw [any_rows, e]
        exact iteF ⟨rfl, s2⟩
      · refine .inr ⟨.inr ⟨y, r, rfl, ey, by omega, z⟩, fun H2 s2 => ?_⟩
        refine ⟨_, rfl, _, rfl, rowD r, rowsD (rws L), dpRow (s2 _ _ ey), dpRowsL (SqL.of (s2 _ _ ea1)) (AL1.mono (.of_same s2)), row_shaped _, rowsL_shaped _, rfl, _, rfl, ?_⟩
        rw [any_rows, e]
        exact iteF ⟨rfl, s2⟩
    rintro σ H2 ⟨rfl, s2⟩
    have a2 := a1.same s2
    have S2 := S1.mono s2
    have eb2 := s2 _ _ eb1
    clear hr' AL1 ea1 eb1 S1 a1
    have r2 := S2.all p hpm
    refine ⟨fun σ H' => ∃ (od : Addr) (xs : List V), σ = [some (.ref a0), some (.ref hh), some (.ref b), some (.ref a), some (.ref sh), some (.bl u), some (.ref p.1), x7, some (.ref d), some o, some (.int m), some (.ref y), some (.ref od), none] ∧ od ≠ hh ∧ HandAt H' hh c ∧ SheetAt K H' sh sz L ∧ H' od = some (.lst xs) ∧ xs.length = 11 ∧ ∀ H'', But hh H' H'' → ∀ x, x ∈ xs → badRow K H'' sz L x, ?_, ?_⟩
    · refine ⟨Nat.zero_le _, fun t1 n1 => ?_⟩
      have sA := same_new (o := .tup []) n1
      have eA : (upd H2 t1 (.tup [])) t1 = some (.tup []) := upd_same
      generalize (upd H2 t1 (.tup [])) = HA at sA eA ⊢
      refine ⟨_, rfl, p.1, _, rfl, .inr (SqT.of (sA _ _ r2)), fun l nl => ?_⟩
      have nlh : l ≠ hh := by
        obtain ⟨⟨ys, ey⟩, _⟩ := (a2.same sA).some
        exact (ne_of_none ey nl).symm
      have sB := same_new (o := .lst (rowV p.2)) nl
      have eB : (upd HA l (.lst (rowV p.2))) l = some (.lst (rowV p.2)) := upd_same
      generalize (upd HA l (.lst (rowV p.2))) = HB at sB eB ⊢
      have s2B := sA.trans sB
      refine ⟨_, rfl, by show 1 ≤ sizeLine; decide, fun t2 n2 => ?_⟩
      have sC := same_new (o := .tup [V.int 0]) n2
      have s2C := s2B.trans sC
      refine rCat_of (s2C _ _ r2) upd_same (by rw [rowV_len]; show _ + 1 ≤ _; omega) fun c1 HD sD eD => ?_
      have s2D := s2C.trans sD
      refine ⟨_, rfl, 1, rfl, ?_⟩
      simp only [tNoPart]
      refine rSl_1 (s2D _ _ r2) (by rw [rowV_len]; omega) fun c2 HE sE eE => ?_
      have s2E := s2D.trans sE
      refine ⟨by show 1 ≤ sizeLine; decide, fun t3 n3 => ?_⟩
      have sF := same_new (o := .tup [V.bl true]) n3
      have s2F := s2E.trans sF
      refine ⟨_, rfl, p.1, _, rfl, .inr (SqT.of (s2F _ _ r2)), ?_⟩
      refine rRep_one (k := (rowV p.2).length) upd_same (by rw [rowV_len]; omega) fun c3 HG sG eG => ?_
      have s2G := s2F.trans sG
      intro dd nd
      have sI := same_new (o := .dK []) nd
      have eI : (upd HG dd (.dK [])) dd = some (.dK []) := upd_same
      generalize (upd HG dd (.dK [])) = HI at sI eI ⊢
      have s2I := s2G.trans sI
      refine ⟨1, rfl, by show 1 ≤ sizeLine; decide, fun t4 n4 => ?_⟩
      have sJ := same_new (o := .tup [V.int (-1)]) n4
      have s2J := s2I.trans sJ
      refine ⟨_, rfl, p.1, _, rfl, .inr (SqT.of (s2J _ _ r2)), ?_⟩
      refine rRep_one (k := (rowV p.2).length) upd_same (by rw [rowV_len]; omega) fun c4 HK sK eK => ?_
      have s2K := s2J.trans sK
      refine ⟨_, rfl, by show 11 ≤ sizeLine; decide, fun od nod => ?_⟩
      have aK := a2.same s2K
      have odh : od ≠ hh := by
        obtain ⟨⟨ys, ey⟩, _⟩ := aK.some
        exact (ne_of_none ey nod).symm
      refine ⟨od, _, rfl, odh, aK.same (same_new nod), (S2.mono s2K).mono (same_new nod), upd_same, rfl, fun H'' bb x hx => ?_⟩
      have fin : ∀ {z : Addr} {ob : HO}, HK z = some ob → z ≠ hh → H'' z = some ob := fun e n => bb _ _ (same_new nod _ _ e) n
      have ftup : ∀ {z : Addr} {ys : List V}, HK z = some (.tup ys) → H'' z = some (.tup ys) := fun e => fin e (by
        obtain ⟨⟨ys, ey⟩, _⟩ := aK.some
        exact ne_of e ey (fun z => nomatch z))
      have hlen : ∀ r : Row, r.length ≠ sz.length → r ∉ rws L := fun r h hr => h (hw r hr)
      have eD2 : HK c1 = some (.tup (rowV (p.2 ++ [0]))) := by
        rw [sK _ _ (sJ _ _ (sI _ _ (sG _ _ (sF _ _ (sE _ _ eD)))))]
        unfold rowV
        rw [List.map_append]
        rfl
      have eE2 : HK c2 = some (.tup (rowV (p.2.drop 1))) := by
        rw [sK _ _ (sJ _ _ (sI _ _ (sG _ _ (sF _ _ eE))))]
        unfold rowV
        rw [List.map_drop]
      have eK2 : HK c4 = some (.tup (rowV (List.replicate p.2.length (-1)))) := by
        rw [eK, rowV_len]
        unfold rowV
        rw [List.map_replicate]
      have eG2 : HK c3 = some (.tup (List.replicate p.2.length (V.bl true))) := by
        rw [sK _ _ (sJ _ _ (sI _ _ eG)), rowV_len]
      simp only [List.mem_cons, List.mem_nil_iff, or_false, List.not_mem_nil] at hx
      rcases hx with rfl | rfl | rfl | rfl | rfl | rfl | rfl | rfl | rfl | rfl | rfl
      · exact .inl (.other (t := "NoneType") (.base .non) (by decide) (by decide))
      · exact .inr ⟨t1, [], rfl, ftup (sK _ _ (sJ _ _ (sI _ _ (sG _ _ (sF _ _ (sE _ _ (sD _ _ (sC _ _ (sB _ _ eA))))))))), by show 0 ≤ 100; decide, hlen _ (by show 0 ≠ _; omega)⟩
      · exact .inl (.other (t := "list") (.base (.lst (fin (sK _ _ (sJ _ _ (sI _ _ (sG _ _ (sF _ _ (sE _ _ (sD _ _ (sC _ _ eB)))))))) nlh))) (by decide) (by decide))
      · exact .inr ⟨c1, _, rfl, ftup eD2, by rw [List.length_append, lrow]; show _ + 1 ≤ _; omega, hlen _ (by rw [List.length_append, lrow]; show _ + 1 ≠ _; omega)⟩
      · exact .inr ⟨c2, _, rfl, ftup eE2, by rw [List.length_drop, lrow]; omega, hlen _ (by rw [List.length_drop, lrow]; omega)⟩
      · refine .inl ?_
        have e := AnsOf.tup (K := K) (sz := sz) (ftup eG2) (by rw [List.length_replicate, lrow]; omega) (fun y hy => .inr ⟨true, (List.mem_replicate.mp hy).2⟩)
        rw [isAns_bl z1 lrow] at e
        exact e
      · exact .inl (.other (t := "str") (.base (.str _)) (by decide) (by decide))
      · exact .inl (.other (t := "int") (.base (.int _)) (by decide) (by decide))
      · exact .inl (.other (t := "dict") (.base (.dK (fin (sK _ _ (sJ _ _ eI)) (by
          obtain ⟨⟨ys, ey⟩, _⟩ := aK.some
          exact ne_of (sK _ _ (sJ _ _ eI)) ey (fun z => nomatch z))))) (by decide) (by decide))
      · refine .inr ⟨c4, _, rfl, ftup eK2, by rw [List.length_replicate, lrow]; omega, fun hr => ?_⟩
        have h := (S2.rng _ hr).2 0 (by omega)
        rw [rep_ans (by omega)] at h
        omega
      · refine .inr ⟨b, sz, rfl, ftup (s2K _ _ eb2), by omega, fun hr => ?_⟩
        have h := (S2.rng _ hr).2 0 (by omega)
        omega
    · rintro σ H3 ⟨od, xs, rfl, noh, a3, S3, eo3, lx, bad⟩
      refine ⟨_, rfl, _, rfl, _, rfl, hh, c, 11, rfl, a3, by decide, by decide, fun k' H4 k0 k1 b4 a4 => ?_⟩
      obtain ⟨k, rfl⟩ : ∃ k : Nat, k' = k := ⟨k'.toNat, by omega⟩
      have hk : k < xs.length := by omega
      have hx : xs[k]? = some xs[k] := List.getElem?_eq_getElem hk
      have hxm : xs[k] ∈ xs := List.getElem_mem hk
      generalize xs[k] = x at hx hxm
      refine ⟨od, xs, (k : Int), x, rfl, rfl, SqL.of (b4 _ _ eo3 noh), atI_nat (j := k) hx, sh, sz, L, x, rfl, S3b S3 a3 b4, .inr ⟨bad H4 b4 x hxm, fun H5 s5 => q H5⟩⟩
end
end K71
set_option Elab.async false
set_option linter.all false
set_option maxRecDepth 100000
set_option maxHeartbeats 8000000
namespace K71
open PySem PySem.W PySem.Spec PyProof.Rows L2
/-- an error of the class at S is what «except S» names -/
theorem exm_self {K : PySem.W.Frag} {S : Addr} (h1 : PySem.W.subIn K (.ref S) (.type "BaseException") = some true) (h2 : PySem.W.isClsIn K S = true) (h3 : PySem.W.typeIn K (.ref S) = some (.type "type")) (h4 : PySem.W.subIn K (.ref S) (.ref S) = some true) :
    PySem.W.exmOne K (.ref S) (.ref S) = some true := by
  have e1 : (PySem.W.subIn K (.ref S) (.type "BaseException") == some true) = true := by rw [h1] <;> rfl
  have e2 : ((PySem.W.clsIn K S).isSome && PySem.W.typeIn K (.ref S) == some (.type "type")) = true := by
    have h2' : (PySem.W.clsIn K S).isSome = true := h2
    rw [h2', h3] <;> rfl
  show (if (PySem.W.subIn K (.ref S) (.type "BaseException") == some true) = true then (if ((PySem.W.clsIn K S).isSome && PySem.W.typeIn K (.ref S) == some (.type "type")) = true then PySem.W.subIn K (.ref S) (.ref S) else none) else none) = some true
  rw [if_pos e1, if_pos e2]
  exact h4
theorem all_mk {P : Program} {w : World} {K : PySem.W.Frag} {h : Heap} {mg : Str → Option Value} {fa C Ce f0 f1 f2 f3 f4 f5 f6 f7 f8 f9 f10 f11 f12 f13 f14 f15 f16 f17 f18 f19 f20 f21 f22 f23 f24 f25 f26 f27 f28 f29 f30 f31 f32 f33 f34 f35 : Addr} (X : K.In h) (G : h.Ns mainGlobals mg) (hfa : mg "law" = some (.ref fa))
    {od0 od1 od2 od3 od4 od5 od6 od7 od8 od9 od10 od11 od12 od13 od14 od15 od16 od17 od18 od19 od20 od21 od22 od23 od24 od25 od26 od27 od28 od29 od30 od31 od32 od33 od34 od35 an0 an1 an2 an3 an4 an5 an6 an7 an8 an9 an10 an11 an12 an13 an14 an15 an16 an17 an18 an19 an20 an21 an22 an23 an24 an25 an26 an27 an28 an29 an30 an31 an32 an33 an34 an35 : Option Addr} {sl0 sl1 sl2 sl3 sl4 sl5 sl6 sl7 sl8 sl9 sl10 sl11 sl12 sl13 sl14 sl15 sl16 sl17 sl18 sl19 sl20 sl21 sl22 sl23 sl24 sl25 sl26 sl27 sl28 sl29 sl30 sl31 sl32 sl33 sl34 sl35 : Array (Option Value)} {oc0 oc1 oc2 oc3 oc4 oc5 oc6 oc7 oc8 oc9 oc10 oc11 oc12 oc13 oc14 oc15 oc16 oc17 oc18 oc19 oc20 oc21 oc22 oc23 oc24 oc25 oc26 oc27 oc28 oc29 oc30 oc31 oc32 oc33 oc34 oc35 kV0 kV1 kV2 kV3 kV4 kV5 kV6 kV7 kV8 kV9 kV10 kV11 kV12 kV13 kV14 kV15 kV16 kV17 kV18 kV19 kV20 kV21 kV22 kV23 kV24 kV25 kV26 kV27 kV28 kV29 kV30 kV31 kV32 kV33 kV34 kV35 dc0 dc1 dc2 dc3 dc4 dc5 dc6 dc7 dc8 dc9 dc10 dc11 dc12 dc13 dc14 dc15 dc16 dc17 dc18 dc19 dc20 dc21 dc22 dc23 dc24 dc25 dc26 dc27 dc28 dc29 dc30 dc31 dc32 dc33 dc34 dc35 pm0 pm1 pm2 pm3 pm4 pm5 pm6 pm7 pm8 pm9 pm10 pm11 pm12 pm13 pm14 pm15 pm16 pm17 pm18 pm19 pm20 pm21 pm22 pm23 pm24 pm25 pm26 pm27 pm28 pm29 pm30 pm31 pm32 pm33 pm34 pm35 cd0 cd1 cd2 cd3 cd4 cd5 cd6 cd7 cd8 cd9 cd10 cd11 cd12 cd13 cd14 cd15 cd16 cd17 cd18 cd19 cd20 cd21 cd22 cd23 cd24 cd25 cd26 cd27 cd28 cd29 cd30 cd31 cd32 cd33 cd34 cd35 ct0 ct1 ct2 ct3 ct4 ct5 ct6 ct7 ct8 ct9 ct10 ct11 ct12 ct13 ct14 ct15 ct16 ct17 ct18 ct19 ct20 ct21 ct22 ct23 ct24 ct25 ct26 ct27 ct28 ct29 ct30 ct31 ct32 ct33 ct34 ct35 : Value} {tk1 tk2 tk3 : Tok}
    (a0 : PySem.W.nsIn K mainGlobals "is_integer" = some (some (.ref f0)))
    (l0 : K.lookup f0 = some ⟨oc0, od0, .func (PySem.W.fnOf "is_integer" "is_integer" (defArgs s_is_integer) (defBody s_is_integer) (defScope s_is_integer) .none kV0 dc0 pm0 an0 cd0 ct0), sl0⟩)
    (c0 : PySem.W.codeIn K cd0 "is_integer" = true)
    (k0 : PySem.W.keepIn K (.ref f0) = true)
    (a1 : PySem.W.nsIn K mainGlobals "differing" = some (some (.ref f1)))
    (l1 : K.lookup f1 = some ⟨oc1, od1, .func (PySem.W.fnOf "differing" "differing" (defArgs s_differing) (defBody s_differing) (defScope s_differing) .none kV1 dc1 pm1 an1 cd1 ct1), sl1⟩)
    (c1 : PySem.W.codeIn K cd1 "differing" = true)
    (k1 : PySem.W.keepIn K (.ref f1) = true)
    (a2 : PySem.W.nsIn K mainGlobals "is_answers" = some (some (.ref f2)))
    (l2 : K.lookup f2 = some ⟨oc2, od2, .func (PySem.W.fnOf "is_answers" "is_answers" (defArgs s_is_answers) (defBody s_is_answers) (defScope s_is_answers) .none kV2 dc2 pm2 an2 cd2 ct2), sl2⟩)
    (c2 : PySem.W.codeIn K cd2 "is_answers" = true)
    (k2 : PySem.W.keepIn K (.ref f2) = true)
    (a3 : PySem.W.nsIn K mainGlobals "fits_answers" = some (some (.ref f3)))
    (l3 : K.lookup f3 = some ⟨oc3, od3, .func (PySem.W.fnOf "fits_answers" "fits_answers" (defArgs s_fits_answers) (defBody s_fits_answers) (defScope s_fits_answers) .none kV3 dc3 pm3 an3 cd3 ct3), sl3⟩)
    (c3 : PySem.W.codeIn K cd3 "fits_answers" = true)
    (k3 : PySem.W.keepIn K (.ref f3) = true)
    (a4 : PySem.W.nsIn K mainGlobals "sheet_rows_at" = some (some (.ref f4)))
    (l4 : K.lookup f4 = some ⟨oc4, od4, .func (PySem.W.fnOf "sheet_rows_at" "sheet_rows_at" (defArgs s_sheet_rows_at) (defBody s_sheet_rows_at) (defScope s_sheet_rows_at) .none kV4 dc4 pm4 an4 cd4 ct4), sl4⟩)
    (c4 : PySem.W.codeIn K cd4 "sheet_rows_at" = true)
    (k4 : PySem.W.keepIn K (.ref f4) = true)
    (a5 : PySem.W.nsIn K mainGlobals "is_sheet_standing" = some (some (.ref f5)))
    (l5 : K.lookup f5 = some ⟨oc5, od5, .func (PySem.W.fnOf "is_sheet_standing" "is_sheet_standing" (defArgs s_is_sheet_standing) (defBody s_is_sheet_standing) (defScope s_is_sheet_standing) .none kV5 dc5 pm5 an5 cd5 ct5), sl5⟩)
    (c5 : PySem.W.codeIn K cd5 "is_sheet_standing" = true)
    (k5 : PySem.W.keepIn K (.ref f5) = true)
    (a6 : PySem.W.nsIn K mainGlobals "by_answers" = some (some (.ref f6)))
    (l6 : K.lookup f6 = some ⟨oc6, od6, .func (PySem.W.fnOf "by_answers" "by_answers" (defArgs s_by_answers) (defBody s_by_answers) (defScope s_by_answers) .none kV6 dc6 pm6 an6 cd6 ct6), sl6⟩)
    (c6 : PySem.W.codeIn K cd6 "by_answers" = true)
    (k6 : PySem.W.keepIn K (.ref f6) = true)
    (a7 : PySem.W.nsIn K mainGlobals "sheet_reached" = some (some (.ref f7)))
    (l7 : K.lookup f7 = some ⟨oc7, od7, .func (PySem.W.fnOf "sheet_reached" "sheet_reached" (defArgs s_sheet_reached) (defBody s_sheet_reached) (defScope s_sheet_reached) .none kV7 dc7 pm7 an7 cd7 ct7), sl7⟩)
    (c7 : PySem.W.codeIn K cd7 "sheet_reached" = true)
    (k7 : PySem.W.keepIn K (.ref f7) = true)
    (a8 : PySem.W.nsIn K mainGlobals "hangs" = some (some (.ref f8)))
    (l8 : K.lookup f8 = some ⟨oc8, od8, .func (PySem.W.fnOf "hangs" "hangs" (defArgs s_hangs) (defBody s_hangs) (defScope s_hangs) .none kV8 dc8 pm8 an8 cd8 ct8), sl8⟩)
    (c8 : PySem.W.codeIn K cd8 "hangs" = true)
    (k8 : PySem.W.keepIn K (.ref f8) = true)
    (a9 : PySem.W.nsIn K mainGlobals "loose_at" = some (some (.ref f9)))
    (l9 : K.lookup f9 = some ⟨oc9, od9, .func (PySem.W.fnOf "loose_at" "loose_at" (defArgs s_loose_at) (defBody s_loose_at) (defScope s_loose_at) .none kV9 dc9 pm9 an9 cd9 ct9), sl9⟩)
    (c9 : PySem.W.codeIn K cd9 "loose_at" = true)
    (k9 : PySem.W.keepIn K (.ref f9) = true)
    (a10 : PySem.W.nsIn K mainGlobals "loose" = some (some (.ref f10)))
    (l10 : K.lookup f10 = some ⟨oc10, od10, .func (PySem.W.fnOf "loose" "loose" (defArgs s_loose) (defBody s_loose) (defScope s_loose) .none kV10 dc10 pm10 an10 cd10 ct10), sl10⟩)
    (c10 : PySem.W.codeIn K cd10 "loose" = true)
    (k10 : PySem.W.keepIn K (.ref f10) = true)
    (a11 : PySem.W.nsIn K mainGlobals "is_sheet_place" = some (some (.ref f11)))
    (l11 : K.lookup f11 = some ⟨oc11, od11, .func (PySem.W.fnOf "is_sheet_place" "is_sheet_place" (defArgs s_is_sheet_place) (defBody s_is_sheet_place) (defScope s_is_sheet_place) .none kV11 dc11 pm11 an11 cd11 ct11), sl11⟩)
    (c11 : PySem.W.codeIn K cd11 "is_sheet_place" = true)
    (k11 : PySem.W.keepIn K (.ref f11) = true)
    (a12 : PySem.W.nsIn K mainGlobals "is_loose" = some (some (.ref f12)))
    (l12 : K.lookup f12 = some ⟨oc12, od12, .func (PySem.W.fnOf "is_loose" "is_loose" (defArgs s_is_loose) (defBody s_is_loose) (defScope s_is_loose) .none kV12 dc12 pm12 an12 cd12 ct12), sl12⟩)
    (c12 : PySem.W.codeIn K cd12 "is_loose" = true)
    (k12 : PySem.W.keepIn K (.ref f12) = true)
    (a13 : PySem.W.nsIn K mainGlobals "counts_from" = some (some (.ref f13)))
    (l13 : K.lookup f13 = some ⟨oc13, od13, .func (PySem.W.fnOf "counts_from" "counts_from" (defArgs s_counts_from) (defBody s_counts_from) (defScope s_counts_from) .none kV13 dc13 pm13 an13 cd13 ct13), sl13⟩)
    (c13 : PySem.W.codeIn K cd13 "counts_from" = true)
    (k13 : PySem.W.keepIn K (.ref f13) = true)
    (a14 : PySem.W.nsIn K mainGlobals "counts" = some (some (.ref f14)))
    (l14 : K.lookup f14 = some ⟨oc14, od14, .func (PySem.W.fnOf "counts" "counts" (defArgs s_counts) (defBody s_counts) (defScope s_counts) .none kV14 dc14 pm14 an14 cd14 ct14), sl14⟩)
    (c14 : PySem.W.codeIn K cd14 "counts" = true)
    (k14 : PySem.W.keepIn K (.ref f14) = true)
    (a15 : PySem.W.nsIn K mainGlobals "_law_hand" = some (some (.ref f15)))
    (l15 : K.lookup f15 = some ⟨oc15, od15, .func (PySem.W.fnOf "_law_hand" "_law_hand" (defArgs s_l_hand) (defBody s_l_hand) (defScope s_l_hand) .none kV15 dc15 pm15 an15 cd15 ct15), sl15⟩)
    (c15 : PySem.W.codeIn K cd15 "_law_hand" = true)
    (k15 : PySem.W.keepIn K (.ref f15) = true)
    (a16 : PySem.W.nsIn K mainGlobals "_law_draw" = some (some (.ref f16)))
    (l16 : K.lookup f16 = some ⟨oc16, od16, .func (PySem.W.fnOf "_law_draw" "_law_draw" (defArgs s_l_draw) (defBody s_l_draw) (defScope s_l_draw) .none kV16 dc16 pm16 an16 cd16 ct16), sl16⟩)
    (c16 : PySem.W.codeIn K cd16 "_law_draw" = true)
    (k16 : PySem.W.keepIn K (.ref f16) = true)
    (a17 : PySem.W.nsIn K mainGlobals "_law_step" = some (some (.ref f17)))
    (l17 : K.lookup f17 = some ⟨oc17, od17, .func (PySem.W.fnOf "_law_step" "_law_step" (defArgs s_l_step) (defBody s_l_step) (defScope s_l_step) .none kV17 dc17 pm17 an17 cd17 ct17), sl17⟩)
    (c17 : PySem.W.codeIn K cd17 "_law_step" = true)
    (k17 : PySem.W.keepIn K (.ref f17) = true)
    (a18 : PySem.W.nsIn K mainGlobals "_law_span" = some (some (.ref f18)))
    (l18 : K.lookup f18 = some ⟨oc18, od18, .func (PySem.W.fnOf "_law_span" "_law_span" (defArgs s_l_span) (defBody s_l_span) (defScope s_l_span) .none kV18 dc18 pm18 an18 cd18 ct18), sl18⟩)
    (c18 : PySem.W.codeIn K cd18 "_law_span" = true)
    (k18 : PySem.W.keepIn K (.ref f18) = true)
    (a19 : PySem.W.nsIn K mainGlobals "_law_sheet" = some (some (.ref f19)))
    (l19 : K.lookup f19 = some ⟨oc19, od19, .func (PySem.W.fnOf "_law_sheet" "_law_sheet" (defArgs s_l_sheet) (defBody s_l_sheet) (defScope s_l_sheet) .none kV19 dc19 pm19 an19 cd19 ct19), sl19⟩)
    (c19 : PySem.W.codeIn K cd19 "_law_sheet" = true)
    (k19 : PySem.W.keepIn K (.ref f19) = true)
    (a20 : PySem.W.nsIn K mainGlobals "_law_open" = some (some (.ref f20)))
    (l20 : K.lookup f20 = some ⟨oc20, od20, .func (PySem.W.fnOf "_law_open" "_law_open" (defArgs s_l_open) (defBody s_l_open) (defScope s_l_open) .none kV20 dc20 pm20 an20 cd20 ct20), sl20⟩)
    (c20 : PySem.W.codeIn K cd20 "_law_open" = true)
    (k20 : PySem.W.keepIn K (.ref f20) = true)
    (a21 : PySem.W.nsIn K mainGlobals "_law_part" = some (some (.ref f21)))
    (l21 : K.lookup f21 = some ⟨oc21, od21, .func (PySem.W.fnOf "_law_part" "_law_part" (defArgs s_l_part) (defBody s_l_part) (defScope s_l_part) .none kV21 dc21 pm21 an21 cd21 ct21), sl21⟩)
    (c21 : PySem.W.codeIn K cd21 "_law_part" = true)
    (k21 : PySem.W.keepIn K (.ref f21) = true)
    (a22 : PySem.W.nsIn K mainGlobals "_law_answers" = some (some (.ref f22)))
    (l22 : K.lookup f22 = some ⟨oc22, od22, .func (PySem.W.fnOf "_law_answers" "_law_answers" (defArgs s_l_answers) (defBody s_l_answers) (defScope s_l_answers) .none kV22 dc22 pm22 an22 cd22 ct22), sl22⟩)
    (c22 : PySem.W.codeIn K cd22 "_law_answers" = true)
    (k22 : PySem.W.keepIn K (.ref f22) = true)
    (a23 : PySem.W.nsIn K mainGlobals "_law_reached" = some (some (.ref f23)))
    (l23 : K.lookup f23 = some ⟨oc23, od23, .func (PySem.W.fnOf "_law_reached" "_law_reached" (defArgs s_l_reached) (defBody s_l_reached) (defScope s_l_reached) .none kV23 dc23 pm23 an23 cd23 ct23), sl23⟩)
    (c23 : PySem.W.codeIn K cd23 "_law_reached" = true)
    (k23 : PySem.W.keepIn K (.ref f23) = true)
    (a24 : PySem.W.nsIn K mainGlobals "_law_orders" = some (some (.ref f24)))
    (l24 : K.lookup f24 = some ⟨oc24, od24, .func (PySem.W.fnOf "_law_orders" "_law_orders" (defArgs s_l_orders) (defBody s_l_orders) (defScope s_l_orders) .none kV24 dc24 pm24 an24 cd24 ct24), sl24⟩)
    (c24 : PySem.W.codeIn K cd24 "_law_orders" = true)
    (k24 : PySem.W.keepIn K (.ref f24) = true)
    (a25 : PySem.W.nsIn K mainGlobals "_law_counted" = some (some (.ref f25)))
    (l25 : K.lookup f25 = some ⟨oc25, od25, .func (PySem.W.fnOf "_law_counted" "_law_counted" (defArgs s_l_counted) (defBody s_l_counted) (defScope s_l_counted) .none kV25 dc25 pm25 an25 cd25 ct25), sl25⟩)
    (c25 : PySem.W.codeIn K cd25 "_law_counted" = true)
    (k25 : PySem.W.keepIn K (.ref f25) = true)
    (a26 : PySem.W.nsIn K mainGlobals "_law_hangs" = some (some (.ref f26)))
    (l26 : K.lookup f26 = some ⟨oc26, od26, .func (PySem.W.fnOf "_law_hangs" "_law_hangs" (defArgs s_l_hangs) (defBody s_l_hangs) (defScope s_l_hangs) .none kV26 dc26 pm26 an26 cd26 ct26), sl26⟩)
    (c26 : PySem.W.codeIn K cd26 "_law_hangs" = true)
    (k26 : PySem.W.keepIn K (.ref f26) = true)
    (a27 : PySem.W.nsIn K mainGlobals "_law_is_loose" = some (some (.ref f27)))
    (l27 : K.lookup f27 = some ⟨oc27, od27, .func (PySem.W.fnOf "_law_is_loose" "_law_is_loose" (defArgs s_l_is_loose) (defBody s_l_is_loose) (defScope s_l_is_loose) .none kV27 dc27 pm27 an27 cd27 ct27), sl27⟩)
    (c27 : PySem.W.codeIn K cd27 "_law_is_loose" = true)
    (k27 : PySem.W.keepIn K (.ref f27) = true)
    (a28 : PySem.W.nsIn K mainGlobals "_law_some_loose" = some (some (.ref f28)))
    (l28 : K.lookup f28 = some ⟨oc28, od28, .func (PySem.W.fnOf "_law_some_loose" "_law_some_loose" (defArgs s_l_some_loose) (defBody s_l_some_loose) (defScope s_l_some_loose) .none kV28 dc28 pm28 an28 cd28 ct28), sl28⟩)
    (c28 : PySem.W.codeIn K cd28 "_law_some_loose" = true)
    (k28 : PySem.W.keepIn K (.ref f28) = true)
    (a29 : PySem.W.nsIn K mainGlobals "_law_refused" = some (some (.ref f29)))
    (l29 : K.lookup f29 = some ⟨oc29, od29, .func (PySem.W.fnOf "_law_refused" "_law_refused" (defArgs s_l_refused) (defBody s_l_refused) (defScope s_l_refused) .none kV29 dc29 pm29 an29 cd29 ct29), sl29⟩)
    (c29 : PySem.W.codeIn K cd29 "_law_refused" = true)
    (k29 : PySem.W.keepIn K (.ref f29) = true)
    (a30 : PySem.W.nsIn K mainGlobals "_law_all" = some (some (.ref f30)))
    (l30 : K.lookup f30 = some ⟨oc30, od30, .func (PySem.W.fnOf "_law_all" "_law_all" (defArgs s_l_all) (defBody s_l_all) (defScope s_l_all) .none kV30 dc30 pm30 an30 cd30 ct30), sl30⟩)
    (c30 : PySem.W.codeIn K cd30 "_law_all" = true)
    (k30 : PySem.W.keepIn K (.ref f30) = true)
    (a31 : PySem.W.nsIn K mainGlobals "_law_great" = some (some (.ref f31)))
    (l31 : K.lookup f31 = some ⟨oc31, od31, .func (PySem.W.fnOf "_law_great" "_law_great" (defArgs s_l_great) (defBody s_l_great) (defScope s_l_great) .none kV31 dc31 pm31 an31 cd31 ct31), sl31⟩)
    (c31 : PySem.W.codeIn K cd31 "_law_great" = true)
    (k31 : PySem.W.keepIn K (.ref f31) = true)
    (a32 : PySem.W.nsIn K mainGlobals "_law_both_counts" = some (some (.ref f32)))
    (l32 : K.lookup f32 = some ⟨oc32, od32, .func (PySem.W.fnOf "_law_both_counts" "_law_both_counts" (defArgs s_l_both_counts) (defBody s_l_both_counts) (defScope s_l_both_counts) .none kV32 dc32 pm32 an32 cd32 ct32), sl32⟩)
    (c32 : PySem.W.codeIn K cd32 "_law_both_counts" = true)
    (k32 : PySem.W.keepIn K (.ref f32) = true)
    (a33 : PySem.W.nsIn K mainGlobals "_law_great_right" = some (some (.ref f33)))
    (l33 : K.lookup f33 = some ⟨oc33, od33, .func (PySem.W.fnOf "_law_great_right" "_law_great_right" (defArgs s_l_great_right) (defBody s_l_great_right) (defScope s_l_great_right) .none kV33 dc33 pm33 an33 cd33 ct33), sl33⟩)
    (c33 : PySem.W.codeIn K cd33 "_law_great_right" = true)
    (k33 : PySem.W.keepIn K (.ref f33) = true)
    (a34 : PySem.W.nsIn K mainGlobals "law" = some (some (.ref f34)))
    (l34 : K.lookup f34 = some ⟨oc34, od34, .func (PySem.W.fnOf "law" "law" (defArgs s_law) (defBody s_law) (defScope s_law) .none kV34 dc34 pm34 an34 cd34 ct34), sl34⟩)
    (c34 : PySem.W.codeIn K cd34 "law" = true)
    (k34 : PySem.W.keepIn K (.ref f34) = true)
    (aC : PySem.W.nsIn K mainGlobals "Sheet" = some (some (.ref C)))
    (a35 : PySem.W.findIn K (.ref C) "__init__" = some (some (.ref f35)))
    (i35 : PySem.W.isFn K (.ref f35) = true)
    (l35 : K.lookup f35 = some ⟨oc35, od35, .func (PySem.W.fnOf "__init__" "Sheet.__init__" (defArgs s_sheet_init) (defBody s_sheet_init) (defScope s_sheet_init) .none kV35 dc35 pm35 an35 cd35 ct35), sl35⟩)
    (c35 : PySem.W.codeIn K cd35 "Sheet.__init__" = true)
    (k35 : PySem.W.keepIn K (.ref f35) = true)
    (pg : PySem.W.plainGet K C Str.empty = true)
    (hd : PySem.W.hasDictIn K C = true)
    (po : PySem.W.plainOver K C = true)
    (sa : PySem.W.findIn K (.ref C) "__setattr__" = some (some (.builtin "object.__setattr__")))
    (mk : PySem.W.makesIn K C = true)
    (kc : PySem.W.keepIn K (.ref C) = true)
    (nS : PySem.W.findIn K (.ref C) "sizes" = some none)
    (nR : PySem.W.findIn K (.ref C) "rows" = some none)
    (gP : PySem.W.nsIn K mainGlobals "BadRow" = some (some (.ref Ce)))
    (xP : PySem.W.excIn K Ce [.type "ValueError", .type "Exception", .type "BaseException", .type "object"] "ValueError.__new__" = true)
    (kP : PySem.W.keepIn K (.ref Ce) = true)
    (bP : PySem.W.subIn K (.ref Ce) (.type "BaseException") = some true)
    (tP : PySem.W.typeIn K (.ref Ce) = some (.type "type"))
    (iP : PySem.W.isClsIn K Ce = true)
    (sP : PySem.W.subIn K (.ref Ce) (.ref Ce) = some true)
    (m1 : PySem.W.nsIn K mainGlobals "MOST_SIZES" = some (some (.int 6 tk1)))
    (m2 : PySem.W.nsIn K mainGlobals "MOST_SIZE" = some (some (.int 6 tk2)))
    (m3 : PySem.W.nsIn K mainGlobals "MOST_ROWS" = some (some (.int 64 tk3)))
    (z_isi : PySem.W.nsIn K mainGlobals "isinstance" = some none)
    (z_int : PySem.W.nsIn K mainGlobals "int" = some none)
    (z_bool : PySem.W.nsIn K mainGlobals "bool" = some none)
    (z_tuple : PySem.W.nsIn K mainGlobals "tuple" = some none)
    (z_list : PySem.W.nsIn K mainGlobals "list" = some none)
    (z_set : PySem.W.nsIn K mainGlobals "set" = some none)
    (z_len : PySem.W.nsIn K mainGlobals "len" = some none)
    (z_all : PySem.W.nsIn K mainGlobals "all" = some none)
    (z_any : PySem.W.nsIn K mainGlobals "any" = some none)
    (z_zip : PySem.W.nsIn K mainGlobals "zip" = some none)
    (z_enum : PySem.W.nsIn K mainGlobals "enumerate" = some none)
    (z_sorted : PySem.W.nsIn K mainGlobals "sorted" = some none)
    (z_range : PySem.W.nsIn K mainGlobals "range" = some none)
    (z_min : PySem.W.nsIn K mainGlobals "min" = some none)
    (z_max : PySem.W.nsIn K mainGlobals "max" = some none)
    (z_repr : PySem.W.nsIn K mainGlobals "repr" = some none)
    (z_abs : PySem.W.nsIn K mainGlobals "abs" = some none) :
    ∃ fd : FuncData, (∀ (s : Shared) (v : Value), BindsTo s fd ⟨[v], []⟩ [("_law_script", v)]) ∧ ∀ base : Heap, K.In base → base.Ns mainGlobals mg → RunG P w K mg base CX0 11 fa fd ["_law_script"] (spLaw K) := by
  have e := hfa.symm.trans (PySem.W.mg_of X G a34)
  cases e
  have B : Bi mg := ⟨PySem.W.mg_none_of X G z_isi, PySem.W.mg_none_of X G z_int, PySem.W.mg_none_of X G z_bool, PySem.W.mg_none_of X G z_tuple, PySem.W.mg_none_of X G z_list, PySem.W.mg_none_of X G z_set, PySem.W.mg_none_of X G z_len, PySem.W.mg_none_of X G z_all, PySem.W.mg_none_of X G z_any, PySem.W.mg_none_of X G z_zip, PySem.W.mg_none_of X G z_enum, PySem.W.mg_none_of X G z_sorted, PySem.W.mg_none_of X G z_range, PySem.W.mg_none_of X G z_min, PySem.W.mg_none_of X G z_max, PySem.W.mg_none_of X G z_repr, PySem.W.mg_none_of X G z_abs⟩
  have T : Con mg := ⟨⟨_, PySem.W.mg_of X G m1⟩, ⟨_, PySem.W.mg_of X G m2⟩, ⟨_, PySem.W.mg_of X G m3⟩⟩
  have S : ShC K C := ⟨⟨pg, hd, po, sa⟩, nS, nR⟩
  have R : BadR K mg Ce := ⟨PySem.W.mg_of X G gP, xP, kP, bP, tP⟩
  have eP := exm_self bP iP tP sP
  have P0 : Placed K mg "is_integer" s_is_integer p_is_integer := ⟨_, _, fun_mk (st := s_is_integer) l0 c0 k0, PySem.W.mg_of X G a0, (fun_mk (st := s_is_integer) l0 c0 k0).binds (ps := p_is_integer) fun _ _ _ _ _ _ us hl => match us, hl with | [_], _ => rfl⟩
  have P1 : Placed K mg "differing" s_differing p_differing := ⟨_, _, fun_mk (st := s_differing) l1 c1 k1, PySem.W.mg_of X G a1, (fun_mk (st := s_differing) l1 c1 k1).binds (ps := p_differing) fun _ _ _ _ _ _ us hl => match us, hl with | [_], _ => rfl⟩
  have P2 : Placed K mg "is_answers" s_is_answers p_is_answers := ⟨_, _, fun_mk (st := s_is_answers) l2 c2 k2, PySem.W.mg_of X G a2, (fun_mk (st := s_is_answers) l2 c2 k2).binds (ps := p_is_answers) fun _ _ _ _ _ _ us hl => match us, hl with | [_, _], _ => rfl⟩
  have P3 : Placed K mg "fits_answers" s_fits_answers p_fits_answers := ⟨_, _, fun_mk (st := s_fits_answers) l3 c3 k3, PySem.W.mg_of X G a3, (fun_mk (st := s_fits_answers) l3 c3 k3).binds (ps := p_fits_answers) fun _ _ _ _ _ _ us hl => match us, hl with | [_, _], _ => rfl⟩
  have P4 : Placed K mg "sheet_rows_at" s_sheet_rows_at p_sheet_rows_at := ⟨_, _, fun_mk (st := s_sheet_rows_at) l4 c4 k4, PySem.W.mg_of X G a4, (fun_mk (st := s_sheet_rows_at) l4 c4 k4).binds (ps := p_sheet_rows_at) fun _ _ _ _ _ _ us hl => match us, hl with | [_, _], _ => rfl⟩
  have P5 : Placed K mg "is_sheet_standing" s_is_sheet_standing p_is_sheet_standing := ⟨_, _, fun_mk (st := s_is_sheet_standing) l5 c5 k5, PySem.W.mg_of X G a5, (fun_mk (st := s_is_sheet_standing) l5 c5 k5).binds (ps := p_is_sheet_standing) fun _ _ _ _ _ _ us hl => match us, hl with | [_, _], _ => rfl⟩
  have P6 : Placed K mg "by_answers" s_by_answers p_by_answers := ⟨_, _, fun_mk (st := s_by_answers) l6 c6 k6, PySem.W.mg_of X G a6, (fun_mk (st := s_by_answers) l6 c6 k6).binds (ps := p_by_answers) fun _ _ _ _ _ _ us hl => match us, hl with | [_, _], _ => rfl⟩
  have P7 : Placed K mg "sheet_reached" s_sheet_reached p_sheet_reached := ⟨_, _, fun_mk (st := s_sheet_reached) l7 c7 k7, PySem.W.mg_of X G a7, (fun_mk (st := s_sheet_reached) l7 c7 k7).binds (ps := p_sheet_reached) fun _ _ _ _ _ _ us hl => match us, hl with | [_], _ => rfl⟩
  have P8 : Placed K mg "hangs" s_hangs p_hangs := ⟨_, _, fun_mk (st := s_hangs) l8 c8 k8, PySem.W.mg_of X G a8, (fun_mk (st := s_hangs) l8 c8 k8).binds (ps := p_hangs) fun _ _ _ _ _ _ us hl => match us, hl with | [_, _, _, _], _ => rfl⟩
  have P9 : Placed K mg "loose_at" s_loose_at p_loose_at := ⟨_, _, fun_mk (st := s_loose_at) l9 c9 k9, PySem.W.mg_of X G a9, (fun_mk (st := s_loose_at) l9 c9 k9).binds (ps := p_loose_at) fun _ _ _ _ _ _ us hl => match us, hl with | [_], _ => rfl⟩
  have P10 : Placed K mg "loose" s_loose p_loose := ⟨_, _, fun_mk (st := s_loose) l10 c10 k10, PySem.W.mg_of X G a10, (fun_mk (st := s_loose) l10 c10 k10).binds (ps := p_loose) fun _ _ _ _ _ _ us hl => match us, hl with | [_], _ => rfl⟩
  have P11 : Placed K mg "is_sheet_place" s_is_sheet_place p_is_sheet_place := ⟨_, _, fun_mk (st := s_is_sheet_place) l11 c11 k11, PySem.W.mg_of X G a11, (fun_mk (st := s_is_sheet_place) l11 c11 k11).binds (ps := p_is_sheet_place) fun _ _ _ _ _ _ us hl => match us, hl with | [_, _], _ => rfl⟩
  have P12 : Placed K mg "is_loose" s_is_loose p_is_loose := ⟨_, _, fun_mk (st := s_is_loose) l12 c12 k12, PySem.W.mg_of X G a12, (fun_mk (st := s_is_loose) l12 c12 k12).binds (ps := p_is_loose) fun _ _ _ _ _ _ us hl => match us, hl with | [_, _], _ => rfl⟩
  have P13 : Placed K mg "counts_from" s_counts_from p_counts_from := ⟨_, _, fun_mk (st := s_counts_from) l13 c13 k13, PySem.W.mg_of X G a13, (fun_mk (st := s_counts_from) l13 c13 k13).binds (ps := p_counts_from) fun _ _ _ _ _ _ us hl => match us, hl with | [_, _, _], _ => rfl⟩
  have P14 : Placed K mg "counts" s_counts p_counts := ⟨_, _, fun_mk (st := s_counts) l14 c14 k14, PySem.W.mg_of X G a14, (fun_mk (st := s_counts) l14 c14 k14).binds (ps := p_counts) fun _ _ _ _ _ _ us hl => match us, hl with | [_, _], _ => rfl⟩
  have P15 : Placed K mg "_law_hand" s_l_hand p_l_hand := ⟨_, _, fun_mk (st := s_l_hand) l15 c15 k15, PySem.W.mg_of X G a15, (fun_mk (st := s_l_hand) l15 c15 k15).binds (ps := p_l_hand) fun _ _ _ _ _ _ us hl => match us, hl with | [_], _ => rfl⟩
  have P16 : Placed K mg "_law_draw" s_l_draw p_l_draw := ⟨_, _, fun_mk (st := s_l_draw) l16 c16 k16, PySem.W.mg_of X G a16, (fun_mk (st := s_l_draw) l16 c16 k16).binds (ps := p_l_draw) fun _ _ _ _ _ _ us hl => match us, hl with | [_, _], _ => rfl⟩
  have P17 : Placed K mg "_law_step" s_l_step p_l_step := ⟨_, _, fun_mk (st := s_l_step) l17 c17 k17, PySem.W.mg_of X G a17, (fun_mk (st := s_l_step) l17 c17 k17).binds (ps := p_l_step) fun _ _ _ _ _ _ us hl => match us, hl with | [_, _, _], _ => rfl⟩
  have P18 : Placed K mg "_law_span" s_l_span p_l_span := ⟨_, _, fun_mk (st := s_l_span) l18 c18 k18, PySem.W.mg_of X G a18, (fun_mk (st := s_l_span) l18 c18 k18).binds (ps := p_l_span) fun _ _ _ _ _ _ us hl => match us, hl with | [_, _, _], _ => rfl⟩
  have P19 : Placed K mg "_law_sheet" s_l_sheet p_l_sheet := ⟨_, _, fun_mk (st := s_l_sheet) l19 c19 k19, PySem.W.mg_of X G a19, (fun_mk (st := s_l_sheet) l19 c19 k19).binds (ps := p_l_sheet) fun _ _ _ _ _ _ us hl => match us, hl with | [_, _, _], _ => rfl⟩
  have P20 : Placed K mg "_law_open" s_l_open p_l_open := ⟨_, _, fun_mk (st := s_l_open) l20 c20 k20, PySem.W.mg_of X G a20, (fun_mk (st := s_l_open) l20 c20 k20).binds (ps := p_l_open) fun _ _ _ _ _ _ us hl => match us, hl with | [_], _ => rfl⟩
  have P21 : Placed K mg "_law_part" s_l_part p_l_part := ⟨_, _, fun_mk (st := s_l_part) l21 c21 k21, PySem.W.mg_of X G a21, (fun_mk (st := s_l_part) l21 c21 k21).binds (ps := p_l_part) fun _ _ _ _ _ _ us hl => match us, hl with | [_, _, _], _ => rfl⟩
  have P22 : Placed K mg "_law_answers" s_l_answers p_l_answers := ⟨_, _, fun_mk (st := s_l_answers) l22 c22 k22, PySem.W.mg_of X G a22, (fun_mk (st := s_l_answers) l22 c22 k22).binds (ps := p_l_answers) fun _ _ _ _ _ _ us hl => match us, hl with | [_, _], _ => rfl⟩
  have P23 : Placed K mg "_law_reached" s_l_reached p_l_reached := ⟨_, _, fun_mk (st := s_l_reached) l23 c23 k23, PySem.W.mg_of X G a23, (fun_mk (st := s_l_reached) l23 c23 k23).binds (ps := p_l_reached) fun _ _ _ _ _ _ us hl => match us, hl with | [_], _ => rfl⟩
  have P24 : Placed K mg "_law_orders" s_l_orders p_l_orders := ⟨_, _, fun_mk (st := s_l_orders) l24 c24 k24, PySem.W.mg_of X G a24, (fun_mk (st := s_l_orders) l24 c24 k24).binds (ps := p_l_orders) fun _ _ _ _ _ _ us hl => match us, hl with | [_], _ => rfl⟩
  have P25 : Placed K mg "_law_counted" s_l_counted p_l_counted := ⟨_, _, fun_mk (st := s_l_counted) l25 c25 k25, PySem.W.mg_of X G a25, (fun_mk (st := s_l_counted) l25 c25 k25).binds (ps := p_l_counted) fun _ _ _ _ _ _ us hl => match us, hl with | [_, _, _], _ => rfl⟩
  have P26 : Placed K mg "_law_hangs" s_l_hangs p_l_hangs := ⟨_, _, fun_mk (st := s_l_hangs) l26 c26 k26, PySem.W.mg_of X G a26, (fun_mk (st := s_l_hangs) l26 c26 k26).binds (ps := p_l_hangs) fun _ _ _ _ _ _ us hl => match us, hl with | [_, _, _, _], _ => rfl⟩
  have P27 : Placed K mg "_law_is_loose" s_l_is_loose p_l_is_loose := ⟨_, _, fun_mk (st := s_l_is_loose) l27 c27 k27, PySem.W.mg_of X G a27, (fun_mk (st := s_l_is_loose) l27 c27 k27).binds (ps := p_l_is_loose) fun _ _ _ _ _ _ us hl => match us, hl with | [_, _, _, _, _], _ => rfl⟩
  have P28 : Placed K mg "_law_some_loose" s_l_some_loose p_l_some_loose := ⟨_, _, fun_mk (st := s_l_some_loose) l28 c28 k28, PySem.W.mg_of X G a28, (fun_mk (st := s_l_some_loose) l28 c28 k28).binds (ps := p_l_some_loose) fun _ _ _ _ _ _ us hl => match us, hl with | [_], _ => rfl⟩
  have P29 : Placed K mg "_law_refused" s_l_refused p_l_refused := ⟨_, _, fun_mk (st := s_l_refused) l29 c29 k29, PySem.W.mg_of X G a29, (fun_mk (st := s_l_refused) l29 c29 k29).binds (ps := p_l_refused) fun _ _ _ _ _ _ us hl => match us, hl with | [_, _], _ => rfl⟩
  have P30 : Placed K mg "_law_all" s_l_all p_l_all := ⟨_, _, fun_mk (st := s_l_all) l30 c30 k30, PySem.W.mg_of X G a30, (fun_mk (st := s_l_all) l30 c30 k30).binds (ps := p_l_all) fun _ _ _ _ _ _ us hl => match us, hl with | [_], _ => rfl⟩
  have P31 : Placed K mg "_law_great" s_l_great p_l_great := ⟨_, _, fun_mk (st := s_l_great) l31 c31 k31, PySem.W.mg_of X G a31, (fun_mk (st := s_l_great) l31 c31 k31).binds (ps := p_l_great) fun _ _ _ _ _ _ us hl => match us, hl with | [_], _ => rfl⟩
  have P32 : Placed K mg "_law_both_counts" s_l_both_counts p_l_both_counts := ⟨_, _, fun_mk (st := s_l_both_counts) l32 c32 k32, PySem.W.mg_of X G a32, (fun_mk (st := s_l_both_counts) l32 c32 k32).binds (ps := p_l_both_counts) fun _ _ _ _ _ _ us hl => match us, hl with | [_, _, _], _ => rfl⟩
  have P33 : Placed K mg "_law_great_right" s_l_great_right p_l_great_right := ⟨_, _, fun_mk (st := s_l_great_right) l33 c33 k33, PySem.W.mg_of X G a33, (fun_mk (st := s_l_great_right) l33 c33 k33).binds (ps := p_l_great_right) fun _ _ _ _ _ _ us hl => match us, hl with | [_], _ => rfl⟩
  have FL := fun_mk (st := s_law) l34 c34 k34
  have FI := fun_mk (st := s_sheet_init) l35 c35 k35
  have bI := FI.binds (ps := p_sheet_init) fun _ _ _ _ _ _ us hl => match us, hl with | [_, _, _], _ => rfl
  refine ⟨PySem.W.fnOf "law" "law" (defArgs s_law) (defBody s_law) (defScope s_law) .none kV34 dc34 pm34 an34 cd34 ct34, fun s v => .of_eq rfl, fun base _ _ => ?_⟩
  have K_is_integer := k_is_integer (P := P) (w := w) (base := base) B P0
  have K_differing := k_differing (P := P) (w := w) (base := base) B P1
  have K_by_answers := k_by_answers (P := P) (w := w) (base := base) B P6
  have K_fits_answers := k_fits_answers (P := P) (w := w) (base := base) B P3
  have K_is_answers := k_is_answers (P := P) (w := w) (base := base) B P2 K_is_integer
  have K_sheet_rows_at := k_sheet_rows_at (P := P) (w := w) (base := base) B P4 K_fits_answers
  have K_hangs := k_hangs (P := P) (w := w) (base := base) B P8 K_differing
  have K_is_sheet_standing := k_is_sheet_standing (P := P) (w := w) (base := base) B P5 K_is_integer K_sheet_rows_at
  have K_is_sheet_place := k_is_sheet_place (P := P) (w := w) (base := base) B P11 K_is_integer
  have K_loose_at := k_loose_at (P := P) (w := w) (base := base) B P9 K_differing K_hangs
  have K_sheet_reached := k_sheet_reached (P := P) (w := w) (base := base) B P7 K_differing K_by_answers
  have K_loose := k_loose (P := P) (w := w) (base := base) B P10 K_sheet_reached K_loose_at
  have K_is_loose := k_is_loose (P := P) (w := w) (base := base) B P12 K_differing K_is_answers K_sheet_reached K_is_sheet_standing K_is_sheet_place K_hangs
  have K_counts_from := k_counts_from (P := P) (w := w) (base := base) B P13 K_differing K_by_answers 7
  have K_counts := k_counts (P := P) (w := w) (base := base) B R P14 K_is_answers K_counts_from
  have K_l_part := k_l_part (P := P) (w := w) (base := base) B P21
  have K_l_open := k_l_open (P := P) (w := w) (base := base) B P20
  have K_l_answers := k_l_answers (P := P) (w := w) (base := base) B P22
  have K_l_hangs := k_l_hangs (P := P) (w := w) (base := base) B P26
  have K_l_hand := k_l_hand (P := P) (w := w) (base := base) B P15
  have K_l_draw := k_l_draw (P := P) (w := w) (base := base) B P16
  have K_l_step := k_l_step (P := P) (w := w) (base := base) B P17
  have K_l_orders := k_l_orders (P := P) (w := w) (base := base) B P24
  have K_l_all := k_l_all (P := P) (w := w) (base := base) B P30
  have K_l_counted := k_l_counted (P := P) (w := w) (base := base) B P25 K_l_part
  have K_l_reached := k_l_reached (P := P) (w := w) (base := base) B P23 K_l_open K_l_answers K_l_part
  have K_l_is_loose := k_l_is_loose (P := P) (w := w) (base := base) B P27 K_l_open K_l_hangs
  have K_l_some_loose := k_l_some_loose (P := P) (w := w) (base := base) B P28 K_l_open K_l_is_loose
  have K_l_refused := k_l_refused (P := P) (w := w) (base := base) R eP P29 K_counts
  have K_l_both_counts := k_l_both_counts (P := P) (w := w) (base := base) B P32 K_l_open K_l_part 7
  have K_l_span := k_l_span (P := P) (w := w) (base := base) B P18 K_l_draw K_l_step
  have K_l_sheet := k_l_sheet (P := P) (w := w) (base := base) B P19 K_l_draw K_l_step K_l_span
  have K_l_great := k_l_great (P := P) (w := w) (base := base) B P31 K_l_draw K_l_all K_l_span
  have MS : MkSh P w K mg base C := ⟨_, _, ⟨mk, a35, i35, kc⟩, k_sheet_init B T S FI K_is_integer K_is_answers, PySem.W.mg_of X G aC, bI⟩
  have K_l_great_right := k_l_great_right (P := P) (w := w) (base := base) B P33 MS K_l_great K_l_both_counts K_counts K_loose K_is_loose
  exact k_law B FL MS K_l_hand K_l_sheet K_l_draw K_l_great_right K_l_orders K_l_counted K_counts K_l_reached K_loose K_is_loose K_l_some_loose K_l_is_loose K_l_refused
theorem walk {l : PySem.W.OpenLaw} {q : Program} {loose : List Str} {XP : (Str → Option Value) → Heap → Prop} {YP : World → Heap → Prop} {d : DefRec} {K : Params → PySem.W.Frag} (hn : l.most = some 63) (hdf : d.params.defaults = [])
    (hY : ∀ (w : World) (h : Heap), YP w h → (K w.params).In h)
    (F : ∀ (w : World) (mg : Str → Option Value) (fa : Addr) (h : Heap), (K w.params).In h → h.Ns mainGlobals mg → mg d.name = some (.ref fa) →
      ∃ fd : FuncData, (∀ (s : Shared) (u : Value), BindsTo s fd ⟨[u], []⟩ [("_law_script", u)]) ∧ ∀ base : Heap, (K w.params).In base → base.Ns mainGlobals mg → RunG l.prog w (K w.params) mg base CX0 11 fa fd ["_law_script"] (spLaw (K w.params))) :
    PySem.W.WalkO q loose XP YP l.row.toRowW d [] (fun f vs => PySem.call f vs) :=
  walk_ofG (n := 63) (k := 11) (x := "_law_script") (sp := fun w => spLaw (K w.params)) hn (by decide) hdf ⟨rfl, by decide, by decide⟩ hY F (fun _ _ a ns hl _ hS => ⟨a, ns, rfl, hS, hl, fun _ => rfl⟩)
end K71
open PySem PySem.W PyProof.Rows
set_option maxRecDepth 100000 in
set_option maxHeartbeats 0 in
theorem PySem.Challenge.cw_likeslips_k71_whole_hanging_and_counts_holds : PySem.Challenge.rw_likeslips_k71_whole_hanging_and_counts.Holds := by
  w_on; o_law; k_head; (case hw => w_witness2)
  k_fill
  refine K71.walk (l := PySem.Challenge.rw_likeslips_k71_whole_hanging_and_counts) rfl rfl (fun w h Y => PySem.W.kIn_of Y) ?F
  case F =>
    intro w mg fa h KX G hmg
    refine' K71.all_mk KX G hmg ?a0 ?l0 ?c0 ?k0 ?a1 ?l1 ?c1 ?k1 ?a2 ?l2 ?c2 ?k2 ?a3 ?l3 ?c3 ?k3 ?a4 ?l4 ?c4 ?k4 ?a5 ?l5 ?c5 ?k5 ?a6 ?l6 ?c6 ?k6 ?a7 ?l7 ?c7 ?k7 ?a8 ?l8 ?c8 ?k8 ?a9 ?l9 ?c9 ?k9 ?a10 ?l10 ?c10 ?k10 ?a11 ?l11 ?c11 ?k11 ?a12 ?l12 ?c12 ?k12 ?a13 ?l13 ?c13 ?k13 ?a14 ?l14 ?c14 ?k14 ?a15 ?l15 ?c15 ?k15 ?a16 ?l16 ?c16 ?k16 ?a17 ?l17 ?c17 ?k17 ?a18 ?l18 ?c18 ?k18 ?a19 ?l19 ?c19 ?k19 ?a20 ?l20 ?c20 ?k20 ?a21 ?l21 ?c21 ?k21 ?a22 ?l22 ?c22 ?k22 ?a23 ?l23 ?c23 ?k23 ?a24 ?l24 ?c24 ?k24 ?a25 ?l25 ?c25 ?k25 ?a26 ?l26 ?c26 ?k26 ?a27 ?l27 ?c27 ?k27 ?a28 ?l28 ?c28 ?k28 ?a29 ?l29 ?c29 ?k29 ?a30 ?l30 ?c30 ?k30 ?a31 ?l31 ?c31 ?k31 ?a32 ?l32 ?c32 ?k32 ?a33 ?l33 ?c33 ?k33 ?a34 ?l34 ?c34 ?k34 ?aC ?a35 ?i35 ?l35 ?c35 ?k35 ?pg ?hd ?po ?sa ?mk ?kc ?nS ?nR ?gP ?xP ?kP ?bP ?tP ?iP ?sP ?m1 ?m2 ?m3 ?z_isi ?z_int ?z_bool ?z_tuple ?z_list ?z_set ?z_len ?z_all ?z_any ?z_zip ?z_enum ?z_sorted ?z_range ?z_min ?z_max ?z_repr ?z_abs
    (case a0 => k_is)
    (case l0 => k_is)
    (case c0 => k_is)
    (case k0 => k_is)
    (case a1 => k_is)
    (case l1 => k_is)
    (case c1 => k_is)
    (case k1 => k_is)
    (case a2 => k_is)
    (case l2 => k_is)
    (case c2 => k_is)
    (case k2 => k_is)
    (case a3 => k_is)
    (case l3 => k_is)
    (case c3 => k_is)
    (case k3 => k_is)
    (case a4 => k_is)
    (case l4 => k_is)
    (case c4 => k_is)
    (case k4 => k_is)
    (case a5 => k_is)
    (case l5 => k_is)
    (case c5 => k_is)
    (case k5 => k_is)
    (case a6 => k_is)
    (case l6 => k_is)
    (case c6 => k_is)
    (case k6 => k_is)
    (case a7 => k_is)
    (case l7 => k_is)
    (case c7 => k_is)
    (case k7 => k_is)
    (case a8 => k_is)
    (case l8 => k_is)
    (case c8 => k_is)
    (case k8 => k_is)
    (case a9 => k_is)
    (case l9 => k_is)
    (case c9 => k_is)
    (case k9 => k_is)
    (case a10 => k_is)
    (case l10 => k_is)
    (case c10 => k_is)
    (case k10 => k_is)
    (case a11 => k_is)
    (case l11 => k_is)
    (case c11 => k_is)
    (case k11 => k_is)
    (case a12 => k_is)
    (case l12 => k_is)
    (case c12 => k_is)
    (case k12 => k_is)
    (case a13 => k_is)
    (case l13 => k_is)
    (case c13 => k_is)
    (case k13 => k_is)
    (case a14 => k_is)
    (case l14 => k_is)
    (case c14 => k_is)
    (case k14 => k_is)
    (case a15 => k_is)
    (case l15 => k_is)
    (case c15 => k_is)
    (case k15 => k_is)
    (case a16 => k_is)
    (case l16 => k_is)
    (case c16 => k_is)
    (case k16 => k_is)
    (case a17 => k_is)
    (case l17 => k_is)
    (case c17 => k_is)
    (case k17 => k_is)
    (case a18 => k_is)
    (case l18 => k_is)
    (case c18 => k_is)
    (case k18 => k_is)
    (case a19 => k_is)
    (case l19 => k_is)
    (case c19 => k_is)
    (case k19 => k_is)
    (case a20 => k_is)
    (case l20 => k_is)
    (case c20 => k_is)
    (case k20 => k_is)
    (case a21 => k_is)
    (case l21 => k_is)
    (case c21 => k_is)
    (case k21 => k_is)
    (case a22 => k_is)
    (case l22 => k_is)
    (case c22 => k_is)
    (case k22 => k_is)
    (case a23 => k_is)
    (case l23 => k_is)
    (case c23 => k_is)
    (case k23 => k_is)
    (case a24 => k_is)
    (case l24 => k_is)
    (case c24 => k_is)
    (case k24 => k_is)
    (case a25 => k_is)
    (case l25 => k_is)
    (case c25 => k_is)
    (case k25 => k_is)
    (case a26 => k_is)
    (case l26 => k_is)
    (case c26 => k_is)
    (case k26 => k_is)
    (case a27 => k_is)
    (case l27 => k_is)
    (case c27 => k_is)
    (case k27 => k_is)
    (case a28 => k_is)
    (case l28 => k_is)
    (case c28 => k_is)
    (case k28 => k_is)
    (case a29 => k_is)
    (case l29 => k_is)
    (case c29 => k_is)
    (case k29 => k_is)
    (case a30 => k_is)
    (case l30 => k_is)
    (case c30 => k_is)
    (case k30 => k_is)
    (case a31 => k_is)
    (case l31 => k_is)
    (case c31 => k_is)
    (case k31 => k_is)
    (case a32 => k_is)
    (case l32 => k_is)
    (case c32 => k_is)
    (case k32 => k_is)
    (case a33 => k_is)
    (case l33 => k_is)
    (case c33 => k_is)
    (case k33 => k_is)
    (case a34 => k_is)
    (case l34 => k_is)
    (case c34 => k_is)
    (case k34 => k_is)
    (case aC => k_is)
    (case a35 => k_is)
    (case i35 => k_is)
    (case l35 => k_is)
    (case c35 => k_is)
    (case k35 => k_is)
    (case pg => k_is)
    (case hd => k_is)
    (case po => k_is)
    (case sa => k_is)
    (case mk => k_is)
    (case kc => k_is)
    (case nS => k_is)
    (case nR => k_is)
    (case gP => k_is)
    (case xP => k_exc)
    (case kP => k_is)
    (case bP => k_is)
    (case tP => k_is)
    (case iP => k_is)
    (case sP => first | rfl | k_is)
    (case m1 => k_is)
    (case m2 => k_is)
    (case m3 => k_is)
    (case z_isi => k_is)
    (case z_int => k_is)
    (case z_bool => k_is)
    (case z_tuple => k_is)
    (case z_list => k_is)
    (case z_set => k_is)
    (case z_len => k_is)
    (case z_all => k_is)
    (case z_any => k_is)
    (case z_zip => k_is)
    (case z_enum => k_is)
    (case z_sorted => k_is)
    (case z_range => k_is)
    (case z_min => k_is)
    (case z_max => k_is)
    (case z_repr => k_is)
    (case z_abs => k_is)
