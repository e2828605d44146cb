import PyProof.Rows.All
import Wide.All
import OpenK.AllK
import Wide.FinOn
import HandS.ForMost
import HandS.Walk
import HandS.DictComp
import HandS.Conv
import HandS.TupAny
import HandS.TupSets
import HandS.Deep
import HandS.Style
import HandS.IsInst
import HandS.Exc
import HandS.ExcOwn
import HandS.WordsExc
import HandS.ExcInit
import HandS.ExcIs
import HandS.ExcField
import HandS.TryOnly
import HandS.Codes
import HandS.Wide
import HandS.More
import HandS.SetFor
import HandS.TupMul
import HandS.TupLen
import HandS.TupLe
import HandS.OwnEq
import HandS.Rev
import HandS.SlotsOwn
import KE.GoesEnum
import HandS.Strs
import HandS.SortInts
import HandS.Small
import KE.KExcIs
import PySem.Challenge.RW_evenorders_k95_whole_webs_common_to_rows
set_option Elab.async false
set_option linter.all false
namespace EvM
abbrev Ps := List (List Nat)
def fst2 (p : List Nat) : Nat := p.getD 0 0
def snd2 (p : List Nat) : Nat := p.getD 1 0
/-- pairs as numbers: the order of tuples of two names -/
def key2 (p : List Nat) : Nat := 64 * fst2 p + snd2 p
def aheadOf (ps : Ps) (x : Nat) : List Nat := (ps.filter fun p => snd2 p == x).map fst2
def laterOf (ps : Ps) (x : Nat) : List Nat := (ps.filter fun p => fst2 p == x).map snd2
def free (n : Nat) (ps : Ps) (row : List Nat) : List Nat := (List.range n).filter fun x => !row.contains x && (aheadOf ps x).all fun y => row.contains y
def ordsK (n : Nat) (ps : Ps) : Nat → List (List Nat)
  | 0 => [[]]
  | k + 1 => (ordsK n ps k).flatMap fun r => (free n ps r).map fun x => r ++ [x]
def ords (n : Nat) (ps : Ps) : List (List Nat) := ordsK n ps n
/-- all are pairs of names -/
def Pr (n : Nat) (ps : Ps) : Prop := ∀ p ∈ ps, ∃ i j, p = [i, j] ∧ i < n ∧ j < n
theorem mem_ahead {n : Nat} {ps : Ps} (h : Pr n ps) {x y : Nat} : y ∈ aheadOf ps x ↔ [y, x] ∈ ps := by
  unfold aheadOf
  simp only [List.mem_map, List.mem_filter, beq_iff_eq]
  constructor
  · rintro ⟨p, ⟨hp, h1⟩, h2⟩
    obtain ⟨i, j, rfl, _, _⟩ := h p hp
    simp [fst2, snd2] at h1 h2
    subst h1 h2
    exact hp
  · intro hp
    exact ⟨[y, x], ⟨hp, rfl⟩, rfl⟩
theorem mem_free {n : Nat} {ps : Ps} (h : Pr n ps) {x : Nat} {r : List Nat} : x ∈ free n ps r ↔ x < n ∧ x ∉ r ∧ ∀ y, [y, x] ∈ ps → y ∈ r := by
  unfold free
  simp only [List.mem_filter, List.mem_range, Bool.and_eq_true, Bool.not_eq_true', List.all_eq_true, mem_ahead h]
  simp
theorem free_nodup (n : Nat) (ps : Ps) (r : List Nat) : (free n ps r).Nodup := by
  unfold free
  exact List.Pairwise.filter _ List.nodup_range
theorem free_lt {n : Nat} {ps : Ps} {r : List Nat} {x : Nat} (h : x ∈ free n ps r) : x < n := by
  unfold free at h
  simp only [List.mem_filter, List.mem_range] at h
  exact h.1
theorem free_not {n : Nat} {ps : Ps} {r : List Nat} {x : Nat} (h : x ∈ free n ps r) : x ∉ r := by
  unfold free at h
  simp only [List.mem_filter, Bool.and_eq_true, Bool.not_eq_true'] at h
  simpa using h.2.1
/-- a row of k names -/
structure Row (n : Nat) (ps : Ps) (k : Nat) (r : List Nat) : Prop where
  nd : r.Nodup
  len : r.length = k
  lt : ∀ x ∈ r, x < n
  bef : ∀ i j, [i, j] ∈ ps → j ∈ r → i ∈ r ∧ r.idxOf i < r.idxOf j
theorem mem_ordsK {n : Nat} {ps : Ps} (h : Pr n ps) : ∀ {k : Nat} {r : List Nat}, r ∈ ordsK n ps k ↔ Row n ps k r
  | 0, r => by
    simp only [ordsK, List.mem_singleton]
    constructor
    · rintro rfl
      exact ⟨List.nodup_nil, rfl, by simp, by simp⟩
    · intro q
      exact List.eq_nil_of_length_eq_zero q.len
  | k + 1, r => by
    simp only [ordsK, List.mem_flatMap, List.mem_map, mem_free h, mem_ordsK (n := n) (ps := ps) h (k := k)]
    constructor
    · rintro ⟨r', q, x, ⟨hx, hn, hb⟩, rfl⟩
      obtain ⟨nd, len, lt, bef⟩ := q
      refine ⟨?_, by simp [len], ?_, ?_⟩
      · grind
      · grind
      · intro i j hp hj
        grind
    · intro q
      obtain ⟨nd, len, lt, bef⟩ := q
      have hne : r ≠ [] := by intro e; subst e; simp at len
      obtain ⟨r', x, rfl⟩ : ∃ r' x, r = r' ++ [x] := ⟨r.dropLast, r.getLast hne, (List.dropLast_concat_getLast hne).symm⟩
      refine ⟨r', ⟨?_, ?_, ?_, ?_⟩, x, ⟨?_, ?_, ?_⟩, rfl⟩
      · grind
      · simpa using len
      · exact fun y hy => lt y (by simp [hy])
      · intro i j hp hj
        have := bef i j hp (by simp [hj])
        grind
      · exact lt x (by simp)
      · grind
      · intro y hp
        have := bef y x hp (by simp)
        grind
/-- a row of all names, each once -/
structure Perm (n : Nat) (r : List Nat) : Prop where
  nd : r.Nodup
  len : r.length = n
  lt : ∀ x ∈ r, x < n
theorem Perm.mem {n : Nat} {r : List Nat} (h : Perm n r) {x : Nat} (hx : x < n) : x ∈ r := by
  refine Classical.byContradiction fun hn => ?_
  have h1 : (x :: r).Nodup := List.nodup_cons.mpr ⟨hn, h.nd⟩
  have h2 : (x :: r) ⊆ List.range n := by
    intro y hy
    rcases List.mem_cons.mp hy with rfl | hy
    · exact List.mem_range.mpr hx
    · exact List.mem_range.mpr (h.lt y hy)
  have h3 := List.Nodup.length_le_of_subset h1 h2
  rw [List.length_cons, List.length_range, h.len] at h3
  omega
theorem Perm.idx_lt {n : Nat} {r : List Nat} (h : Perm n r) {x : Nat} (hx : x < n) : r.idxOf x < n := by
  have := List.idxOf_lt_length_iff.mpr (h.mem hx)
  rw [h.len] at this
  exact this
theorem idx_inj {r : List Nat} {x y : Nat} (hx : x ∈ r) (hy : y ∈ r) (e : r.idxOf x = r.idxOf y) : x = y := by
  have h1 := List.getElem_idxOf (List.idxOf_lt_length_iff.mpr hx)
  have h2 := List.getElem_idxOf (List.idxOf_lt_length_iff.mpr hy)
  rw [← h1, ← h2]
  congr 1
theorem Perm.conn {n : Nat} {r : List Nat} (h : Perm n r) {x y : Nat} (hx : x < n) (hy : y < n) (hne : x ≠ y) : r.idxOf x < r.idxOf y ∨ r.idxOf y < r.idxOf x := by
  rcases Nat.lt_trichotomy (r.idxOf x) (r.idxOf y) with c | c | c
  · exact .inl c
  · exact absurd (idx_inj (h.mem hx) (h.mem hy) c) hne
  · exact .inr c
structure Ord (n : Nat) (ps : Ps) (r : List Nat) : Prop extends Perm n r where
  bef : ∀ i j, [i, j] ∈ ps → r.idxOf i < r.idxOf j
theorem mem_ords {n : Nat} {ps : Ps} (h : Pr n ps) {r : List Nat} : r ∈ ords n ps ↔ Ord n ps r := by
  unfold ords
  rw [mem_ordsK h]
  constructor
  · rintro ⟨nd, len, lt, bef⟩
    have p : Perm n r := ⟨nd, len, lt⟩
    refine ⟨p, fun i j hp => ?_⟩
    obtain ⟨i', j', e, hi, hj⟩ := h _ hp
    simp at e
    exact (bef i j hp (p.mem (by omega))).2
  · rintro ⟨⟨nd, len, lt⟩, bef⟩
    have p : Perm n r := ⟨nd, len, lt⟩
    refine ⟨nd, len, lt, fun i j hp _ => ?_⟩
    obtain ⟨i', j', e, hi, hj⟩ := h _ hp
    simp at e
    exact ⟨p.mem (by omega), bef i j hp⟩
theorem ordsK_nodup (n : Nat) (ps : Ps) : ∀ k, (ordsK n ps k).Nodup
  | 0 => by simp [ordsK]
  | k + 1 => by
    unfold ordsK
    refine List.pairwise_flatMap.mpr ⟨fun r _ => ?_, ?_⟩
    · refine List.pairwise_map.mpr (List.Pairwise.imp (fun {a b} hab e => hab ?_) (free_nodup n ps r))
      simpa using e
    · refine List.Pairwise.imp (fun {a b} hab => ?_) (ordsK_nodup n ps k)
      intro x hx y hy e
      obtain ⟨u, _, rfl⟩ := List.mem_map.mp hx
      obtain ⟨v, _, rfl⟩ := List.mem_map.mp hy
      exact hab (List.append_inj_left' e rfl)
theorem ords_nodup (n : Nat) (ps : Ps) : (ords n ps).Nodup := ordsK_nodup n ps n
theorem ordsK_len {n : Nat} {ps : Ps} : ∀ {k : Nat} {r : List Nat}, r ∈ ordsK n ps k → r.length = k
  | 0, r, h => by simp [ordsK] at h; simp [h]
  | k + 1, r, h => by
    unfold ordsK at h
    obtain ⟨r', h1, h2⟩ := List.mem_flatMap.mp h
    obtain ⟨x, _, rfl⟩ := List.mem_map.mp h2
    simp [ordsK_len h1]
/-- fewer befores, more orders -/
theorem ordsK_le (n : Nat) (ps : Ps) : ∀ k, (ordsK n ps k).Sublist (ordsK n [] k)
  | 0 => List.Sublist.refl _
  | k + 1 => by
    have ih := ordsK_le n ps k
    have step : ∀ (xs ys : List (List Nat)), xs.Sublist ys → (xs.flatMap fun r => (free n ps r).map fun x => r ++ [x]).Sublist (ys.flatMap fun r => (free n [] r).map fun x => r ++ [x]) := by
      intro xs ys h
      induction h with
      | slnil => exact List.Sublist.refl _
      | cons a _ ih => rw [List.flatMap_cons]; exact List.Sublist.trans ih (List.sublist_append_right _ _)
      | cons_cons a _ ih =>
        rw [List.flatMap_cons, List.flatMap_cons]
        refine List.Sublist.append (List.Sublist.map _ ?_) ih
        unfold free
        have : ∀ l : List Nat, (l.filter fun x => !a.contains x && (aheadOf ps x).all fun y => a.contains y).Sublist (l.filter fun x => !a.contains x && (aheadOf [] x).all fun y => a.contains y) := by
          intro l
          induction l with
          | nil => exact List.Sublist.refl _
          | cons b l ih => simp [List.filter_cons, aheadOf] at ih ⊢; grind
        exact this _
    exact step _ _ ih
theorem ords_le {n : Nat} (hn : n ≤ 5) (ps : Ps) : (ords n ps).length ≤ 120 := by
  have h := (ordsK_le n ps n).length_le
  have h2 : (ordsK n [] n).length ≤ 120 := by
    match n, hn with
    | 0, _ => decide +kernel
    | 1, _ => decide +kernel
    | 2, _ => decide +kernel
    | 3, _ => decide +kernel
    | 4, _ => decide +kernel
    | 5, _ => decide +kernel
  exact Nat.le_trans h h2
/-! ### the common web of rows -/
def common (n : Nat) (rows : List (List Nat)) : Ps := (List.range n).flatMap fun i => ((List.range n).filter fun j => i != j && rows.all fun r => !decide (r.idxOf j < r.idxOf i)).map fun j => [i, j]
theorem mem_common {n : Nat} {rows : List (List Nat)} {p : List Nat} : p ∈ common n rows ↔ ∃ i j, p = [i, j] ∧ i < n ∧ j < n ∧ i ≠ j ∧ ∀ r ∈ rows, ¬ r.idxOf j < r.idxOf i := by
  unfold common
  simp only [List.mem_flatMap, List.mem_map, List.mem_filter, List.mem_range, Bool.and_eq_true, bne_iff_ne, List.all_eq_true, Bool.not_eq_true', decide_eq_false_iff_not]
  constructor
  · rintro ⟨i, hi, j, ⟨hj, h1, h2⟩, rfl⟩
    exact ⟨i, j, rfl, hi, hj, h1, h2⟩
  · rintro ⟨i, j, rfl, hi, hj, h1, h2⟩
    exact ⟨i, hi, j, ⟨hj, h1, h2⟩, rfl⟩
theorem common_pr (n : Nat) (rows : List (List Nat)) : Pr n (common n rows) := fun p hp => by
  obtain ⟨i, j, e, hi, hj, _⟩ := mem_common.mp hp
  exact ⟨i, j, e, hi, hj⟩
theorem common_iff {n : Nat} {rows : List (List Nat)} (h : ∀ r ∈ rows, Perm n r) (hne : rows ≠ []) {i j : Nat} : [i, j] ∈ common n rows ↔ i < n ∧ j < n ∧ ∀ r ∈ rows, r.idxOf i < r.idxOf j := by
  rw [mem_common]
  constructor
  · rintro ⟨i', j', e, hi, hj, h1, h2⟩
    simp at e
    obtain ⟨rfl, rfl⟩ := e
    refine ⟨hi, hj, fun r hr => ?_⟩
    rcases (h r hr).conn hi hj h1 with c | c
    · exact c
    · exact absurd c (h2 r hr)
  · rintro ⟨hi, hj, h2⟩
    refine ⟨i, j, rfl, hi, hj, ?_, fun r hr => ?_⟩
    · rintro rfl
      obtain ⟨r, hr⟩ := List.exists_mem_of_ne_nil rows hne
      exact absurd (h2 r hr) (Nat.lt_irrefl _)
    · have := h2 r hr
      omega
/-- ascending pairs -/
def Up (ps : Ps) : Prop := ps.Pairwise fun p q => key2 p < key2 q
theorem range_up : ∀ n : Nat, (List.range n).Pairwise (· < ·) := fun n => List.pairwise_lt_range
theorem common_up {n : Nat} (hn : n ≤ 64) (rows : List (List Nat)) : Up (common n rows) := by
  unfold Up common
  refine List.pairwise_flatMap.mpr ⟨fun i hi => ?_, ?_⟩
  · refine List.pairwise_map.mpr (List.Pairwise.imp (fun {a b} hab => ?_) (List.Pairwise.filter _ (range_up n)))
    simp [key2, fst2, snd2, hab]
  · refine List.Pairwise.imp_of_mem (fun {a b} ha hb hab => ?_) (range_up n)
    intro x hx y hy
    obtain ⟨u, hu, rfl⟩ := List.mem_map.mp hx
    obtain ⟨v, hv, rfl⟩ := List.mem_map.mp hy
    have h1 := List.mem_range.mp (List.mem_filter.mp hu).1
    have h2 := List.mem_range.mp (List.mem_filter.mp hv).1
    simp [key2, fst2, snd2]
    omega
theorem key_inj {n : Nat} (hn : n ≤ 64) {i j k l : Nat} (hi : i < n) (hj : j < n) (hk : k < n) (hl : l < n) (e : key2 [i, j] = key2 [k, l]) : i = k ∧ j = l := by
  simp [key2, fst2, snd2] at e
  omega
/-- two ascending lists of pairs with the same members are one -/
theorem up_eq {ps qs : Ps} (hp : Up ps) (hq : Up qs) (h : ∀ p, p ∈ ps ↔ p ∈ qs) : ps = qs := by
  refine List.Perm.eq_of_pairwise (le := fun p q => key2 p < key2 q) (fun a b _ _ h1 h2 => by omega) hp hq ?_
  have np : ps.Nodup := List.Pairwise.imp (fun {a b} hab e => by subst e; omega) hp
  have nq : qs.Nodup := List.Pairwise.imp (fun {a b} hab e => by subst e; omega) hq
  rw [List.perm_iff_count]
  intro a
  rw [np.count, nq.count]
  simp [h]
/-- befores of a web: all of them, ascending; some order keeps them -/
structure Po (n : Nat) (ps : Ps) : Prop where
  pr : Pr n ps
  up : Up ps
  tr : ∀ i j k, [i, j] ∈ ps → [j, k] ∈ ps → [i, k] ∈ ps
  ex : ∃ r, Ord n ps r
theorem Po.irr {n : Nat} {ps : Ps} (h : Po n ps) {i : Nat} : ¬ [i, i] ∈ ps := fun hp => by
  obtain ⟨r, o⟩ := h.ex
  exact absurd (o.bef i i hp) (Nat.lt_irrefl _)
theorem common_po {n : Nat} (hn : n ≤ 64) {rows : List (List Nat)} (h : ∀ r ∈ rows, Perm n r) (hne : rows ≠ []) : Po n (common n rows) := by
  refine ⟨common_pr n rows, common_up hn rows, fun i j k h1 h2 => ?_, ?_⟩
  · obtain ⟨hi, hj, a⟩ := (common_iff h hne).mp h1
    obtain ⟨_, hk, b⟩ := (common_iff h hne).mp h2
    exact (common_iff h hne).mpr ⟨hi, hk, fun r hr => Nat.lt_trans (a r hr) (b r hr)⟩
  · obtain ⟨r, hr⟩ := List.exists_mem_of_ne_nil rows hne
    exact ⟨r, h r hr, fun i j hp => ((common_iff h hne).mp hp).2.2 r hr⟩
theorem row_ord {n : Nat} {rows : List (List Nat)} (h : ∀ r ∈ rows, Perm n r) (hne : rows ≠ []) {r : List Nat} (hr : r ∈ rows) : r ∈ ords n (common n rows) :=
  (mem_ords (common_pr n rows)).mpr ⟨h r hr, fun i j hp => ((common_iff h hne).mp hp).2.2 r hr⟩
end EvM

namespace EvM
/-! ### two rows tell a web of at most five names: each natural labelling by a table -/
def wits0 : List Nat := [0]
def wits1 : List Nat := [0]
def wits2 : List Nat := [524289, 524296]
def wits3 : List Nat := [8912906, 8912913, 5243009, 8913025, 8912962, 8912976, 8913032]
def wits4 : List Nat := [109576275, 109576282, 80216266, 109576394, 72877578, 47187473, 80217610, 109577738, 109576331, 109576345, 109576401, 72877585,
  80217617, 109577745, 105907211, 105907225, 47187137, 47187585, 105907393, 105907841, 109577227, 109577241, 72877697, 109577409, 109577857, 109576723,
  109576730, 80216770, 109576898, 80217666, 109577794, 109576835, 109576856, 109576912, 80217680, 109577808, 109577283, 109577304, 109577416,
  109577864]
def wits5 : List Nat := [1183318684, 1183318691, 948437779, 1183318803, 889718867, 684197978, 948439123, 1183320147, 878723155, 588792010, 856703115,
  416301209, 889733203, 684212314, 948453459, 1183334483, 1183318740, 1183318754, 1183318810, 889718874, 948439130, 1183320154, 878723162, 386941137,
  416301265, 889733210, 948453466, 1183334490, 1153959508, 1153959522, 684197642, 684198090, 1153959690, 1153960138, 643842250, 856703129, 654852298,
  684212426, 944783513, 1153974474, 1183319636, 1183319650, 889718986, 1183319818, 1183320266, 878723274, 856703185, 889733322, 948453578, 1183334602,
  1146630228, 1146630242, 676868362, 1146630410, 588789770, 588793354, 412629009, 412632593, 676870154, 676873738, 1146632202, 1146635786, 1120940172,
  416297233, 1120940193, 1120940305, 379602449, 416299025, 416302609, 889275074, 1120942097, 1120945681, 1153970260, 1153970274, 684208394, 1153970442,
  643843594, 1153512194, 684210186, 684213770, 1153972234, 1153975818, 1183330388, 1183330402, 1179660449, 1183330570, 878724618, 856704529, 889734666,
  1183332362, 1183335946, 1183319132, 1183319139, 948438283, 1183319307, 948439179, 1183320203, 878723211, 588792017, 889733259, 676872401, 948453515,
  1183334539, 1183319244, 1183319265, 1183319321, 948439193, 1183320217, 878723225, 889733273, 684212433, 948453529, 1183334553, 1183319692,
  1183319713, 1183319825, 1183320273, 878723281, 889733329, 948453585, 1183334609, 1146630284, 1146630305, 1146630417, 588789777, 588793361, 676870161,
  676873745, 1146632209, 1146635793, 1153970316, 1153970337, 1153970449, 643843601, 684210193, 684213777, 1153972241, 1153975825, 1183330444,
  1183330465, 1183330577, 878724625, 889734673, 1183332369, 1183335953, 1179656284, 1179656291, 944775435, 1179656459, 856696843, 416294937, 856704011,
  416302105, 944777227, 1179658251, 944784395, 1179665419, 1179656396, 1179656417, 1179656473, 856696857, 856704025, 944777241, 1179658265, 944784409,
  1179665433, 1120937484, 1120937505, 416294657, 416295105, 386942145, 416302273, 1120937729, 1120938177, 1117272193, 1120945345, 1120941068,
  1120941089, 416298241, 416299137, 416302721, 1120941313, 1120942209, 1120945793, 1179657740, 1179657761, 856697025, 856704193, 1179657985,
  1179658433, 944784577, 1179665601, 1179661324, 1179661345, 849364609, 856704641, 1179661569, 1179662465, 1179666049, 1183326300, 1183326307,
  948445451, 1183326475, 878724107, 1182868227, 948447243, 1183328267, 948454411, 1183335435, 1183326412, 1183326433, 1183326489, 878724121, 948447257,
  1183328281, 948454425, 1183335449, 1146631180, 1146631201, 588789889, 588793473, 1146631425, 676873857, 1146632321, 1146635905, 1183327756,
  1183327777, 878724289, 1183328001, 1183328449, 948454593, 1183335617, 1183331340, 1183331361, 878724737, 1183331585, 1183332481, 1183336065,
  1183322268, 1183322275, 948441363, 1183322387, 889722899, 684202010, 948443155, 1183324179, 889733651, 684212762, 948453907, 1183334931, 1183322324,
  1183322338, 1183322394, 889722906, 948443162, 1183324186, 889733658, 948453914, 1183334938, 1153963540, 1153963554, 684201730, 684202178, 1153963778,
  1153964226, 654852802, 684212930, 1146632258, 1153974978, 1183323668, 1183323682, 889723074, 1183323906, 1183324354, 889733826, 948454082,
  1183335106, 1153970708, 1153970722, 684208898, 1153970946, 684210242, 684213826, 1153972290, 1153975874, 1183330836, 1183330850, 878724674,
  1183331074, 889734722, 1183332418, 1183336002, 1183323164, 1183323171, 948442371, 1183323395, 948443267, 1183324291, 889733763, 1179658307,
  948454019, 1183335043, 1183323332, 1183323360, 1183323416, 948443288, 1183324312, 889733784, 684212944, 948454040, 1183335064, 1183323780,
  1183323808, 1183323920, 1183324368, 889733840, 948454096, 1183335120, 1153970820, 1153970848, 1153970960, 684210256, 684213840, 1153972304,
  1153975888, 1183330948, 1183330976, 1183331088, 889734736, 1183332432, 1183336016, 1183326748, 1183326755, 948445955, 1183326979, 948447299,
  1183328323, 948454467, 1183335491, 1183326916, 1183326944, 1183327000, 948447320, 1183328344, 948454488, 1183335512, 1183327812, 1183327840,
  1183328008, 1183328456, 948454600, 1183335624, 1183331396, 1183331424, 1183331592, 1183332488, 1183336072]
def upl (n : Nat) : List (List Nat) := (List.range n).flatMap fun j => (List.range j).map fun i => [i, j]
def subs : List (List Nat) → List (List (List Nat))
  | [] => [[]]
  | x :: r => subs r ++ (subs r).map fun s => x :: s
def trans (s : Ps) : Bool := s.all fun p => s.all fun q => !(snd2 p == fst2 q) || s.contains [fst2 p, snd2 q]
def dec (n v : Nat) : List Nat := (List.range n).map fun k => v / 8 ^ k % 8
def isPerm (n : Nat) (r : List Nat) : Bool := r.length == n && (List.range n).all fun x => r.contains x
def prs (n : Nat) : List (List Nat) := (List.range n).flatMap fun i => (List.range n).map fun j => [i, j]
def tells (n : Nat) (s : Ps) (r q : List Nat) : Bool := (prs n).all fun p => fst2 p == snd2 p || (s.contains p == (decide (r.idxOf (fst2 p) < r.idxOf (snd2 p)) && decide (q.idxOf (fst2 p) < q.idxOf (snd2 p))))
def good (n : Nat) (s : Ps) (v : Nat) : Bool := isPerm n (dec n (v / 65536)) && isPerm n (dec n (v % 65536)) && tells n s (dec n (v / 65536)) (dec n (v % 65536))
def goods (n : Nat) : List Ps → List Nat → Bool
  | [], _ => true
  | s :: r, ws => if trans s then (match ws with
    | [] => false
    | v :: ws => good n s v && goods n r ws) else goods n r ws
theorem goods_at {n : Nat} : ∀ {ss : List Ps} {ws : List Nat}, goods n ss ws = true → ∀ s ∈ ss, trans s = true → ∃ v, good n s v = true
  | [], _, _, s, hs, _ => by simp at hs
  | t :: r, ws, h, s, hs, ht => by
    unfold goods at h
    split at h
    · rename_i c
      split at h
      · cases h
      · rename_i _ v ws'
        rw [Bool.and_eq_true] at h
        rcases List.mem_cons.mp hs with rfl | hs
        · exact ⟨v, h.1⟩
        · exact goods_at h.2 s hs ht
    · rename_i c
      rcases List.mem_cons.mp hs with rfl | hs
      · exact absurd ht c
      · exact goods_at h s hs ht
theorem all0 : goods 0 (subs (upl 0)) wits0 = true := by decide +kernel
theorem all1 : goods 1 (subs (upl 1)) wits1 = true := by decide +kernel
theorem all2 : goods 2 (subs (upl 2)) wits2 = true := by decide +kernel
theorem all3 : goods 3 (subs (upl 3)) wits3 = true := by decide +kernel
theorem all4 : goods 4 (subs (upl 4)) wits4 = true := by decide +kernel
theorem all5 : goods 5 (subs (upl 5)) wits5 = true := by decide +kernel
theorem filter_subs (f : List Nat → Bool) : ∀ l : List (List Nat), l.filter f ∈ subs l
  | [] => by simp [subs]
  | x :: r => by
    have ih := filter_subs f r
    unfold subs
    rw [List.filter_cons]
    split
    · exact List.mem_append_right _ (List.mem_map.mpr ⟨_, ih, rfl⟩)
    · exact List.mem_append_left _ ih
theorem isPerm_of {n : Nat} {r : List Nat} (h : isPerm n r = true) : Perm n r := by
  unfold isPerm at h
  simp only [Bool.and_eq_true, beq_iff_eq, List.all_eq_true, List.mem_range, List.contains_iff_mem] at h
  obtain ⟨h1, h2⟩ := h
  have sub : (List.range n) ⊆ r := fun x hx => h2 x (List.mem_range.mp hx)
  -- a list of n that holds n unlike ones holds just these
  have nd : r.Nodup := by
    refine Classical.byContradiction fun hn => ?_
    have : ∃ a, 1 < r.count a := by
      refine Classical.byContradiction fun hc => hn ?_
      rw [List.nodup_iff_count]
      intro a
      exact Nat.le_of_not_lt fun h => hc ⟨a, h⟩
    obtain ⟨a, ha⟩ := this
    have hm : a ∈ r := List.count_pos_iff.mp (by omega)
    have sub2 : (List.range n) ⊆ r.erase a := by
      intro x hx
      by_cases e : x = a
      · subst e
        refine List.count_pos_iff.mp ?_
        rw [List.count_erase_self]
        omega
      · exact (List.mem_erase_of_ne e).mpr (sub hx)
    have := List.Nodup.length_le_of_subset List.nodup_range sub2
    rw [List.length_range, List.length_erase_of_mem hm] at this
    have h3 : 0 < r.length := List.length_pos_of_mem hm
    omega
  refine ⟨nd, h1, fun x hx => ?_⟩
  refine Classical.byContradiction fun hn => ?_
  have h3 : (x :: List.range n).Nodup := List.nodup_cons.mpr ⟨fun h => hn (List.mem_range.mp h), List.nodup_range⟩
  have h4 : (x :: List.range n) ⊆ r := by
    intro y hy
    rcases List.mem_cons.mp hy with rfl | hy
    · exact hx
    · exact sub hy
  have := List.Nodup.length_le_of_subset h3 h4
  rw [List.length_cons, List.length_range] at this
  omega
theorem tells_of {n : Nat} {s : Ps} {r q : List Nat} (h : tells n s r q = true) {i j : Nat} (hi : i < n) (hj : j < n) (hne : i ≠ j) : [i, j] ∈ s ↔ r.idxOf i < r.idxOf j ∧ q.idxOf i < q.idxOf j := by
  unfold tells at h
  rw [List.all_eq_true] at h
  have hp : [i, j] ∈ prs n := List.mem_flatMap.mpr ⟨i, List.mem_range.mpr hi, List.mem_map.mpr ⟨j, List.mem_range.mpr hj, rfl⟩⟩
  have h2 := h _ hp
  have e1 : fst2 [i, j] = i := rfl
  have e2 : snd2 [i, j] = j := rfl
  rw [e1, e2] at h2
  have e3 : (i == j) = false := by simpa using hne
  rw [e3, Bool.false_or, beq_iff_eq] at h2
  rw [← List.contains_iff_mem, h2]
  simp
theorem two_nat {n : Nat} (hn : n ≤ 5) (f : List Nat → Bool) (ht : trans ((upl n).filter f) = true) :
    ∃ r q, Perm n r ∧ Perm n q ∧ ∀ i j, i < n → j < n → i ≠ j → ([i, j] ∈ (upl n).filter f ↔ r.idxOf i < r.idxOf j ∧ q.idxOf i < q.idxOf j) := by
  have key : ∃ ws, goods n (subs (upl n)) ws = true := by
    match n, hn with
    | 0, _ => exact ⟨_, all0⟩
    | 1, _ => exact ⟨_, all1⟩
    | 2, _ => exact ⟨_, all2⟩
    | 3, _ => exact ⟨_, all3⟩
    | 4, _ => exact ⟨_, all4⟩
    | 5, _ => exact ⟨_, all5⟩
  obtain ⟨ws, h⟩ := key
  obtain ⟨v, hv⟩ := goods_at h _ (filter_subs f _) ht
  unfold good at hv
  simp only [Bool.and_eq_true] at hv
  obtain ⟨⟨h1, h2⟩, h3⟩ := hv
  exact ⟨_, _, isPerm_of h1, isPerm_of h2, fun i j hi hj hne => tells_of h3 hi hj hne⟩
/-! ### relabelling by an order -/
theorem mem_upl {n : Nat} {p : List Nat} : p ∈ upl n ↔ ∃ i j, p = [i, j] ∧ i < j ∧ j < n := by
  unfold upl
  simp only [List.mem_flatMap, List.mem_map, List.mem_range]
  constructor
  · rintro ⟨j, hj, i, hi, rfl⟩
    exact ⟨i, j, rfl, hi, hj⟩
  · rintro ⟨i, j, rfl, hi, hj⟩
    exact ⟨j, hj, i, hi, rfl⟩
theorem idx_map {g : Nat → Nat} {r : List Nat} {i : Nat} (hi : i ∈ r) (hg : ∀ x ∈ r, g x = g i → x = i) : (r.map g).idxOf (g i) = r.idxOf i := by
  induction r with
  | nil => simp at hi
  | cons a r ih =>
    rw [List.map_cons, List.idxOf_cons, List.idxOf_cons]
    by_cases e : a = i
    · subst e
      simp
    · have e2 : (g a == g i) = false := by
        simp only [beq_eq_false_iff_ne]
        exact fun h => e (hg a (by simp) h)
      have e3 : (a == i) = false := by simpa using e
      rw [e2, e3]
      have hi' : i ∈ r := by
        rcases List.mem_cons.mp hi with h | h
        · exact absurd h.symm e
        · exact h
      rw [ih hi' fun x hx h => hg x (by simp [hx]) h]
theorem Perm.getD_lt {n : Nat} {r : List Nat} (h : Perm n r) {i : Nat} (hi : i < n) : r.getD i 0 < n := by
  have hl : i < r.length := by rw [h.len]; exact hi
  rw [List.getD_eq_getElem?_getD, List.getElem?_eq_getElem hl]
  exact h.lt _ (List.getElem_mem hl)
theorem Perm.idx_getD {n : Nat} {r : List Nat} (h : Perm n r) {i : Nat} (hi : i < n) : r.idxOf (r.getD i 0) = i := by
  have hl : i < r.length := by rw [h.len]; exact hi
  rw [List.getD_eq_getElem?_getD, List.getElem?_eq_getElem hl]
  exact h.nd.idxOf_getElem i hl
theorem Perm.getD_idx {n : Nat} {r : List Nat} (h : Perm n r) {x : Nat} (hx : x < n) : r.getD (r.idxOf x) 0 = x := by
  have hl := List.idxOf_lt_length_iff.mpr (h.mem hx)
  rw [List.getD_eq_getElem?_getD, List.getElem?_eq_getElem hl]
  exact List.getElem_idxOf hl
theorem two_rows {n : Nat} (hn : n ≤ 5) {ps : Ps} (h : Po n ps) :
    ∃ r q, r ∈ ords n ps ∧ q ∈ ords n ps ∧ common n [r, q] = ps ∧ common n [q, r] = ps := by
  obtain ⟨o, ho⟩ := h.ex
  have hg : ∀ {i j}, i < n → j < n → o.getD i 0 = o.getD j 0 → i = j := fun {i j} hi hj e => by
    rw [← ho.toPerm.idx_getD hi, ← ho.toPerm.idx_getD hj, e]
  generalize hf : (fun p : List Nat => ps.contains [o.getD (fst2 p) 0, o.getD (snd2 p) 0]) = f
  have mf : ∀ {i j}, [i, j] ∈ (upl n).filter f ↔ i < j ∧ j < n ∧ [o.getD i 0, o.getD j 0] ∈ ps := fun {i j} => by
    rw [List.mem_filter, mem_upl, ← hf]
    simp only [List.contains_iff_mem]
    constructor
    · rintro ⟨⟨i', j', e, h1, h2⟩, h3⟩
      simp at e
      obtain ⟨rfl, rfl⟩ := e
      exact ⟨h1, h2, h3⟩
    · rintro ⟨h1, h2, h3⟩
      exact ⟨⟨i, j, rfl, h1, h2⟩, h3⟩
  have ht : trans ((upl n).filter f) = true := by
    unfold trans
    rw [List.all_eq_true]
    intro p hp
    rw [List.all_eq_true]
    intro q hq
    obtain ⟨i, j, rfl, _⟩ := mem_upl.mp (List.mem_filter.mp hp).1
    obtain ⟨k, l, rfl, _⟩ := mem_upl.mp (List.mem_filter.mp hq).1
    obtain ⟨a1, a2, a3⟩ := mf.mp hp
    obtain ⟨b1, b2, b3⟩ := mf.mp hq
    have e1 : fst2 [i, j] = i := rfl
    have e2 : snd2 [i, j] = j := rfl
    have e3 : fst2 [k, l] = k := rfl
    have e4 : snd2 [k, l] = l := rfl
    rw [e1, e2, e3, e4]
    by_cases c : j = k
    · subst c
      have : [i, l] ∈ (upl n).filter f := mf.mpr ⟨by omega, b2, h.tr _ _ _ a3 b3⟩
      rw [List.contains_iff_mem.mpr this]
      simp
    · have : (j == k) = false := by simpa using c
      rw [this]
      rfl
  obtain ⟨r, q, pr, pq, hrq⟩ := two_nat hn f ht
  -- names of places
  have mk : ∀ {r : List Nat}, Perm n r → Perm n (r.map fun i => o.getD i 0) := fun {r} p => by
    refine ⟨?_, by rw [List.length_map]; exact p.len, fun x hx => ?_⟩
    · refine List.pairwise_map.mpr (List.Pairwise.imp_of_mem (fun {a b} ha hb hab e => hab (hg (p.lt a ha) (p.lt b hb) e)) p.nd)
    · obtain ⟨i, hi, rfl⟩ := List.mem_map.mp hx
      exact ho.toPerm.getD_lt (p.lt i hi)
  have ix : ∀ {r : List Nat}, Perm n r → ∀ {x}, x < n → (r.map fun i => o.getD i 0).idxOf x = r.idxOf (o.idxOf x) := fun {r} p {x} hx => by
    have e := ho.toPerm.getD_idx hx
    have hi : o.idxOf x < n := ho.toPerm.idx_lt hx
    have := idx_map (g := fun i => o.getD i 0) (r := r) (i := o.idxOf x) (p.mem hi) (fun y hy e => hg (p.lt y hy) hi e)
    simp only [e] at this
    exact this
  have tell : ∀ {x y}, x < n → y < n → x ≠ y → ([x, y] ∈ ps ↔ (r.map fun i => o.getD i 0).idxOf x < (r.map fun i => o.getD i 0).idxOf y ∧ (q.map fun i => o.getD i 0).idxOf x < (q.map fun i => o.getD i 0).idxOf y) := fun {x y} hx hy hne => by
    rw [ix pr hx, ix pr hy, ix pq hx, ix pq hy]
    have hi := ho.toPerm.idx_lt hx
    have hj := ho.toPerm.idx_lt hy
    have hij : o.idxOf x ≠ o.idxOf y := fun e => hne (idx_inj (ho.toPerm.mem hx) (ho.toPerm.mem hy) e)
    rw [← hrq _ _ hi hj hij, mf, ho.toPerm.getD_idx hx, ho.toPerm.getD_idx hy]
    constructor
    · intro hp
      exact ⟨ho.bef _ _ hp, hj, hp⟩
    · rintro ⟨_, _, hp⟩
      exact hp
  have inn : ∀ {r : List Nat}, Perm n r → (∀ {x y}, x < n → y < n → x ≠ y → [x, y] ∈ ps → (r.map fun i => o.getD i 0).idxOf x < (r.map fun i => o.getD i 0).idxOf y) → (r.map fun i => o.getD i 0) ∈ ords n ps := fun {r} p hb => by
    refine (mem_ords h.pr).mpr ⟨mk p, fun i j hp => ?_⟩
    obtain ⟨i', j', e, hi, hj⟩ := h.pr _ hp
    simp at e
    refine hb (by omega) (by omega) ?_ hp
    rintro rfl
    exact h.irr hp
  have com : ∀ {a b : List Nat}, Perm n a → Perm n b → (∀ {x y}, x < n → y < n → x ≠ y → ([x, y] ∈ ps ↔ a.idxOf x < a.idxOf y ∧ b.idxOf x < b.idxOf y)) → common n [a, b] = ps := fun {a b} pa pb hab => by
    have hall : ∀ r ∈ [a, b], Perm n r := by
      intro r hr
      simp at hr
      rcases hr with rfl | rfl
      · exact pa
      · exact pb
    refine up_eq (common_up (by omega) _) h.up fun p => ?_
    constructor
    · intro hp
      obtain ⟨i, j, rfl, hi, hj⟩ := common_pr n _ p hp
      obtain ⟨_, _, hr⟩ := (common_iff hall (by simp)).mp hp
      have h1 := hr a (by simp)
      have h2 := hr b (by simp)
      exact (hab hi hj (by rintro rfl; omega)).mpr ⟨h1, h2⟩
    · intro hp
      obtain ⟨i, j, rfl, hi, hj⟩ := h.pr p hp
      obtain ⟨h1, h2⟩ := (hab hi hj (by rintro rfl; exact h.irr hp)).mp hp
      refine (common_iff hall (by simp)).mpr ⟨hi, hj, fun r hr => ?_⟩
      simp at hr
      rcases hr with rfl | rfl
      · exact h1
      · exact h2
  refine ⟨_, _, inn pr fun hx hy hne hp => ((tell hx hy hne).mp hp).1, inn pq fun hx hy hne hp => ((tell hx hy hne).mp hp).2, com (mk pr) (mk pq) tell, com (mk pq) (mk pr) fun hx hy hne => (tell hx hy hne).trans And.comm⟩
/-- all orders tell the web -/
theorem common_ords {n : Nat} (hn : n ≤ 5) {ps : Ps} (h : Po n ps) : common n (ords n ps) = ps := by
  obtain ⟨r, q, hr, hq, e, _⟩ := two_rows hn h
  have hall : ∀ r ∈ ords n ps, Perm n r := fun r hr => ((mem_ords h.pr).mp hr).toPerm
  have hne : ords n ps ≠ [] := List.ne_nil_of_mem hr
  have hall2 : ∀ x ∈ [r, q], Perm n x := by
    intro x hx
    simp at hx
    rcases hx with rfl | rfl
    · exact hall _ hr
    · exact hall _ hq
  refine up_eq (common_up (by omega) _) h.up fun p => ?_
  constructor
  · intro hp
    obtain ⟨i, j, rfl, hi, hj⟩ := common_pr n _ p hp
    obtain ⟨_, _, hb⟩ := (common_iff hall hne).mp hp
    rw [← e]
    refine (common_iff hall2 (by simp)).mpr ⟨hi, hj, fun x hx => ?_⟩
    simp at hx
    rcases hx with rfl | rfl
    · exact hb _ hr
    · exact hb _ hq
  · intro hp
    obtain ⟨i, j, rfl, hi, hj⟩ := h.pr p hp
    exact (common_iff hall hne).mpr ⟨hi, hj, fun x hx => ((mem_ords h.pr).mp hx).bef i j hp⟩
end EvM

namespace EvM
/-! ### sorted names -/
def srt (l : List Nat) : List Nat := l.mergeSort fun a b => decide (a ≤ b)
theorem srt_perm (l : List Nat) : (srt l).Perm l := List.mergeSort_perm l _
theorem srt_sorted (l : List Nat) : (srt l).Pairwise (· ≤ ·) := by
  have h := List.pairwise_mergeSort (le := fun a b : Nat => decide (a ≤ b)) (by simp; omega) (by simp; omega) l
  exact h.imp (by simp)
theorem srt_eq {l m : List Nat} (h : m.Perm l) (hm : m.Pairwise (· ≤ ·)) : m = srt l :=
  List.Perm.eq_of_pairwise (le := fun a b : Nat => a ≤ b) (fun a b _ _ h1 h2 => by omega) hm (srt_sorted l) (h.trans (srt_perm l).symm)
theorem srt_congr {l m : List Nat} (h : l.Perm m) : srt l = srt m := srt_eq ((srt_perm l).trans h) (srt_sorted l)
theorem srt_of {l : List Nat} (h : l.Pairwise (· ≤ ·)) : srt l = l := (srt_eq (List.Perm.refl l) h).symm
theorem contains_congr {l m : List Nat} (h : ∀ x, x ∈ l ↔ x ∈ m) (x : Nat) : l.contains x = m.contains x := by
  rw [Bool.eq_iff_iff, List.contains_iff_mem, List.contains_iff_mem]
  exact h x
theorem free_congr {n : Nat} {ps : Ps} {l m : List Nat} (h : ∀ x, x ∈ l ↔ x ∈ m) : free n ps l = free n ps m := by
  unfold free
  congr 1
  funext x
  rw [contains_congr h]
  congr 1
  congr 1
  funext y
  exact contains_congr h y
theorem free_perm {n : Nat} {ps : Ps} {l m : List Nat} (h : l.Perm m) : free n ps l = free n ps m := free_congr fun _ => h.mem_iff
/-! ### the ways to go on behind a lot -/
def cnt (n : Nat) (ps : Ps) : Nat → List Nat → Nat
  | 0, _ => 1
  | m + 1, lot => ((free n ps lot).map fun x => cnt n ps m (srt (lot ++ [x]))).sum
theorem cnt_perm {n : Nat} {ps : Ps} {l m : List Nat} (h : l.Perm m) : ∀ k, cnt n ps k l = cnt n ps k m
  | 0 => rfl
  | k + 1 => by
    unfold cnt
    rw [free_perm h]
    congr 1
    refine List.map_congr_left fun x _ => ?_
    rw [srt_congr (h.append_right [x])]
theorem sum_flatMap {α : Type} (f : α → List (List Nat)) (g : List Nat → Nat) : ∀ l : List α, ((l.flatMap f).map g).sum = (l.map fun a => ((f a).map g).sum).sum
  | [] => rfl
  | a :: r => by
    rw [List.flatMap_cons, List.map_append, List.sum_append, List.map_cons, List.sum_cons, sum_flatMap f g r]
theorem ordsK_cnt (n : Nat) (ps : Ps) : ∀ m k, (ordsK n ps (k + m)).length = ((ordsK n ps k).map fun r => cnt n ps m (srt r)).sum
  | 0, k => by
    have : ∀ l : List (List Nat), (l.map fun r => cnt n ps 0 (srt r)).sum = l.length := by
      intro l
      induction l with
      | nil => rfl
      | cons a r ih => rw [List.map_cons, List.sum_cons, ih, List.length_cons]; show 1 + _ = _; omega
    rw [this]
    rfl
  | m + 1, k => by
    have e : k + (m + 1) = (k + 1) + m := by omega
    rw [e, ordsK_cnt n ps m (k + 1)]
    show (((ordsK n ps k).flatMap fun r => (free n ps r).map fun x => r ++ [x]).map fun r => cnt n ps m (srt r)).sum = _
    rw [sum_flatMap]
    congr 1
    refine List.map_congr_left fun r _ => ?_
    show _ = ((free n ps (srt r)).map fun x => cnt n ps m (srt (srt r ++ [x]))).sum
    rw [free_perm (srt_perm r), List.map_map]
    congr 1
    refine List.map_congr_left fun x _ => ?_
    show cnt n ps m (srt (r ++ [x])) = _
    rw [srt_congr ((srt_perm r).append_right [x])]
theorem ords_cnt (n : Nat) (ps : Ps) : (ords n ps).length = cnt n ps n [] := by
  have h := ordsK_cnt n ps n 0
  rw [Nat.zero_add] at h
  unfold ords
  rw [h]
  show cnt n ps n (srt []) + 0 = _
  rw [Nat.add_zero, srt_of List.Pairwise.nil]
/-! ### the lots -/
structure Lot (n : Nat) (lot : List Nat) : Prop where
  up : lot.Pairwise (· < ·)
  lt : ∀ x ∈ lot, x < n
theorem Lot.nd {n : Nat} {lot : List Nat} (h : Lot n lot) : lot.Nodup := h.up.imp fun h => Nat.ne_of_lt h
theorem lot_nil (n : Nat) : Lot n [] := ⟨List.Pairwise.nil, by simp⟩
theorem lot_with {n : Nat} {ps : Ps} {lot : List Nat} (h : Lot n lot) {x : Nat} (hx : x ∈ free n ps lot) : Lot n (srt (lot ++ [x])) ∧ (srt (lot ++ [x])).length = lot.length + 1 := by
  have p := srt_perm (lot ++ [x])
  have nd : (lot ++ [x]).Nodup := by
    have := h.nd
    have := free_not hx
    grind
  refine ⟨⟨?_, fun y hy => ?_⟩, by rw [p.length_eq]; simp⟩
  · have h1 := srt_sorted (lot ++ [x])
    have h2 : (srt (lot ++ [x])).Nodup := p.symm.nodup nd
    exact (h1.and h2).imp fun ⟨a, b⟩ => by omega
  · have := p.mem_iff.mp hy
    rcases List.mem_append.mp this with h3 | h3
    · exact h.lt y h3
    · simp at h3
      subst h3
      exact free_lt hx
theorem Lot.filter {n : Nat} {lot : List Nat} (h : Lot n lot) : lot = (List.range n).filter fun x => lot.contains x := by
  refine List.Perm.eq_of_pairwise (le := fun a b : Nat => a < b) (fun a b _ _ h1 h2 => by omega) h.up (List.Pairwise.filter _ List.pairwise_lt_range) ?_
  have n1 := h.nd
  have n2 : ((List.range n).filter fun x => lot.contains x).Nodup := List.Pairwise.filter _ List.nodup_range
  rw [List.perm_iff_count]
  intro a
  rw [n1.count, n2.count]
  have : a ∈ lot ↔ a ∈ (List.range n).filter fun x => lot.contains x := by
    rw [List.mem_filter, List.mem_range, List.contains_iff_mem]
    exact ⟨fun h2 => ⟨h.lt a h2, h2⟩, fun h2 => h2.2⟩
  simp only [this]
theorem Lot.le {n : Nat} {lot : List Nat} (h : Lot n lot) : lot.length ≤ n := by
  have : lot ⊆ List.range n := fun x hx => List.mem_range.mpr (h.lt x hx)
  have := List.Nodup.length_le_of_subset h.nd this
  rwa [List.length_range] at this
theorem Lot.full {n : Nat} {lot : List Nat} (h : Lot n lot) (hl : lot.length = n) : lot = List.range n := by
  have p : Perm n lot := ⟨h.nd, hl, h.lt⟩
  have e := h.filter
  have : ((List.range n).filter fun x => lot.contains x) = List.range n := by
    rw [List.filter_eq_self]
    intro x hx
    exact List.contains_iff_mem.mpr (p.mem (List.mem_range.mp hx))
  rw [this] at e
  exact e
theorem free_full {n : Nat} {ps : Ps} {lot : List Nat} (h : Lot n lot) (hl : lot.length = n) : free n ps lot = [] := by
  refine List.eq_nil_iff_forall_not_mem.mpr fun x hx => ?_
  have p : Perm n lot := ⟨h.nd, hl, h.lt⟩
  exact free_not hx (p.mem (free_lt hx))
def subl : List Nat → List (List Nat)
  | [] => [[]]
  | x :: r => subl r ++ (subl r).map fun s => x :: s
theorem subl_len : ∀ l, (subl l).length = 2 ^ l.length
  | [] => rfl
  | x :: r => by
    unfold subl
    rw [List.length_append, List.length_map, subl_len r, List.length_cons, Nat.pow_succ]
    omega
theorem subl_filter (f : Nat → Bool) : ∀ l : List Nat, l.filter f ∈ subl l
  | [] => by simp [subl]
  | x :: r => by
    have ih := subl_filter f r
    unfold subl
    rw [List.filter_cons]
    split
    · exact List.mem_append_right _ (List.mem_map.mpr ⟨_, ih, rfl⟩)
    · exact List.mem_append_left _ ih
/-- few lots -/
theorem lots_few {n : Nat} (hn : n ≤ 5) {ls : List (List Nat)} (nd : ls.Nodup) (h : ∀ l ∈ ls, Lot n l) : ls.length < 64 := by
  have sub : ls ⊆ subl (List.range n) := fun l hl => by
    rw [(h l hl).filter]
    exact subl_filter _ _
  have h1 := List.Nodup.length_le_of_subset nd sub
  rw [subl_len, List.length_range] at h1
  have h2 : 2 ^ n ≤ 2 ^ 5 := Nat.pow_le_pow_right (by omega) hn
  omega
/-- the list of lots so far: A, then the last layer L -/
structure Lots (n : Nat) (ps : Ps) (t : Nat) (A L : List (List Nat)) : Prop where
  lot : ∀ l ∈ A ++ L, Lot n l
  len : ∀ l ∈ L, l.length = t
  nd : L.Nodup
  next : ∀ (i : Nat) (l : List Nat), A[i]? = some l → ∀ x ∈ free n ps l, ∃ j : Nat, i < j ∧ (A ++ L)[j]? = some (srt (l ++ [x]))
  first : (A ++ L)[0]? = some []
theorem lots_start (n : Nat) (ps : Ps) : Lots n ps 0 [] [[]] := ⟨by simp [lot_nil], by simp, by simp, by simp, rfl⟩
theorem Lots.step {n : Nat} {ps : Ps} {t : Nat} {A L L' : List (List Nat)} (h : Lots n ps t A L) (nd : L'.Nodup) (hL : ∀ q, q ∈ L' ↔ ∃ l ∈ L, ∃ x ∈ free n ps l, q = srt (l ++ [x])) : Lots n ps (t + 1) (A ++ L) L' := by
  refine ⟨fun l hl => ?_, fun l hl => ?_, nd, fun i l hi x hx => ?_, ?_⟩
  · rcases List.mem_append.mp hl with hl | hl
    · exact h.lot l hl
    · obtain ⟨q, hq, x, hx, rfl⟩ := (hL l).mp hl
      exact (lot_with (h.lot q (List.mem_append_right _ hq)) hx).1
  · obtain ⟨q, hq, x, hx, rfl⟩ := (hL l).mp hl
    rw [(lot_with (h.lot q (List.mem_append_right _ hq)) hx).2, h.len q hq]
  · by_cases c : i < A.length
    · rw [List.getElem?_append_left c] at hi
      obtain ⟨j, hj, e⟩ := h.next i l hi x hx
      refine ⟨j, hj, ?_⟩
      rw [List.getElem?_append_left (List.getElem?_eq_some_iff.mp e).1]
      exact e
    · have hl : l ∈ L := by
        rw [List.getElem?_append_right (by omega)] at hi
        exact List.mem_of_getElem? hi
      have hm := (hL _).mpr ⟨l, hl, x, hx, rfl⟩
      obtain ⟨j, hj, e⟩ := List.getElem_of_mem hm
      have hi2 := (List.getElem?_eq_some_iff.mp hi).1
      refine ⟨(A ++ L).length + j, by omega, ?_⟩
      rw [List.getElem?_append_right (by omega), Nat.add_sub_cancel_left, List.getElem?_eq_getElem hj, e]
  · rw [List.getElem?_append_left (List.getElem?_eq_some_iff.mp h.first).1]
    exact h.first
/-- what lots_of gives -/
structure LotsOk (n : Nat) (ps : Ps) (rs : List (List Nat)) : Prop where
  lot : ∀ l ∈ rs, Lot n l
  next : ∀ (i : Nat) (l : List Nat), rs[i]? = some l → ∀ x ∈ free n ps l, ∃ j : Nat, i < j ∧ rs[j]? = some (srt (l ++ [x]))
  first : rs[0]? = some []
theorem Lots.ok {n : Nat} {ps : Ps} {A L : List (List Nat)} (h : Lots n ps n A L) : LotsOk n ps (A ++ L) := by
  refine ⟨h.lot, fun i l hi x hx => ?_, h.first⟩
  by_cases c : i < A.length
  · rw [List.getElem?_append_left c] at hi
    exact h.next i l hi x hx
  · have hl : l ∈ L := by
      rw [List.getElem?_append_right (by omega)] at hi
      exact List.mem_of_getElem? hi
    rw [free_full (h.lot l (List.mem_append_right _ hl)) (h.len l hl)] at hx
    simp at hx
/-! ### are_all -/
theorem all_iff {n : Nat} {rows ks : List (List Nat)} (h : ∀ r ∈ rows, Perm n r) (hne : rows ≠ []) (nd : ks.Nodup) (hk : ∀ r, r ∈ ks ↔ r ∈ rows) :
    (ords n (common n rows)).length = ks.length ↔ ∀ o ∈ ords n (common n rows), o ∈ rows := by
  have sub : ks ⊆ ords n (common n rows) := fun r hr => row_ord h hne ((hk r).mp hr)
  constructor
  · intro e o ho
    refine Classical.byContradiction fun hn => ?_
    have h1 : (o :: ks).Nodup := List.nodup_cons.mpr ⟨fun hm => hn ((hk o).mp hm), nd⟩
    have h2 : (o :: ks) ⊆ ords n (common n rows) := by
      intro y hy
      rcases List.mem_cons.mp hy with rfl | hy
      · exact ho
      · exact sub hy
    have := List.Nodup.length_le_of_subset h1 h2
    rw [List.length_cons] at this
    omega
  · intro ha
    have h1 := List.Nodup.length_le_of_subset nd sub
    have h2 := List.Nodup.length_le_of_subset (ords_nodup n (common n rows)) (fun o ho => (hk o).mpr (ha o ho))
    omega
/-! ### choices of rows, one behind another -/
abbrev Ch := List (List Nat) × Nat
def ext1 (rows : List (List Nat)) (s : Ch) : List Ch := (List.range' s.2 (rows.length - s.2)).map fun k => (s.1 ++ [rows.getD k []], k + 1)
def ext (rows : List (List Nat)) : Nat → Ch → List Ch
  | 0, s => [s]
  | k + 1, s => (ext1 rows s).flatMap (ext rows k)
theorem ext_snoc (rows : List (List Nat)) : ∀ k s, ext rows (k + 1) s = (ext rows k s).flatMap (ext1 rows)
  | 0, s => by
    show (ext1 rows s).flatMap (fun s => [s]) = [s].flatMap (ext1 rows)
    simp
  | k + 1, s => by
    show (ext1 rows s).flatMap (ext rows (k + 1)) = ((ext1 rows s).flatMap (ext rows k)).flatMap (ext1 rows)
    rw [List.flatMap_assoc]
    congr 1
    funext t
    exact ext_snoc rows k t
theorem mem_ext1 {rows : List (List Nat)} {s t : Ch} : t ∈ ext1 rows s ↔ ∃ k, s.2 ≤ k ∧ k < rows.length ∧ t = (s.1 ++ [rows.getD k []], k + 1) := by
  unfold ext1
  simp only [List.mem_map, List.mem_range'_1]
  constructor
  · rintro ⟨k, ⟨h1, h2⟩, rfl⟩
    exact ⟨k, h1, by omega, rfl⟩
  · rintro ⟨k, h1, h2, rfl⟩
    exact ⟨k, ⟨h1, by omega⟩, rfl⟩
theorem ext_sub {rows : List (List Nat)} : ∀ {k : Nat} {s t : Ch}, t ∈ ext rows k s → (∀ r ∈ s.1, r ∈ rows) → (∀ r ∈ t.1, r ∈ rows) ∧ t.1.length = s.1.length + k
  | 0, s, t, h, hs => by
    unfold ext at h
    simp at h
    subst h
    exact ⟨hs, rfl⟩
  | k + 1, s, t, h, hs => by
    unfold ext at h
    obtain ⟨u, hu, ht⟩ := List.mem_flatMap.mp h
    obtain ⟨j, _, hj, rfl⟩ := mem_ext1.mp hu
    have := ext_sub ht (fun r hr => by
      rcases List.mem_append.mp hr with h | h
      · exact hs r h
      · simp at h
        subst h
        rw [List.getElem?_eq_getElem hj]
        exact List.getElem_mem hj)
    refine ⟨this.1, ?_⟩
    rw [this.2]
    simp
    omega
theorem ext_len {rows : List (List Nat)} : ∀ (k : Nat) (s : Ch), (ext rows k s).length ≤ rows.length ^ k
  | 0, s => by simp [ext]
  | k + 1, s => by
    unfold ext
    rw [List.length_flatMap]
    have h1 : ∀ l : List Ch, (l.map fun a => (ext rows k a).length).sum ≤ l.length * rows.length ^ k := by
      intro l
      induction l with
      | nil => simp
      | cons a r ih =>
        rw [List.map_cons, List.sum_cons, List.length_cons, Nat.succ_mul]
        have := ext_len (rows := rows) k a
        omega
    have h2 : (ext1 rows s).length ≤ rows.length := by
      unfold ext1
      rw [List.length_map, List.length_range']
      omega
    calc _ ≤ (ext1 rows s).length * rows.length ^ k := h1 _
      _ ≤ rows.length * rows.length ^ k := Nat.mul_le_mul_right _ h2
      _ = rows.length ^ (k + 1) := by rw [Nat.pow_succ, Nat.mul_comm]
/-- the first choice of k rows that tells the web -/
def first (n : Nat) (ps : Ps) (rows : List (List Nat)) (k : Nat) (s : Ch) : Option Ch := (ext rows k s).find? fun t => common n t.1 == ps
end EvM

namespace EvM
theorem getD_at {α : Type} {l : List α} {i : Nat} (h : i < l.length) (d : α) : l.getD i d = l[i] := by
  rw [List.getD_eq_getElem?_getD, List.getElem?_eq_getElem h] <;> rfl
theorem common_congr {n : Nat} {a b : List (List Nat)} (h : ∀ r, r ∈ a ↔ r ∈ b) (hn : n ≤ 64) : common n a = common n b := by
  refine up_eq (common_up hn _) (common_up hn _) fun p => ?_
  rw [mem_common, mem_common]
  simp only [h]
/-- one or two rows are enough -/
theorem first_ex {n : Nat} (hn : n ≤ 5) {ps : Ps} (h : Po n ps) : ∃ k, (k = 1 ∨ k = 2) ∧ ∃ s, first n ps (ords n ps) k ([], 0) = some s := by
  obtain ⟨r, q, hr, hq, e1, e2⟩ := two_rows hn h
  obtain ⟨a, ha, ea⟩ := List.getElem_of_mem hr
  obtain ⟨b, hb, eb⟩ := List.getElem_of_mem hq
  have ga : (ords n ps).getD a [] = r := by rw [getD_at ha, ea]
  have gb : (ords n ps).getD b [] = q := by rw [getD_at hb, eb]
  have one : ∀ {x} (hx : x < (ords n ps).length), ([(ords n ps).getD x []], x + 1) ∈ ext (ords n ps) 1 ([], 0) := fun {x} hx => by
    show _ ∈ (ext1 (ords n ps) ([], 0)).flatMap (ext (ords n ps) 0)
    exact List.mem_flatMap.mpr ⟨_, mem_ext1.mpr ⟨x, Nat.zero_le _, hx, rfl⟩, by simp [ext]⟩
  have two : ∀ {x y}, x < y → y < (ords n ps).length → ([(ords n ps).getD x [], (ords n ps).getD y []], y + 1) ∈ ext (ords n ps) 2 ([], 0) := fun {x y} hxy hy => by
    rw [show (2 : Nat) = 1 + 1 from rfl, ext_snoc]
    exact List.mem_flatMap.mpr ⟨_, one (x := x) (by omega), mem_ext1.mpr ⟨y, hxy, hy, rfl⟩⟩
  have fin : ∀ {k} {t : Ch}, t ∈ ext (ords n ps) k ([], 0) → common n t.1 = ps → ∃ s, first n ps (ords n ps) k ([], 0) = some s := fun {k t} ht e => by
    unfold first
    have : ((ext (ords n ps) k ([], 0)).find? fun t => common n t.1 == ps).isSome = true := by
      rw [List.find?_isSome]
      exact ⟨t, ht, by simp [e]⟩
    exact Option.isSome_iff_exists.mp this
  rcases Nat.lt_trichotomy a b with c | c | c
  · exact ⟨2, .inr rfl, fin (two c hb) (by show common n [_, _] = ps; rw [ga, gb, e1])⟩
  · subst c
    refine ⟨1, .inl rfl, fin (one ha) ?_⟩
    show common n [_] = ps
    have : r = q := by rw [← ga, gb]
    subst this
    rw [ga, ← e1]
    exact common_congr (by simp) (by omega)
  · exact ⟨2, .inr rfl, fin (two c ha) (by show common n [_, _] = ps; rw [ga, gb, e2])⟩
theorem first_zero (n : Nat) (ps : Ps) (rows : List (List Nat)) (s : Ch) : first n ps rows 0 s = if common n s.1 == ps then some s else none := by
  unfold first ext
  rw [List.find?_cons]
  split <;> simp_all
theorem find_range {β : Type} (f : Nat → Option β) : ∀ (m a : Nat), (∀ k, k < m → f (a + k) = none) → (List.range' a m).findSome? f = none
  | 0, a, _ => rfl
  | m + 1, a, h => by
    rw [List.range'_succ, List.findSome?_cons]
    have h0 := h 0 (by omega)
    rw [Nat.add_zero] at h0
    rw [h0]
    exact find_range f m (a + 1) fun k hk => by
      have := h (k + 1) (by omega)
      rwa [show a + (k + 1) = a + 1 + k by omega] at this
theorem find_range_some {β : Type} (f : Nat → Option β) {v : β} : ∀ (m a i : Nat), i < m → (∀ k, k < i → f (a + k) = none) → f (a + i) = some v → (List.range' a m).findSome? f = some v
  | 0, _, _, h, _, _ => absurd h (by omega)
  | m + 1, a, 0, _, _, e => by
    rw [List.range'_succ, List.findSome?_cons]
    rw [Nat.add_zero] at e
    rw [e]
  | m + 1, a, i + 1, hi, h, e => by
    rw [List.range'_succ, List.findSome?_cons]
    have h0 := h 0 (by omega)
    rw [Nat.add_zero] at h0
    rw [h0]
    exact find_range_some f m (a + 1) i (by omega) (fun k hk => by
      have := h (k + 1) (by omega)
      rwa [show a + (k + 1) = a + 1 + k by omega] at this) (by rwa [show a + (i + 1) = a + 1 + i by omega] at e)
theorem first_succ (n : Nat) (ps : Ps) (rows : List (List Nat)) (m : Nat) (s : Ch) :
    first n ps rows (m + 1) s = (List.range' s.2 (rows.length - s.2)).findSome? fun k => first n ps rows m (s.1 ++ [rows.getD k []], k + 1) := by
  unfold first
  show ((ext1 rows s).flatMap (ext rows m)).find? _ = _
  rw [List.find?_flatMap]
  unfold ext1
  rw [List.findSome?_map]
  rfl
theorem first_none {n : Nat} {ps : Ps} {rows : List (List Nat)} {m b : Nat} {c : List (List Nat)} (h : ∀ k, k < rows.length - b → first n ps rows m (c ++ [rows.getD (b + k) []], b + k + 1) = none) : first n ps rows (m + 1) (c, b) = none := by
  rw [first_succ]
  exact find_range _ _ _ h
theorem first_some {n : Nat} {ps : Ps} {rows : List (List Nat)} {m b i : Nat} {c : List (List Nat)} {v : Ch} (hi : i < rows.length - b) (h : ∀ k, k < i → first n ps rows m (c ++ [rows.getD (b + k) []], b + k + 1) = none)
    (e : first n ps rows m (c ++ [rows.getD (b + i) []], b + i + 1) = some v) : first n ps rows (m + 1) (c, b) = some v := by
  rw [first_succ]
  exact find_range_some _ _ _ i hi h e
theorem first_of {n : Nat} {ps : Ps} {rows : List (List Nat)} {k : Nat} {s t : Ch} {l1 l2 : List Ch} (e : ext rows k s = l1 ++ t :: l2) (h : ∀ u ∈ l1, (common n u.1 == ps) = false) (ht : common n t.1 = ps) : first n ps rows k s = some t := by
  unfold first
  rw [e, List.find?_append]
  have : (l1.find? fun t => common n t.1 == ps) = none := by
    rw [List.find?_eq_none]
    intro u hu
    simp [h u hu]
  rw [this, List.find?_cons]
  simp [ht]
theorem first_no {n : Nat} {ps : Ps} {rows : List (List Nat)} {k : Nat} {s : Ch} (h : ∀ u ∈ ext rows k s, (common n u.1 == ps) = false) : first n ps rows k s = none := by
  unfold first
  rw [List.find?_eq_none]
  intro u hu
  simp [h u hu]
theorem first_mem {n : Nat} {ps : Ps} {rows : List (List Nat)} {k : Nat} {s t : Ch} (h : first n ps rows k s = some t) : t ∈ ext rows k s := by
  unfold first at h
  exact List.mem_of_find?_eq_some h
/-! ### all befores that follow -/
def comp (ps : Ps) : Ps := ps.flatMap fun p => (ps.filter fun q => fst2 q == snd2 p).map fun q => [fst2 p, snd2 q]
def upOf (n : Nat) (ps : Ps) : Ps := (prs n).filter fun p => ps.contains p
theorem mem_prs {n : Nat} {p : List Nat} : p ∈ prs n ↔ ∃ i j, p = [i, j] ∧ i < n ∧ j < n := by
  unfold prs
  simp only [List.mem_flatMap, List.mem_map, List.mem_range]
  constructor
  · rintro ⟨i, hi, j, hj, rfl⟩
    exact ⟨i, j, rfl, hi, hj⟩
  · rintro ⟨i, j, rfl, hi, hj⟩
    exact ⟨i, hi, j, hj, rfl⟩
theorem prs_up {n : Nat} (hn : n ≤ 64) : Up (prs n) := by
  unfold Up prs
  refine List.pairwise_flatMap.mpr ⟨fun i hi => ?_, ?_⟩
  · refine List.pairwise_map.mpr (List.Pairwise.imp (fun {a b} hab => ?_) (range_up n))
    simp [key2, fst2, snd2, hab]
  · refine List.Pairwise.imp_of_mem (fun {a b} ha hb hab => ?_) (range_up n)
    intro x hx y hy
    obtain ⟨u, hu, rfl⟩ := List.mem_map.mp hx
    obtain ⟨v, hv, rfl⟩ := List.mem_map.mp hy
    have h1 := List.mem_range.mp hu
    have h2 := List.mem_range.mp hv
    simp [key2, fst2, snd2]
    omega
theorem upOf_up {n : Nat} (hn : n ≤ 64) (ps : Ps) : Up (upOf n ps) := List.Pairwise.filter _ (prs_up hn)
theorem mem_upOf {n : Nat} {ps : Ps} (h : Pr n ps) {p : List Nat} : p ∈ upOf n ps ↔ p ∈ ps := by
  unfold upOf
  rw [List.mem_filter, mem_prs, List.contains_iff_mem]
  exact ⟨fun h => h.2, fun hp => ⟨h p hp, hp⟩⟩
theorem upOf_pr (n : Nat) (ps : Ps) : Pr n (upOf n ps) := fun p hp => mem_prs.mp (List.mem_filter.mp hp).1
theorem up_nodup {ps : Ps} (h : Up ps) : ps.Nodup := h.imp fun {a b} hab e => by subst e; omega
theorem mem_comp {n : Nat} {ps : Ps} (h : Pr n ps) {i j : Nat} : [i, j] ∈ comp ps ↔ ∃ k, [i, k] ∈ ps ∧ [k, j] ∈ ps := by
  unfold comp
  simp only [List.mem_flatMap, List.mem_map, List.mem_filter, beq_iff_eq]
  constructor
  · rintro ⟨p, hp, q, ⟨hq, e⟩, e2⟩
    obtain ⟨a, b, rfl, _⟩ := h p hp
    obtain ⟨c, d, rfl, _⟩ := h q hq
    simp [fst2, snd2] at e e2
    obtain ⟨rfl, rfl⟩ := e2
    subst e
    exact ⟨_, hp, hq⟩
  · rintro ⟨k, h1, h2⟩
    exact ⟨_, h1, _, ⟨h2, rfl⟩, rfl⟩
theorem comp_pr {n : Nat} {ps : Ps} (h : Pr n ps) : Pr n (comp ps) := fun p hp => by
  unfold comp at hp
  simp only [List.mem_flatMap, List.mem_map, List.mem_filter] at hp
  obtain ⟨u, hu, q, ⟨hq, e⟩, rfl⟩ := hp
  obtain ⟨a, b, rfl, ha, _⟩ := h u hu
  obtain ⟨c, d, rfl, _, hd⟩ := h q hq
  exact ⟨a, d, rfl, ha, hd⟩
theorem app_pr {n : Nat} {ps qs : Ps} (h : Pr n ps) (h2 : Pr n qs) : Pr n (ps ++ qs) := fun p hp => (List.mem_append.mp hp).elim (h p) (h2 p)
def step (n : Nat) (ps : Ps) : Ps := upOf n (ps ++ comp ps)
theorem mem_step {n : Nat} {ps : Ps} (h : Pr n ps) {i j : Nat} : [i, j] ∈ step n ps ↔ [i, j] ∈ ps ∨ ∃ k, [i, k] ∈ ps ∧ [k, j] ∈ ps := by
  unfold step
  rw [mem_upOf (app_pr h (comp_pr h)), List.mem_append, mem_comp h]
/-- chains of m befores -/
def T (base : Ps) : Nat → Nat → Nat → Prop
  | 0, i, j => i = j
  | m + 1, i, j => ∃ k, [i, k] ∈ base ∧ T base m k j
theorem T_add {base : Ps} : ∀ {a b i k : Nat}, T base (a + b) i k ↔ ∃ j, T base a i j ∧ T base b j k
  | 0, b, i, k => by
    rw [Nat.zero_add]
    constructor
    · intro h
      exact ⟨i, rfl, h⟩
    · rintro ⟨j, rfl, h⟩
      exact h
  | a + 1, b, i, k => by
    rw [show a + 1 + b = (a + b) + 1 by omega]
    constructor
    · rintro ⟨l, h1, h2⟩
      obtain ⟨j, h3, h4⟩ := T_add.mp h2
      exact ⟨j, ⟨l, h1, h3⟩, h4⟩
    · rintro ⟨j, ⟨l, h1, h3⟩, h4⟩
      exact ⟨l, h1, T_add.mpr ⟨j, h3, h4⟩⟩
def Chains (base R : Ps) (M : Nat) : Prop := ∀ i j, [i, j] ∈ R ↔ ∃ m, 1 ≤ m ∧ m ≤ M ∧ T base m i j
theorem chains_one {n : Nat} {base : Ps} (h : Pr n base) : Chains base (upOf n base) 1 := fun i j => by
  rw [mem_upOf h]
  constructor
  · intro hp
    exact ⟨1, by omega, by omega, j, hp, rfl⟩
  · rintro ⟨m, h1, h2, t⟩
    have : m = 1 := by omega
    subst this
    obtain ⟨k, h3, h4⟩ := t
    have h4 : k = j := h4
    subst h4
    exact h3
theorem chains_step {n : Nat} {base R : Ps} {M : Nat} (hR : Pr n R) (h : Chains base R M) : Chains base (step n R) (2 * M) := fun i j => by
  rw [mem_step hR]
  constructor
  · rintro (hp | ⟨k, h1, h2⟩)
    · obtain ⟨m, a, b, t⟩ := (h i j).mp hp
      exact ⟨m, a, by omega, t⟩
    · obtain ⟨m, a, b, t⟩ := (h i k).mp h1
      obtain ⟨m', a', b', t'⟩ := (h k j).mp h2
      exact ⟨m + m', by omega, by omega, T_add.mpr ⟨k, t, t'⟩⟩
  · rintro ⟨m, a, b, t⟩
    by_cases c : m ≤ M
    · exact .inl ((h i j).mpr ⟨m, a, c, t⟩)
    · refine .inr ?_
      rw [show m = m / 2 + (m - m / 2) by omega] at t
      obtain ⟨k, t1, t2⟩ := T_add.mp t
      exact ⟨k, (h i k).mpr ⟨_, by omega, by omega, t1⟩, (h k j).mpr ⟨_, by omega, by omega, t2⟩⟩
/-- befores along a row -/
structure Bs (n : Nat) (o : List Nat) (ps : Ps) : Prop where
  pr : Pr n ps
  po : Perm n o
  bef : ∀ i j, [i, j] ∈ ps → o.idxOf i < o.idxOf j
theorem T_pos {n : Nat} {o : List Nat} {base : Ps} (h : Bs n o base) : ∀ {m i j : Nat}, T base m i j → o.idxOf i + m ≤ o.idxOf j
  | 0, i, j, t => by
    have t : i = j := t
    subst t
    omega
  | m + 1, i, j, ⟨k, h1, h2⟩ => by
    have := h.bef _ _ h1
    have := T_pos h h2
    omega
theorem Bs.upOf {n : Nat} {o : List Nat} {ps : Ps} (h : Bs n o ps) : Bs n o (upOf n ps) := ⟨upOf_pr n ps, h.po, fun i j hp => h.bef i j ((mem_upOf h.pr).mp hp)⟩
theorem Bs.app {n : Nat} {o : List Nat} {ps : Ps} (h : Bs n o ps) : Bs n o (ps ++ comp ps) := ⟨app_pr h.pr (comp_pr h.pr), h.po, fun i j hp => by
  rcases List.mem_append.mp hp with hp | hp
  · exact h.bef i j hp
  · obtain ⟨k, h1, h2⟩ := (mem_comp h.pr).mp hp
    exact Nat.lt_trans (h.bef _ _ h1) (h.bef _ _ h2)⟩
theorem Bs.step {n : Nat} {o : List Nat} {ps : Ps} (h : Bs n o ps) : Bs n o (step n ps) := h.app.upOf
def closeR (n : Nat) (base : Ps) : Ps := step n (step n (step n (step n (upOf n base))))
theorem close_po {n : Nat} (hn : n ≤ 5) {o : List Nat} {base : Ps} (h : Bs n o base) : Po n (closeR n base) := by
  have b0 := h.upOf
  have b1 := b0.step
  have b2 := b1.step
  have b3 := b2.step
  have b4 := b3.step
  have c4 : Chains base (closeR n base) 16 := chains_step b3.pr (chains_step b2.pr (chains_step b1.pr (chains_step b0.pr (chains_one h.pr))))
  refine ⟨b4.pr, upOf_up (by omega) _, fun i j k h1 h2 => ?_, o, h.po, b4.bef⟩
  obtain ⟨m, a, _, t⟩ := (c4 i j).mp h1
  obtain ⟨m', a', _, t'⟩ := (c4 j k).mp h2
  have t3 : T base (m + m') i k := T_add.mpr ⟨j, t, t'⟩
  have p3 := T_pos h t3
  obtain ⟨j', k', e, _, hk⟩ := b4.pr _ h2
  simp at e
  have hk : k < n := by omega
  have := h.po.idx_lt hk
  exact (c4 i k).mpr ⟨m + m', by omega, by omega, t3⟩
/-! ### sizes -/
theorem upl_len {n : Nat} (hn : n ≤ 5) : (upl n).length ≤ 10 := by
  match n, hn with
  | 0, _ => decide
  | 1, _ => decide
  | 2, _ => decide
  | 3, _ => decide
  | 4, _ => decide
  | 5, _ => decide
theorem Bs.few {n : Nat} (hn : n ≤ 5) {o : List Nat} {ps : Ps} (h : Bs n o ps) (nd : ps.Nodup) : ps.length ≤ 10 := by
  have h1 : (ps.map fun p => [o.idxOf (fst2 p), o.idxOf (snd2 p)]).Nodup := by
    refine List.pairwise_map.mpr (List.Pairwise.imp_of_mem (fun {a b} ha hb hab e => hab ?_) nd)
    obtain ⟨i, j, rfl, hi, hj⟩ := h.pr a ha
    obtain ⟨k, l, rfl, hk, hl⟩ := h.pr b hb
    simp [fst2, snd2] at e
    rw [idx_inj (h.po.mem hi) (h.po.mem hk) e.1, idx_inj (h.po.mem hj) (h.po.mem hl) e.2]
  have h2 : (ps.map fun p => [o.idxOf (fst2 p), o.idxOf (snd2 p)]) ⊆ upl n := by
    intro q hq
    obtain ⟨p, hp, rfl⟩ := List.mem_map.mp hq
    obtain ⟨i, j, rfl, hi, hj⟩ := h.pr p hp
    exact mem_upl.mpr ⟨_, _, rfl, h.bef i j hp, h.po.idx_lt hj⟩
  have h3 := List.Nodup.length_le_of_subset h1 h2
  rw [List.length_map] at h3
  exact Nat.le_trans h3 (upl_len hn)
theorem out_few {n : Nat} {ps : Ps} (h : Pr n ps) (nd : ps.Nodup) (x : Nat) : (ps.filter fun q => fst2 q == x).length ≤ n := by
  have h1 : ((ps.filter fun q => fst2 q == x).map snd2).Nodup := by
    refine List.pairwise_map.mpr (List.Pairwise.imp_of_mem (fun {a b} ha hb hab e => hab ?_) (List.Pairwise.filter _ nd))
    obtain ⟨ha, ea⟩ := List.mem_filter.mp ha
    obtain ⟨hb, eb⟩ := List.mem_filter.mp hb
    obtain ⟨i, j, rfl, hi, hj⟩ := h a ha
    obtain ⟨k, l, rfl, hk, hl⟩ := h b hb
    simp [fst2, snd2] at e ea eb
    rw [ea, eb, e]
  have h2 : ((ps.filter fun q => fst2 q == x).map snd2) ⊆ List.range n := by
    intro y hy
    obtain ⟨p, hp, rfl⟩ := List.mem_map.mp hy
    obtain ⟨i, j, rfl, hi, hj⟩ := h p (List.mem_filter.mp hp).1
    exact List.mem_range.mpr hj
  have h3 := List.Nodup.length_le_of_subset h1 h2
  rwa [List.length_map, List.length_range] at h3
theorem comp_len {n : Nat} {ps : Ps} (h : Pr n ps) (nd : ps.Nodup) : (comp ps).length ≤ ps.length * n := by
  unfold comp
  rw [List.length_flatMap]
  have : ∀ l : Ps, (l.map fun p => ((ps.filter fun q => fst2 q == snd2 p).map fun q => [fst2 p, snd2 q]).length).sum ≤ l.length * n := by
    intro l
    induction l with
    | nil => simp
    | cons a r ih =>
      rw [List.map_cons, List.sum_cons, List.length_cons, Nat.succ_mul, List.length_map]
      have := out_few h nd (snd2 a)
      omega
  exact this ps
theorem Bs.small {n : Nat} (hn : n ≤ 5) {o : List Nat} {ps : Ps} (h : Bs n o ps) (nd : ps.Nodup) : (ps ++ comp ps).length < 64 := by
  have h1 := h.few hn nd
  have h2 := comp_len h.pr nd
  rw [List.length_append]
  have h3 : ps.length * n ≤ 10 * 5 := Nat.mul_le_mul h1 hn
  omega
/-- few pairs -/
theorem Po.few {n : Nat} (hn : n ≤ 5) {ps : Ps} (h : Po n ps) : ps.length ≤ 10 := by
  obtain ⟨o, ho⟩ := h.ex
  exact Bs.few hn (o := o) ⟨h.pr, ho.toPerm, ho.bef⟩ (up_nodup h.up)
end EvM

set_option maxRecDepth 100000
set_option maxHeartbeats 4000000
namespace Ev
open PySem PySem.Spec PyProof.Rows L2
/-! ### the text by places -/
def top (i : Nat) : Stmt := PySem.Challenge.pw_evenorders_k95_whole_webs_common_to_rows.main.body.getD i (.Pass ⟨0, 0, 0, 0⟩)
abbrev s_TooMany_init : Stmt := inClass (top 4) 0
theorem sc_TooMany_init : FnScope ["self", "most"] ["self", "most"] (defScope s_TooMany_init) := ⟨rfl, rfl, rfl, by decide +kernel, rfl, by decide +kernel, by decide +kernel⟩
abbrev s_is_integer : Stmt := top 6
theorem sc_is_integer : FnScope ["thing"] ["thing"] (defScope s_is_integer) := ⟨rfl, rfl, rfl, by decide +kernel, rfl, by decide +kernel, by decide +kernel⟩
abbrev s_is_within : Stmt := top 7
theorem sc_is_within : FnScope ["thing", "least", "most"] ["thing", "least", "most"] (defScope s_is_within) := ⟨rfl, rfl, rfl, by decide +kernel, rfl, by decide +kernel, by decide +kernel⟩
abbrev s_is_pair : Stmt := top 8
theorem sc_is_pair : FnScope ["thing"] ["thing"] (defScope s_is_pair) := ⟨rfl, rfl, rfl, by decide +kernel, rfl, by decide +kernel, by decide +kernel⟩
abbrev s_is_listed : Stmt := top 9
theorem sc_is_listed : FnScope ["thing"] ["thing"] (defScope s_is_listed) := ⟨rfl, rfl, rfl, by decide +kernel, rfl, by decide +kernel, by decide +kernel⟩
abbrev s_is_ascending : Stmt := top 10
theorem sc_is_ascending : FnScope ["items", "at"] ["items"] (defScope s_is_ascending) := ⟨rfl, rfl, rfl, by decide +kernel, rfl, by decide +kernel, by decide +kernel⟩
abbrev s_are_names : Stmt := top 11
theorem sc_are_names : FnScope ["many", "thing", "name"] ["many", "thing"] (defScope s_are_names) := ⟨rfl, rfl, rfl, by decide +kernel, rfl, by decide +kernel, by decide +kernel⟩
abbrev s_check_many : Stmt := top 12
theorem sc_check_many : FnScope ["number", "most"] ["number", "most"] (defScope s_check_many) := ⟨rfl, rfl, rfl, by decide +kernel, rfl, by decide +kernel, by decide +kernel⟩
abbrev s_closed : Stmt := top 15
theorem sc_closed : FnScope ["many", "pairs", "found", "middle", "one", "other", "pair", "name"] ["many", "pairs"] (defScope s_closed) := ⟨rfl, rfl, rfl, by decide +kernel, rfl, by decide +kernel, by decide +kernel⟩
abbrev s_are_befores : Stmt := top 16
theorem sc_are_befores : FnScope ["many", "thing", "pair"] ["many", "thing"] (defScope s_are_befores) := ⟨rfl, rfl, rfl, by decide +kernel, rfl, by decide +kernel, by decide +kernel⟩
abbrev s_Web_init : Stmt := inClass (top 17) 0
theorem sc_Web_init : FnScope ["self", "many", "befores", "every"] ["self", "many", "befores"] (defScope s_Web_init) := ⟨rfl, rfl, rfl, by decide +kernel, rfl, by decide +kernel, by decide +kernel⟩
abbrev s_Web_keep : Stmt := inClass (top 17) 1
theorem sc_Web_keep : FnScope ["self", "many", "every", "name", "one", "other"] ["self", "many", "every"] (defScope s_Web_keep) := ⟨rfl, rfl, rfl, by decide +kernel, rfl, by decide +kernel, by decide +kernel⟩
abbrev s_Web_eq : Stmt := inClass (top 17) 2
theorem sc_Web_eq : FnScope ["self", "other"] ["self", "other"] (defScope s_Web_eq) := ⟨rfl, rfl, rfl, by decide +kernel, rfl, by decide +kernel, by decide +kernel⟩
abbrev s_RawWeb_init : Stmt := inClass (top 18) 0
theorem sc_RawWeb_init : FnScope ["self", "many", "every"] ["self", "many", "every"] (defScope s_RawWeb_init) := ⟨rfl, rfl, rfl, by decide +kernel, rfl, by decide +kernel, by decide +kernel⟩
abbrev s_raw_web : Stmt := top 19
theorem sc_raw_web : FnScope ["many", "every"] ["many", "every"] (defScope s_raw_web) := ⟨rfl, rfl, rfl, by decide +kernel, rfl, by decide +kernel, by decide +kernel⟩
abbrev s_free_names : Stmt := top 20
theorem sc_free_names : FnScope ["web", "lot", "found", "name", "other"] ["web", "lot"] (defScope s_free_names) := ⟨rfl, rfl, rfl, by decide +kernel, rfl, by decide +kernel, by decide +kernel⟩
abbrev s_with_name : Stmt := top 21
theorem sc_with_name : FnScope ["lot", "name"] ["lot", "name"] (defScope s_with_name) := ⟨rfl, rfl, rfl, by decide +kernel, rfl, by decide +kernel, by decide +kernel⟩
abbrev s_lots_of : Stmt := top 22
theorem sc_lots_of : FnScope ["web", "found", "layer", "turn", "later", "lot", "name"] ["web"] (defScope s_lots_of) := ⟨rfl, rfl, rfl, by decide +kernel, rfl, by decide +kernel, by decide +kernel⟩
abbrev s_rests : Stmt := top 24
theorem sc_rests : FnScope ["web", "found", "lot", "name"] ["web"] (defScope s_rests) := ⟨rfl, rfl, rfl, by decide +kernel, rfl, by decide +kernel, by decide +kernel⟩
abbrev s_count : Stmt := top 25
theorem sc_count : FnScope ["web"] ["web"] (defScope s_count) := ⟨rfl, rfl, rfl, by decide +kernel, rfl, by decide +kernel, by decide +kernel⟩
abbrev s_all_orders : Stmt := top 26
theorem sc_all_orders : FnScope ["web", "found", "turn", "later", "row", "name"] ["web"] (defScope s_all_orders) := ⟨rfl, rfl, rfl, by decide +kernel, rfl, by decide +kernel, by decide +kernel⟩
abbrev s_are_rows : Stmt := top 30
theorem sc_are_rows : FnScope ["thing", "many", "row"] ["thing"] (defScope s_are_rows) := ⟨rfl, rfl, rfl, by decide +kernel, rfl, by decide +kernel, by decide +kernel⟩
abbrev s_check_rows : Stmt := top 31
theorem sc_check_rows : FnScope ["thing"] ["thing"] (defScope s_check_rows) := ⟨rfl, rfl, rfl, by decide +kernel, rfl, by decide +kernel, by decide +kernel⟩
abbrev s_common_of : Stmt := top 32
theorem sc_common_of : FnScope ["rows", "many", "kept", "place", "one", "other", "row", "places", "name", "pair"] ["rows"] (defScope s_common_of) := ⟨rfl, rfl, rfl, by decide +kernel, rfl, by decide +kernel, by decide +kernel⟩
abbrev s_common_web : Stmt := top 33
theorem sc_common_web : FnScope ["rows"] ["rows"] (defScope s_common_web) := ⟨rfl, rfl, rfl, by decide +kernel, rfl, by decide +kernel, by decide +kernel⟩
abbrev s_are_all : Stmt := top 34
theorem sc_are_all : FnScope ["rows", "row"] ["rows"] (defScope s_are_all) := ⟨rfl, rfl, rfl, by decide +kernel, rfl, by decide +kernel, by decide +kernel⟩
abbrev s_told_by : Stmt := top 35
theorem sc_told_by : FnScope ["web", "chosen", "left", "more", "at", "found"] ["web", "chosen", "left", "more"] (defScope s_told_by) := ⟨rfl, rfl, rfl, by decide +kernel, rfl, by decide +kernel, by decide +kernel⟩
abbrev s_fewest_rows : Stmt := top 36
theorem sc_fewest_rows : FnScope ["web", "every", "number", "found"] ["web"] (defScope s_fewest_rows) := ⟨rfl, rfl, rfl, by decide +kernel, rfl, by decide +kernel, by decide +kernel⟩
abbrev s_l_flag : Stmt := top 38
theorem sc_l_flag : FnScope ["_law_told", "_law_due"] ["_law_told", "_law_due"] (defScope s_l_flag) := ⟨rfl, rfl, rfl, by decide +kernel, rfl, by decide +kernel, by decide +kernel⟩
abbrev s_l_tape : Stmt := top 39
theorem sc_l_tape : FnScope ["_law_script"] ["_law_script"] (defScope s_l_tape) := ⟨rfl, rfl, rfl, by decide +kernel, rfl, by decide +kernel, by decide +kernel⟩
abbrev s_l_pick : Stmt := top 40
theorem sc_l_pick : FnScope ["_law_tape_here", "_law_many", "_law_digit", "_law_cell", "_law_mixed"] ["_law_tape_here", "_law_many"] (defScope s_l_pick) := ⟨rfl, rfl, rfl, by decide +kernel, rfl, by decide +kernel, by decide +kernel⟩
abbrev s_l_closed : Stmt := top 41
theorem sc_l_closed : FnScope ["_law_pairs_here", "_law_found", "_law_turn", "_law_more", "_law_one", "_law_middle", "_law_pair", "_law_first", "_law_other"] ["_law_pairs_here"] (defScope s_l_closed) := ⟨rfl, rfl, rfl, by decide +kernel, rfl, by decide +kernel, by decide +kernel⟩
abbrev s_l_pairs : Stmt := top 42
theorem sc_l_pairs : FnScope ["_law_tape_here", "_law_many", "_law_row", "_law_name", "_law_thin", "_law_found", "_law_at", "_law_other"] ["_law_tape_here", "_law_many"] (defScope s_l_pairs) := ⟨rfl, rfl, rfl, by decide +kernel, rfl, by decide +kernel, by decide +kernel⟩
abbrev s_l_free : Stmt := top 43
theorem sc_l_free : FnScope ["_law_befores", "_law_many", "_law_row", "_law_found", "_law_name", "_law_one", "_law_other"] ["_law_befores", "_law_many", "_law_row"] (defScope s_l_free) := ⟨rfl, rfl, rfl, by decide +kernel, rfl, by decide +kernel, by decide +kernel⟩
abbrev s_l_orders : Stmt := top 44
theorem sc_l_orders : FnScope ["_law_befores", "_law_many", "_law_found", "_law_turn", "_law_longer", "_law_row", "_law_name"] ["_law_befores", "_law_many"] (defScope s_l_orders) := ⟨rfl, rfl, rfl, by decide +kernel, rfl, by decide +kernel, by decide +kernel⟩
abbrev s_l_odd : Stmt := top 45
theorem sc_l_odd : FnScope ["_law_tape_here", "_law_things"] ["_law_tape_here"] (defScope s_l_odd) := ⟨rfl, rfl, rfl, by decide +kernel, rfl, by decide +kernel, by decide +kernel⟩
abbrev s_l_is_int : Stmt := top 46
theorem sc_l_is_int : FnScope ["_law_thing", "_law_least", "_law_most"] ["_law_thing", "_law_least", "_law_most"] (defScope s_l_is_int) := ⟨rfl, rfl, rfl, by decide +kernel, rfl, by decide +kernel, by decide +kernel⟩
abbrev s_l_are_names : Stmt := top 47
theorem sc_l_are_names : FnScope ["_law_many", "_law_thing", "_law_name"] ["_law_many", "_law_thing"] (defScope s_l_are_names) := ⟨rfl, rfl, rfl, by decide +kernel, rfl, by decide +kernel, by decide +kernel⟩
abbrev s_l_common : Stmt := top 51
theorem sc_l_common : FnScope ["_law_rows", "_law_many", "_law_found", "_law_one", "_law_other", "_law_row"] ["_law_rows"] (defScope s_l_common) := ⟨rfl, rfl, rfl, by decide +kernel, rfl, by decide +kernel, by decide +kernel⟩
abbrev s_l_right : Stmt := top 52
theorem sc_l_right : FnScope ["_law_rows", "_law_many", "_law_due", "_law_told", "_law_missing", "_law_order"] ["_law_rows"] (defScope s_l_right) := ⟨rfl, rfl, rfl, by decide +kernel, rfl, by decide +kernel, by decide +kernel⟩
abbrev s_l_fewest : Stmt := top 53
theorem sc_l_fewest : FnScope ["_law_every", "_law_many", "_law_rows", "_law_layer", "_law_number", "_law_later", "_law_some", "_law_begin", "_law_at", "_law_more"] ["_law_every", "_law_many"] (defScope s_l_fewest) := ⟨rfl, rfl, rfl, by decide +kernel, rfl, by decide +kernel, by decide +kernel⟩
abbrev s_l_tried : Stmt := top 54
theorem sc_l_tried : FnScope ["_law_kind", "_law_thing", "_law_found", "e"] ["_law_kind", "_law_thing"] (defScope s_l_tried) := ⟨rfl, rfl, rfl, by decide +kernel, rfl, by decide +kernel, by decide +kernel⟩
abbrev s_l_are_rows : Stmt := top 55
theorem sc_l_are_rows : FnScope ["_law_thing", "_law_many", "_law_row"] ["_law_thing"] (defScope s_l_are_rows) := ⟨rfl, rfl, rfl, by decide +kernel, rfl, by decide +kernel, by decide +kernel⟩
abbrev s_law : Stmt := top 56
theorem sc_law : FnScope ["_law_script", "_law_tape_here", "_law_many", "_law_every", "_law_web", "_law_rows", "_law_at", "_law_lines", "_law_some", "_law_row", "_law_wrong", "_law_thing", "_law_due", "_law_k"] ["_law_script"] (defScope s_law) := ⟨rfl, rfl, rfl, by decide +kernel, rfl, by decide +kernel, by decide +kernel⟩/-! ### a def of the module, its promise -/
structure Def (K : PySem.W.Frag) (mg : Str → Option Value) (x : Str) (st : Stmt) (ps : List Str) : Prop where
  ex : ∃ f fd, Fun K x x st f fd ∧ Binds K fd ps [] ∧ mg x = some (.ref f)
structure Cal (P : Program) (w : World) (K : PySem.W.Frag) (mg : Str → Option Value) (base : Heap) (CX : CXT) (k : Nat) (x : Str) (sp : Sp) : Prop where
  ex : ∃ f fd ps, FnOk P w K mg base CX k f fd ps sp ∧ Binds K fd ps [] ∧ PySem.W.keepIn K (.ref f) = true ∧ mg x = some (.ref f)
section
variable {P : Program} {w : World} {K : PySem.W.Frag} {mg : Str → Option Value} {base : Heap} {X : Cx}
theorem Def.ok {x : Str} {st : Stmt} {N ps : List Str} {k : Nat} {sp : Sp} (D : Def K mg x st ps) (S : FnScope N ps (defScope st)) (len : ∀ vs H Q E, sp vs H Q E → vs.length = ps.length)
    (hbody : ∀ (f : Addr) (cdv : Value) (A : Around) (outer : List Env) (s : Shared) (H : Hp) (vs : List V) (Q : VK) (E : XK), Room k (A.deeper (envOfC x (defScope st) s.heap.objs.size f cdv)) → sp vs H Q E →
      ∃ t, PSs (cxOf CX0 P w K mg base N x (defScope st) f cdv A outer s H E).nox (defBody st) t ∧ t { nx := fun _ H' => Q .non H', rt := Q } (start N vs) H) : Cal P w K mg base CX0 (k + 1) x sp := by
  obtain ⟨f, fd, F, b, m⟩ := D.ex
  exact ⟨f, fd, ps, F.ok S len fun cdv A outer s H vs Q E hr h => hbody f cdv A outer s H vs Q E hr h, b, F.kp, m⟩
theorem pe_fn {k j : Nat} {x : Str} {sp : Sp} {p pos : Pos} {e : Expr} {es : List Expr} {t : TA} (c : Cal X.prog X.w X.K X.mg X.base CX0 k x sp) (hr : Room j X.A) (hk : k ≤ j) (hg : Gl X x) (ha : PA X (e :: es) t)
    (hdb : (x == ("__debug__" : Str)) = false := by decide) (he : starEach (e :: es) X.env = (false, eval e X.env) :: starEach es X.env := by rfl) (hpl : (backTo pos (starEach es X.env)).any (·.1) = false := by rfl) :
    PE X (.Call (.Name x p) (e :: es) [] pos) (tCall sp [] E0 t) := by
  obtain ⟨f, fd, ps, F, b, kp, m⟩ := c.ex
  exact pe_call F (hr.mono hk) hg m kp b .nil pass0 ha hdb he hpl
theorem pe_ty (n : String) {x : Str} {pos : Pos} (hg : Gl X x) (hm : X.mg x = none) (hv : bootBuiltins x = some (.type n)) (hn : x ≠ "__name__" := by decide) (hd : (x == ("__debug__" : Str)) = false := by decide) : PE X (.Name x pos) (tC (.ty n)) := pe_bltn hg hm hv rfl hn hd
theorem pe_gl {v : V} {x : Str} {pos : Pos} (hg : Gl X x) (h : ∃ u, X.mg x = some u ∧ RelV v u) (hd : (x == ("__debug__" : Str)) = false := by decide) : PE X (.Name x pos) (tC v) := by
  obtain ⟨u, h1, h2⟩ := h
  exact pe_glob hg h1 h2 hd
end
/-- what the walk asks of the top -/
structure Txt (K : PySem.W.Frag) (mg : Str → Option Value) : Prop where
  d_is_integer : Def K mg "is_integer" s_is_integer ["thing"]
  d_is_within : Def K mg "is_within" s_is_within ["thing", "least", "most"]
  d_is_pair : Def K mg "is_pair" s_is_pair ["thing"]
  d_is_listed : Def K mg "is_listed" s_is_listed ["thing"]
  d_is_ascending : Def K mg "is_ascending" s_is_ascending ["items"]
  d_are_names : Def K mg "are_names" s_are_names ["many", "thing"]
  d_check_many : Def K mg "check_many" s_check_many ["number", "most"]
  d_closed : Def K mg "closed" s_closed ["many", "pairs"]
  d_are_befores : Def K mg "are_befores" s_are_befores ["many", "thing"]
  d_raw_web : Def K mg "raw_web" s_raw_web ["many", "every"]
  d_free_names : Def K mg "free_names" s_free_names ["web", "lot"]
  d_with_name : Def K mg "with_name" s_with_name ["lot", "name"]
  d_lots_of : Def K mg "lots_of" s_lots_of ["web"]
  d_rests : Def K mg "rests" s_rests ["web"]
  d_count : Def K mg "count" s_count ["web"]
  d_all_orders : Def K mg "all_orders" s_all_orders ["web"]
  d_are_rows : Def K mg "are_rows" s_are_rows ["thing"]
  d_check_rows : Def K mg "check_rows" s_check_rows ["thing"]
  d_common_of : Def K mg "common_of" s_common_of ["rows"]
  d_common_web : Def K mg "common_web" s_common_web ["rows"]
  d_are_all : Def K mg "are_all" s_are_all ["rows"]
  d_told_by : Def K mg "told_by" s_told_by ["web", "chosen", "left", "more"]
  d_fewest_rows : Def K mg "fewest_rows" s_fewest_rows ["web"]
  d_l_flag : Def K mg "_law_flag" s_l_flag ["_law_told", "_law_due"]
  d_l_tape : Def K mg "_law_tape" s_l_tape ["_law_script"]
  d_l_pick : Def K mg "_law_pick" s_l_pick ["_law_tape_here", "_law_many"]
  d_l_closed : Def K mg "_law_closed" s_l_closed ["_law_pairs_here"]
  d_l_pairs : Def K mg "_law_pairs" s_l_pairs ["_law_tape_here", "_law_many"]
  d_l_free : Def K mg "_law_free" s_l_free ["_law_befores", "_law_many", "_law_row"]
  d_l_orders : Def K mg "_law_orders" s_l_orders ["_law_befores", "_law_many"]
  d_l_odd : Def K mg "_law_odd" s_l_odd ["_law_tape_here"]
  d_l_is_int : Def K mg "_law_is_int" s_l_is_int ["_law_thing", "_law_least", "_law_most"]
  d_l_are_names : Def K mg "_law_are_names" s_l_are_names ["_law_many", "_law_thing"]
  d_l_common : Def K mg "_law_common" s_l_common ["_law_rows"]
  d_l_right : Def K mg "_law_right" s_l_right ["_law_rows"]
  d_l_fewest : Def K mg "_law_fewest" s_l_fewest ["_law_every", "_law_many"]
  d_l_tried : Def K mg "_law_tried" s_l_tried ["_law_kind", "_law_thing"]
  d_l_are_rows : Def K mg "_law_are_rows" s_l_are_rows ["_law_thing"]
  n_len : mg "len" = none
  n_isinstance : mg "isinstance" = none
  n_range : mg "range" = none
  n_sorted : mg "sorted" = none
  n_tuple : mg "tuple" = none
  n_list : mg "list" = none
  n_set : mg "set" = none
  n_all : mg "all" = none
  n_any : mg "any" = none
  n_sum : mg "sum" = none
  n_int : mg "int" = none
  n_enumerate : mg "enumerate" = none
  n_reversed : mg "reversed" = none
  n_bool : mg "bool" = none
  g_MOST_NAMES : ∃ u, mg "MOST_NAMES" = some u ∧ RelV (.int 8) u
  g_MOST_ROWS : ∃ u, mg "MOST_ROWS" = some u ∧ RelV (.int 1000) u
  g_MOST_TOLD : ∃ u, mg "MOST_TOLD" = some u ∧ RelV (.int 5) u
end Ev

set_option maxRecDepth 100000
set_option maxHeartbeats 4000000
namespace Ev
open PySem PySem.Spec PyProof.Rows L2
/-! ### heaps -/
/-- tuples are kept -/
def TK (H H' : Hp) : Prop := ∀ b xs, H b = some (.tup xs) → H' b = some (.tup xs)
theorem TK.refl (H : Hp) : TK H H := fun _ _ h => h
theorem TK.trans {H H1 H2 : Hp} (a : TK H H1) (b : TK H1 H2) : TK H H2 := fun c xs h => b c xs (a c xs h)
theorem tk_of {H H' : Hp} (s : Same H H') : TK H H' := fun b xs h => s b _ h
theorem tk_upd {H : Hp} {a : Addr} {o : HO} (h : ∀ xs, H a ≠ some (.tup xs)) : TK H (upd H a o) := fun b xs e => by
  rw [upd_ne (fun z => by subst z; exact h xs e)]
  exact e
theorem tk_lst {H : Hp} {a : Addr} {o : HO} {xs : List V} (h : H a = some (.lst xs)) : TK H (upd H a o) := tk_upd fun ys e => by rw [h] at e; cases e
theorem tk_dT {H : Hp} {a : Addr} {o : HO} {xs : List (List Key × V)} (h : H a = some (.dT xs)) : TK H (upd H a o) := tk_upd fun ys e => by rw [h] at e; cases e
theorem tk_dK {H : Hp} {a : Addr} {o : HO} {xs : List (Key × V)} (h : H a = some (.dK xs)) : TK H (upd H a o) := tk_upd fun ys e => by rw [h] at e; cases e
theorem same_new {H : Hp} {p : Addr} {o : HO} (h : H p = none) : Same H (upd H p o) := fun b u q => by rw [upd_ne (ne_of_none q h)]; exact q
/-- an object that H0 does not know is changed -/
theorem same_mut {H0 H : Hp} {p : Addr} {o : HO} (s : Same H0 H) (h : H0 p = none) : Same H0 (upd H p o) := fun b u q => by rw [upd_ne (ne_of_none q h)]; exact s b u q
/-! ### lists that go together -/
theorem Pd.get {α β : Type} {F : α → β → Prop} : ∀ {l : List α} {m : List β} {i : Nat} {x : α}, Paired F l m → l[i]? = some x → ∃ y, m[i]? = some y ∧ F x y
  | _, _, _, _, .nil, e => by simp at e
  | _, _, 0, _, .cons h _, e => by simp at e; subst e; exact ⟨_, rfl, h⟩
  | _, _, i + 1, x, .cons _ t, e => by
    obtain ⟨y, h1, h2⟩ := Pd.get (i := i) (x := x) t (by simpa using e)
    exact ⟨y, by simpa using h1, h2⟩
theorem Pd.get' {α β : Type} {F : α → β → Prop} : ∀ {l : List α} {m : List β} {i : Nat} {y : β}, Paired F l m → m[i]? = some y → ∃ x, l[i]? = some x ∧ F x y
  | _, _, _, _, .nil, e => by simp at e
  | _, _, 0, _, .cons h _, e => by simp at e; subst e; exact ⟨_, rfl, h⟩
  | _, _, i + 1, x, .cons _ t, e => by
    obtain ⟨y, h1, h2⟩ := Pd.get' (i := i) (y := x) t (by simpa using e)
    exact ⟨y, by simpa using h1, h2⟩
theorem Pd.app {α β : Type} {F : α → β → Prop} : ∀ {l l' : List α} {m m' : List β}, Paired F l m → Paired F l' m' → Paired F (l ++ l') (m ++ m')
  | _, _, _, _, .nil, h => h
  | _, _, _, _, .cons h t, h' => .cons h (Pd.app t h')
theorem Pd.snoc {α β : Type} {F : α → β → Prop} {l : List α} {m : List β} {x : α} {y : β} (h : Paired F l m) (hx : F x y) : Paired F (l ++ [x]) (m ++ [y]) := Pd.app h (.cons hx .nil)
theorem Pd.take {α β : Type} {F : α → β → Prop} : ∀ {l : List α} {m : List β} (k : Nat), Paired F l m → Paired F (l.take k) (m.take k)
  | _, _, 0, _ => .nil
  | _, _, _ + 1, .nil => .nil
  | _, _, k + 1, .cons h t => .cons h (Pd.take k t)
theorem Pd.drop {α β : Type} {F : α → β → Prop} : ∀ {l : List α} {m : List β} (k : Nat), Paired F l m → Paired F (l.drop k) (m.drop k)
  | _, _, 0, h => h
  | _, _, _ + 1, .nil => .nil
  | _, _, k + 1, .cons h t => Pd.drop k t
theorem Pd.map {α β γ : Type} {F : α → β → Prop} {G : γ → β → Prop} {f : α → γ} (hf : ∀ a b, F a b → G (f a) b) : ∀ {l : List α} {m : List β}, Paired F l m → Paired G (l.map f) m
  | _, _, .nil => .nil
  | _, _, .cons h t => .cons (hf _ _ h) (Pd.map hf t)
theorem Pd.of_map {α β : Type} {F : α → β → Prop} {f : β → α} (hf : ∀ b, F (f b) b) : ∀ (m : List β), Paired F (m.map f) m
  | [] => .nil
  | b :: m => .cons (hf b) (Pd.of_map hf m)
theorem Pd.eq_map {α β : Type} {f : β → α} : ∀ {l : List α} {m : List β}, Paired (fun a b => a = f b) l m → l = m.map f
  | _, _, .nil => rfl
  | _, _, .cons h t => by rw [List.map_cons, ← h, ← Pd.eq_map t]
theorem Pd.mem {α β : Type} {F : α → β → Prop} : ∀ {l : List α} {m : List β} {x : α}, Paired F l m → x ∈ l → ∃ y, y ∈ m ∧ F x y
  | _, _, _, .nil, h => by simp at h
  | _, _, x, .cons h t, hx => by
    rcases List.mem_cons.mp hx with rfl | hx
    · exact ⟨_, by simp, h⟩
    · obtain ⟨y, hy, hf⟩ := Pd.mem t hx
      exact ⟨y, by simp [hy], hf⟩
theorem Pd.mem' {α β : Type} {F : α → β → Prop} : ∀ {l : List α} {m : List β} {y : β}, Paired F l m → y ∈ m → ∃ x, x ∈ l ∧ F x y
  | _, _, _, .nil, h => by simp at h
  | _, _, x, .cons h t, hx => by
    rcases List.mem_cons.mp hx with rfl | hx
    · exact ⟨_, by simp, h⟩
    · obtain ⟨y, hy, hf⟩ := Pd.mem' t hx
      exact ⟨y, by simp [hy], hf⟩
/-! ### names, tuples of names, lists of tuples -/
def nm (n : Nat) : V := .int (n : Int)
theorem nm_inj {i j : Nat} (h : nm i = nm j) : i = j := by
  injection h with h
  omega
def Tn (H : Hp) (v : V) (r : List Nat) : Prop := ∃ a, v = .ref a ∧ H a = some (.tup (r.map nm))
theorem Tn.tk {H H' : Hp} {v : V} {r : List Nat} (h : Tn H v r) (t : TK H H') : Tn H' v r := by
  obtain ⟨a, e, h⟩ := h
  exact ⟨a, e, t _ _ h⟩
theorem tns_tk {H H' : Hp} {xs : List V} {rs : List (List Nat)} (h : Paired (Tn H) xs rs) (t : TK H H') : Paired (Tn H') xs rs := L2.Paired.mapP h fun _ _ q => q.tk t
/-- the list at a holds tuples of names -/
def Lt (H : Hp) (a : Addr) (rs : List (List Nat)) : Prop := ∃ xs, H a = some (.lst xs) ∧ Paired (Tn H) xs rs
def Tt (H : Hp) (a : Addr) (rs : List (List Nat)) : Prop := ∃ xs, H a = some (.tup xs) ∧ Paired (Tn H) xs rs
theorem Lt.same {H H' : Hp} {a : Addr} {rs : List (List Nat)} (h : Lt H a rs) (s : Same H H') : Lt H' a rs := by
  obtain ⟨xs, e, p⟩ := h
  exact ⟨xs, s _ _ e, tns_tk p (tk_of s)⟩
theorem Tt.tk {H H' : Hp} {a : Addr} {rs : List (List Nat)} (h : Tt H a rs) (t : TK H H') : Tt H' a rs := by
  obtain ⟨xs, e, p⟩ := h
  exact ⟨xs, t _ _ e, tns_tk p t⟩
theorem Tt.same {H H' : Hp} {a : Addr} {rs : List (List Nat)} (h : Tt H a rs) (s : Same H H') : Tt H' a rs := h.tk (tk_of s)
theorem sz_le {n : Nat} (h : n ≤ 16777216) : n ≤ sizeLine := by rw [sizeLine_eq]; exact h
theorem sz_lt {n : Nat} (h : n < 16777216) : n < sizeLine := by rw [sizeLine_eq]; exact h
/-! ### comprehensions: from the items as to (as.filter p).map h -/
section
variable {α β : Type} {J : It} {G : Hp → Prop} {Y : Nat → Hp → V → Hp → Prop} {g : TG} {tt : TT} {te tk tv : TE} {vs : List Nat} {σ : L2.St} {H1 : Hp} {D : Addr} {Qd : Hp → Prop}
theorem take_snoc {α : Type} {l : List α} {i : Nat} {x : α} (h : l[i]? = some x) : l.take (i + 1) = l.take i ++ [x] := by
  rw [List.take_add_one, h]
  rfl
theorem lc_gen (as : List α) (p : α → Bool) (h : α → β) (R : Hp → V → β → Prop) (hR : ∀ H H' v b, TK H H' → R H v b → R H' v b) (w : Walk J as.length G Y) (hz : as.length ≤ 16777216) (hD : H1 D = none) (hG : ∀ H', Same H1 H' → G H')
    (turn : ∀ (i : Nat) (a : α) (x : V) (H H' : Hp), as[i]? = some a → Same H1 H → Y i H x H' → ∀ (K : V → Hp → Prop) (Kn : Hp → Prop), (p a = true → ∀ y H5, Same H H5 → R H5 y (h a) → K y H5) → (p a = false → ∀ H5, Same H H5 → Kn H5) →
      g x (wipe σ vs) H' fun σ2 H2 => wipe σ2 vs = wipe σ vs ∧ tt σ2 H2 fun b H3 => if b = true then te σ2 H3 K else Kn H3)
    (done : ∀ H' ys, Same H1 H' → H' D = some (.lst ys) → Paired (R H') ys ((as.filter p).map h) → Qd H') :
    ∃ W : Nat → Nat → Hp → Prop, (∃ m, W 0 m (upd H1 D (.lst []))) ∧ ∀ i m H, W i m H →
      (J.stop i H ∧ Qd H) ∨ (J.go i H ∧ ∃ Nx : Hp → Prop, (∀ H', Nx H' → ∃ m', m' < m ∧ W (i + 1) m' H') ∧ ∀ x H', J.yld i H x H' → g x (wipe σ vs) H' fun σ2 H2 => wipe σ2 vs = wipe σ vs ∧ tt σ2 H2 fun b H3 =>
        if b = true then te σ2 H3 fun y H4 => ∃ acc, H4 D = some (.lst acc) ∧ acc.length < sizeLine ∧ Nx (upd H4 D (.lst (acc ++ [y]))) else Nx H3) := by
  refine lc_it w (fun i H => Same H1 H ∧ ∃ ys, H D = some (.lst ys) ∧ Paired (R H) ys (((as.take i).filter p).map h)) ⟨same_new hD, [], upd_same, .nil⟩ (fun i H _ q => hG H q.1) ?_ ?_
  · rintro i x H H' hi ⟨s, ys, eD, pr⟩ hy
    have hai : as[i]? = some as[i] := List.getElem?_eq_getElem hi
    refine turn i as[i] x H H' hai s hy _ _ (fun hp y H5 s5 r => ?_) (fun hp H5 s5 => ?_)
    · have e5 := s5 _ _ eD
      have hl : ys.length ≤ i := by
        rw [pr.length, List.length_map]
        have := List.length_filter_le p (as.take i)
        have := List.length_take_le i as
        omega
      refine ⟨ys, e5, sz_lt (by omega), same_mut (s.trans s5) hD, ys ++ [y], upd_same, ?_⟩
      rw [take_snoc hai, List.filter_append, List.map_append, List.filter_cons, if_pos hp]
      have t : TK H5 (upd H5 D (.lst (ys ++ [y]))) := tk_lst e5
      exact Pd.snoc (L2.Paired.mapP pr fun _ _ q => hR _ _ _ _ ((tk_of s5).trans t) q) (hR _ _ _ _ t r)
    · refine ⟨s.trans s5, ys, s5 _ _ eD, ?_⟩
      rw [take_snoc hai, List.filter_append, List.filter_cons, if_neg (by rw [hp]; decide)]
      show Paired (R H5) ys ((((as.take i).filter p) ++ []).map h)
      rw [List.append_nil]
      exact L2.Paired.mapP pr fun _ _ q => hR _ _ _ _ (tk_of s5) q
  · rintro H ⟨s, ys, eD, pr⟩
    rw [List.take_length] at pr
    exact done H ys s eD pr
/-- {k: v ..} with int keys -/
theorem dc_gen (as : List α) (p : α → Bool) (kf : α → Int) (vf : α → V) (w : Walk J as.length G Y) (hz : as.length ≤ 16777216) (hD : H1 D = none) (hG : ∀ H', Same H1 H' → G H')
    (turn : ∀ (i : Nat) (a : α) (x : V) (H H' : Hp), as[i]? = some a → Same H1 H → Y i H x H' → ∀ (K : V → V → Hp → Prop) (Kn : Hp → Prop), (p a = true → ∀ H5, Same H H5 → K (.int (kf a)) (vf a) H5) → (p a = false → ∀ H5, Same H H5 → Kn H5) →
      g x (wipe σ vs) H' fun σ2 H2 => wipe σ2 vs = wipe σ vs ∧ tt σ2 H2 fun b H3 => if b = true then tk σ2 H3 fun y H4 => tv σ2 H4 fun z H5 => K y z H5 else Kn H3)
    (done : ∀ H', Same H1 H' → H' D = some (.dK ((as.filter p).foldl (fun acc a => putK acc (Sum.inl (kf a)) (vf a)) [])) → Qd H') :
    ∃ W : Nat → Nat → Hp → Prop, (∃ m, W 0 m (upd H1 D (.dK []))) ∧ ∀ i m H, W i m H →
      (J.stop i H ∧ Qd H) ∨ (J.go i H ∧ ∃ Nx : Hp → Prop, (∀ H', Nx H' → ∃ m', m' < m ∧ W (i + 1) m' H') ∧ ∀ x H', J.yld i H x H' → g x (wipe σ vs) H' fun σ2 H2 => wipe σ2 vs = wipe σ vs ∧ tt σ2 H2 fun b H3 =>
        if b = true then tk σ2 H3 fun y H4 => tv σ2 H4 fun z H5 => ∃ kvs k, y = kV k ∧ H5 D = some (.dK kvs) ∧ kvs.length < sizeLine ∧ Nx (upd H5 D (.dK (putK kvs k z))) else Nx H3) := by
  have hlen : ∀ (l : List α) (acc : List (Key × V)), (l.foldl (fun acc a => putK acc (Sum.inl (kf a)) (vf a)) acc).length ≤ acc.length + l.length := by
    intro l
    induction l with
    | nil => intro acc; simp
    | cons a r ih =>
      intro acc
      have h1 := ih (putK acc (Sum.inl (kf a)) (vf a))
      have h2 := length_putK acc (Sum.inl (kf a) : Key) (vf a)
      rw [List.foldl_cons, List.length_cons]
      omega
  refine ⟨fun i m H => m = as.length - i ∧ i ≤ as.length ∧ Same H1 H ∧ H D = some (.dK (((as.take i).filter p).foldl (fun acc a => putK acc (Sum.inl (kf a)) (vf a)) [])), ⟨as.length, by simp, Nat.zero_le _, same_new hD, upd_same⟩, ?_⟩
  rintro i m H ⟨rfl, hi, s, eD⟩
  have q := hG H s
  by_cases hlt : i < as.length
  · have hai : as[i]? = some as[i] := List.getElem?_eq_getElem hlt
    refine .inr ⟨w.goes i H hlt q, fun H' => Same H1 H' ∧ H' D = some (.dK (((as.take (i + 1)).filter p).foldl (fun acc a => putK acc (Sum.inl (kf a)) (vf a)) [])), fun H' p' => ⟨as.length - (i + 1), by omega, rfl, hlt, p'⟩, fun x H' y => ?_⟩
    refine turn i as[i] x H H' hai s (w.yields i H x H' hlt q y) _ _ (fun hp H5 s5 => ?_) (fun hp H5 s5 => ?_)
    · have e5 := s5 _ _ eD
      have hl := hlen ((as.take i).filter p) []
      have h2 := List.length_filter_le p (as.take i)
      have h3 := List.length_take_le i as
      rw [List.length_nil] at hl
      refine ⟨_, Sum.inl (kf as[i]), rfl, e5, sz_lt (Nat.lt_of_le_of_lt hl (by omega)), same_mut (s.trans s5) hD, ?_⟩
      rw [upd_same, take_snoc hai, List.filter_append, List.filter_cons, if_pos hp, List.foldl_append]
      rfl
    · refine ⟨s.trans s5, ?_⟩
      rw [take_snoc hai, List.filter_append, List.filter_cons, if_neg (by rw [hp]; decide)]
      show H5 D = some (.dK ((((as.take i).filter p) ++ []).foldl (fun acc a => putK acc (Sum.inl (kf a)) (vf a)) []))
      rw [List.append_nil]
      exact s5 _ _ eD
  · have e : i = as.length := by omega
    subst e
    rw [List.take_length] at eD
    exact .inl ⟨w.stops H q, done H s eD⟩
end
end Ev

set_option maxRecDepth 100000
set_option maxHeartbeats 4000000
namespace Ev
open PySem PySem.Spec PyProof.Rows L2
/-! ### things by their built-in class -/
inductive Bt | int | bool | none | str | list | tuple | dict
  deriving DecidableEq
def Bt.nm : Bt → String | .int => "int" | .bool => "bool" | .none => "NoneType" | .str => "str" | .list => "list" | .tuple => "tuple" | .dict => "dict"
def Bt.is : Bt → Bt → Bool
  | .int, .int => true
  | .bool, .int => true
  | .bool, .bool => true
  | .none, .none => true
  | .str, .str => true
  | .list, .list => true
  | .tuple, .tuple => true
  | .dict, .dict => true
  | _, _ => false
theorem bt_kit {K : PySem.W.Frag} : ∀ t u : Bt, PySem.W.kitOne K (.type t.nm) (.type u.nm) = some (t.is u)
  | .int, u => by cases u <;> exact kit_ty (by decide +kernel)
  | .bool, u => by cases u <;> exact kit_ty (by decide +kernel)
  | .none, u => by cases u <;> exact kit_ty (by decide +kernel)
  | .str, u => by cases u <;> exact kit_ty (by decide +kernel)
  | .list, u => by cases u <;> exact kit_ty (by decide +kernel)
  | .tuple, u => by cases u <;> exact kit_ty (by decide +kernel)
  | .dict, u => by cases u <;> exact kit_ty (by decide +kernel)
theorem bt_any {K : PySem.W.Frag} (t : Bt) : PySem.W.kitAny K (.type t.nm) [.type "list", .type "tuple"] = some (t.is .list || t.is .tuple) := by
  have h1 := bt_kit (K := K) t .list
  have h2 := bt_kit (K := K) t .tuple
  have e1 : Bt.nm .list = "list" := rfl
  have e2 : Bt.nm .tuple = "tuple" := rfl
  rw [e1] at h1
  rw [e2] at h2
  unfold PySem.W.kitAny
  rw [h1]
  cases t.is .list with
  | true => rfl
  | false =>
    show PySem.W.kitAny K (.type t.nm) [.type "tuple"] = _
    unfold PySem.W.kitAny
    rw [h2]
    cases t.is .tuple with
    | true => rfl
    | false => rfl
def IsB (K : PySem.W.Frag) (H : Hp) (v : V) (t : Bt) : Prop := TyX K H v (.type t.nm)
section
variable {K : PySem.W.Frag} {H : Hp}
theorem tyx_same {H' : Hp} {v : V} {u : Value} (h : TyX K H v u) (s : Same H H') : TyX K H' v u := by
  cases h with
  | base b => cases b with
    | non => exact .base .non
    | bl x => exact .base (.bl x)
    | int x => exact .base (.int x)
    | str x => exact .base (.str x)
    | flt x => exact .base (.flt x)
    | lst q => exact .base (.lst (s _ _ q))
    | frz q => exact .base (.frz (s _ _ q))
    | tup q => exact .base (.tup (s _ _ q))
    | dK q => exact .base (.dK (s _ _ q))
    | dT q => exact .base (.dT (s _ _ q))
    | ins q a b c d f => exact .base (.ins (s _ _ q) a b c d f)
  | byt b => exact .byt b
  | set q => exact .set (s _ _ q)
  | kList q c => exact .kList q c
  | kTuple q c => exact .kTuple q c
  | kDict q c => exact .kDict q c
  | fTuple q => exact .fTuple (s _ _ q)
  | fDict q => exact .fDict (s _ _ q)
theorem isb_same {H' : Hp} {v : V} {t : Bt} (h : IsB K H v t) (s : Same H H') : IsB K H' v t := tyx_same h s
theorem isb_int (i : Int) : IsB K H (.int i) .int := .base (.int i)
theorem isb_tup {a : Addr} {xs : List V} (h : H a = some (.tup xs)) : IsB K H (.ref a) .tuple := .base (.tup h)
theorem isb_lst {a : Addr} {xs : List V} (h : H a = some (.lst xs)) : IsB K H (.ref a) .list := .base (.lst h)
end
/-- an int, or a thing that is none (a bool, say) -/
def Lf (K : PySem.W.Frag) (H : Hp) (v : V) : Option Int → Prop
  | some i => v = .int i
  | none => ∃ t, t ≠ Bt.int ∧ IsB K H v t
def inside (lo hi : Int) : Option Int → Bool
  | some i => decide (lo ≤ i) && decide (i ≤ hi)
  | none => false
section
variable {P : Program} {w : World} {K : PySem.W.Frag} {mg : Str → Option Value} {base : Heap}
def spInteger (K : PySem.W.Frag) : Sp := fun vs H Q _ => ∃ v t, vs = [v] ∧ IsB K H v t ∧ Q (.bl (t.is .int && !t.is .bool)) H
theorem ok_is_integer (T : Txt K mg) : Cal P w K mg base CX0 1 "is_integer" (spInteger K) := by
  refine T.d_is_integer.ok sc_is_integer (fun vs H Q E h => ?_) (fun f cdv A outer s H vs Q E hr h => ?_)
  · obtain ⟨v, t, rfl, _⟩ := h
    rfl
  obtain ⟨v, t, rfl, ht, q⟩ := h
  refine ⟨_, (pss_one (ps_ret (pe_and (pe_callB call_isi (by rfl) T.n_isinstance (by decide +kernel) (pa_cons (pv 0) (pa_cons (pe_ty "int" (by rfl) T.n_int (by decide +kernel)) pa_nil))) (pe_one (pe_not (pe_callB call_isi (by rfl) T.n_isinstance (by decide +kernel) (pa_cons (pv 0) (pa_cons (pe_ty "bool" (by rfl) T.n_bool (by decide +kernel)) pa_nil)))))))), ?_⟩
  refine ⟨_, rfl, v, _, _, _, _, rfl, .ty _, ht, bt_kit t .int, _, rfl, ite2 (fun c => ?_) (fun c => ?_)⟩
  · rw [c, Bool.true_and] at q
    exact ⟨_, rfl, v, _, _, _, _, rfl, .ty _, ht, bt_kit t .bool, _, rfl, q⟩
  · rw [Bool.eq_false_iff.mpr c, Bool.false_and] at q
    exact q
def spWithin (K : PySem.W.Frag) : Sp := fun vs H Q _ => ∃ v lo hi o, vs = [v, .int lo, .int hi] ∧ Lf K H v o ∧ Q (.bl (inside lo hi o)) H
theorem ok_is_within (T : Txt K mg) : Cal P w K mg base CX0 2 "is_within" (spWithin K) := by
  refine T.d_is_within.ok sc_is_within (fun vs H Q E h => ?_) (fun f cdv A outer s H vs Q E hr h => ?_)
  · obtain ⟨v, lo, hi, o, rfl, _⟩ := h
    rfl
  obtain ⟨v, lo, hi, o, rfl, ho, q⟩ := h
  refine ⟨_, (pss_one (ps_ret (pe_and (pe_fn (ok_is_integer T) hr (by decide) rfl (pa_cons (pv 0) pa_nil)) (pe_one (pe_chain op_le op_le (pv 1) (pv 0) (pv 2)))))), ?_⟩
  cases o with
  | none =>
    obtain ⟨t, hn, ht⟩ := ho
    refine ⟨_, rfl, v, t, rfl, ht, _, rfl, ?_⟩
    have e : (t.is .int && !t.is .bool) = false := by cases t <;> first | rfl | exact absurd rfl hn
    rw [e]
    exact iteF q
  | some i =>
    have hv : v = .int i := ho
    subst hv
    refine ⟨_, rfl, _, .int, rfl, isb_int i, _, rfl, iteT ?_⟩
    refine ⟨_, rfl, _, rfl, lo, i, rfl, rfl, _, rfl, ite2 (fun c => ?_) (fun c => ?_)⟩
    · refine ⟨_, rfl, i, hi, rfl, rfl, ?_⟩
      have q' : Q (.bl (decide (lo ≤ i) && decide (i ≤ hi))) H := q
      rw [c, Bool.true_and] at q'
      exact q'
    · have q' : Q (.bl (decide (lo ≤ i) && decide (i ≤ hi))) H := q
      rw [Bool.eq_false_iff.mpr c, Bool.false_and] at q'
      exact q'
def spPair : Sp := fun vs H Q _ => ∃ v r, vs = [v] ∧ Tn H v r ∧ Q (.bl (decide (r.length = 2))) H
theorem ok_is_pair (T : Txt K mg) : Cal P w K mg base CX0 1 "is_pair" spPair := by
  refine T.d_is_pair.ok sc_is_pair (fun vs H Q E h => ?_) (fun f cdv A outer s H vs Q E hr h => ?_)
  · obtain ⟨v, r, rfl, _⟩ := h
    rfl
  obtain ⟨v, r, rfl, ⟨a, rfl, ha⟩, q⟩ := h
  refine ⟨_, (pss_one (ps_ret (pe_and (pe_callB call_isi (by rfl) T.n_isinstance (by decide +kernel) (pa_cons (pv 0) (pa_cons (pe_ty "tuple" (by rfl) T.n_tuple (by decide +kernel)) pa_nil))) (pe_one (pe_cmpR op_eq (pe_callB call_len_seq (by rfl) T.n_len (by decide +kernel) (pa_cons (pv 0) pa_nil)) pe_int (nomark _)))))), ?_⟩
  refine ⟨_, rfl, _, _, _, _, _, rfl, .ty _, isb_tup ha, bt_kit .tuple .tuple, _, rfl, iteT ?_⟩
  refine ⟨_, rfl, a, _, rfl, .inr (.inl (.inl ha)), rfl, ?_⟩
  have e : decide (V.int ((r.map nm).length : Nat) = V.int 2) = decide (r.length = 2) := by
    rw [List.length_map]
    by_cases c : r.length = 2
    · rw [c]; rfl
    · have : ¬ V.int ((r.length : Nat) : Int) = V.int 2 := fun z => by injection z with z; exact c (by omega)
      simp [this, c]
  rw [e]
  exact q
def spListed (K : PySem.W.Frag) : Sp := fun vs H Q _ => ∃ v t, vs = [v] ∧ IsB K H v t ∧ ∀ H', Same H H' → Q (.bl (t.is .list || t.is .tuple)) H'
theorem ok_is_listed (T : Txt K mg) : Cal P w K mg base CX0 1 "is_listed" (spListed K) := by
  refine T.d_is_listed.ok sc_is_listed (fun vs H Q E h => ?_) (fun f cdv A outer s H vs Q E hr h => ?_)
  · obtain ⟨v, t, rfl, _⟩ := h
    rfl
  obtain ⟨v, t, rfl, ht, q⟩ := h
  refine ⟨_, (pss_one (ps_ret (pe_callB call_isiT (by rfl) T.n_isinstance (by decide +kernel) (pa_cons (pv 0) (pa_cons (pe_tup (pa_cons (pe_ty "list" (by rfl) T.n_list (by decide +kernel)) (pa_cons (pe_ty "tuple" (by rfl) T.n_tuple (by decide +kernel)) pa_nil))) pa_nil))))), ?_⟩
  refine ⟨_, rfl, (by show 2 ≤ sizeLine; decide), fun p hp => ?_⟩
  have sm : Same H (upd H p (.tup [.ty "list", .ty "tuple"])) := same_new hp
  refine ⟨v, p, _, .type t.nm, [.type "list", .type "tuple"], _, rfl, upd_same, .cons (.ty _) (.cons (.ty _) .nil), ?_, ?_, q _ sm⟩
  · exact isb_same ht sm
  · exact bt_any t
end
end Ev

set_option maxRecDepth 100000
set_option maxHeartbeats 4000000
namespace PySem
open Sem (wp)
open AutoSeq1 (wpAny_loadPart')
/-- enumerate(v) of one argument: the iterator, then the counter -/
theorem ev_enum_new {v : Value} {o : Obj} {H : Heap → Prop} (B : Begins v o H) :
    Meets (Builtin.«enumerate.__new__» ⟨[.type "enumerate", v], []⟩) (fun _ R s => H s.heap ∧
      R (.ok (.ret (.ref (s.heap.push o).objs.size))) { s with heap := (s.heap.push o).push { cls := .type "enumerate", data := .fields #[.none, .bool false, .ref s.heap.objs.size, rawInt 0, .none, .none] } }) :=
  .of_wp fun prog w A R s h => by
    obtain ⟨hp, g, d, tk, os⟩ := s
    obtain ⟨h1, h⟩ := h
    have sub := sub_enumerate
    have it : ∀ {A' : Around} {E Q : Value → Shared → Prop}, Q (.ref hp.objs.size) ⟨hp.push o, g, d, tk, os⟩ → wpAny (model prog w) A' (pyIter v) Q E ⟨hp, g, d, tk, os⟩ := fun q => B.iter prog w _ _ ⟨hp, g, d, tk, os⟩ _ h1 q
    wp_walk using it
    refine wpAny_stack_any fun st => wpAny_pure ?_
    split
    · rename_i c _ _ _ _ _
      cases (c == Value.type "enumerate") <;> (wp_walk using it; exact ⟨_, rfl, h⟩)
    · wp_walk using it
      exact ⟨_, rfl, h⟩
theorem ev_enum_call {prog : Program} {w : World} {A : Around} {E : Value → Shared → Prop} {s : Shared} {v : Value} {o : Obj} {H : Heap → Prop} {Q : Value → Shared → Prop} (B : Begins v o H) (h1 : H s.heap)
    (h : ∀ h', IsEnum h' (s.heap.objs.size + 1) s.heap.objs.size 0 .none → h'.get? s.heap.objs.size = some o → (∀ b u, s.heap.get? b = some u → h'.get? b = some u) → Q (.ref (s.heap.objs.size + 1)) { s with heap := h' }) :
    wpAny (model prog w) A (call (.type "enumerate") [v]) Q E s := by
  refine callType_new F.called_enumerate (by decide) (F.typeCall_enumerate_1 _) (F.newCall_enumerate_1 _) (fun obj => F.args_object_init_2 obj _) F.entry_enumerate_new (ev_enum_new B) ⟨h1, ?_⟩
  have hz : (s.heap.push o).objs.size = s.heap.objs.size + 1 := Heap.size_push ..
  have hg := Heap.get?_push_size (s.heap.push o) (o := { cls := .type "enumerate", data := .fields #[.none, .bool false, .ref s.heap.objs.size, rawInt 0, .none, .none] }) rfl
  show _ ∧ _
  rw [hz] at hg ⊢
  exact ⟨⟨_, hg, rfl⟩, h _ hg (Heap.get?_push_of_some _ (Heap.get?_push_size _ B.free)) fun b u q => Heap.get?_push_of_some _ (Heap.get?_push_of_some _ q)⟩
end PySem
namespace Ev
open PySem PySem.Spec PyProof.Rows L2
/-! ### enumerate(tuple) -/
def Iet (K : PySem.W.Frag) (a : Addr) : It where
  go := fun i H => ∃ (xs : List V) (x : V), SqT K H a xs ∧ xs[i]? = some x
  yld := fun i H v H' => ∃ T x, v = .ref T ∧ H T = none ∧ H' = upd H T (.tup [.int (i : Nat), x]) ∧ ∀ xs, SqT K H a xs → xs[i]? = some x
  stop := fun i H => ∃ xs : List V, SqT K H a xs ∧ xs.length = i
theorem walk_enumT {K : PySem.W.Frag} {a : Addr} {xs : List V} : Walk (Iet K a) xs.length (fun H => SqT K H a xs) (YPair (fun i => some (.int (i : Nat))) (fun i => xs[i]?)) := by
  refine ⟨fun i _ hi q => ⟨xs, xs[i], q, by simp [hi]⟩, fun _ q => ⟨xs, q, rfl⟩, fun i H v H' _ q y => ?_⟩
  obtain ⟨T, x, h1, h2, h3, h4⟩ := y
  exact ⟨T, .int (i : Nat), x, h1, h2, h3, rfl, h4 xs q⟩
theorem turn_enumT {P : Program} {w : World} {K : PySem.W.Frag} {elts : List Expr} {kk : Nat} {tpos : Pos} (a e it : Addr) :
    Turn P w K (.Tuple elts kk tpos) (Iet K a) [e, it] e (fun i h => (∃ old, IsEnum h e it ((i : Nat) : Int) old) ∧ h.IsTupleIter it a i ∧ e ≠ it) where
  mem := by simp
  obj := fun i h st b hb => by
    obtain ⟨⟨old, he⟩, ⟨o, ho, _, hd⟩, _⟩ := st
    rcases (by simpa using hb : b = e ∨ b = it) with rfl | rfl
    · exact ⟨_, he, fun v q => nomatch q⟩
    · exact ⟨o, ho, fun v q => by rw [hd] at q; cases q⟩
  keep := fun i h h' st k => by
    obtain ⟨⟨old, he⟩, hi, hne⟩ := st
    exact ⟨⟨old, k e (by simp) _ he⟩, hi.at fun o q => k it (by simp) o q, hne⟩
  item := by
    intro X hP hw hK hc i pins s σ H E I hf st hg
    subst hP hw hK
    obtain ⟨⟨old, he⟩, hit, hne⟩ := st
    obtain ⟨xs, x, hq, hx⟩ := hg
    obtain ⟨its, rv, p, _⟩ := I.tuple hq
    obtain ⟨u, hu, ru⟩ := rv.get hx
    have hnit : a ≠ it := by
      rintro rfl
      obtain ⟨o, ho, hc1, _⟩ := p
      obtain ⟨o', ho', hc2, _⟩ := hit
      rw [ho] at ho'; cases ho'
      rw [hc1] at hc2
      exact absurd hc2 (by decide)
    have hea : e ≠ a := by
      rintro rfl
      obtain ⟨o, ho, hc1, _⟩ := p
      have he' : s.heap.get? e = some _ := he
      rw [ho] at he'; cases he'
      exact absurd (show Value.type "enumerate" = Value.type "tuple" from hc1) (by decide)
    have hlt : i < its.toArray.size := by
      have := (List.getElem?_eq_some_iff.mp hu).1
      simpa using this
    refine wpAny_pyNext_enum_itemC (Draws.tuple (A := X.A.in1) (I.ok.hd hc) it a hnit its.toArray) he ⟨hit, p⟩ hlt hne (by simp [hne, hea]) fun y h' tk hy ho hst hT hsz hk => ?_
    have hyu : y = u := by
      have e1 : its.toArray[i]? = some y := hy
      rw [List.getElem?_toArray, hu] at e1
      exact (Option.some.inj e1).symm
    subst hyu
    refine ⟨_, rfl, wpAny_letOwnedTupleGo_enum (s := { s with heap := h', toks := tk + 1 }) ho fun h2 he2 sb => ?_⟩
    have hel : e < s.heap.objs.size := Heap.lt_size he
    have hil : it < s.heap.objs.size := by obtain ⟨_, q, _⟩ := hit; exact Heap.lt_size q
    have hT2 := (sb.2 _ (Nat.ne_of_gt hel)).trans hT
    have new : ObjOk X.prog X.w (upd H s.heap.objs.size (.tup [.int (i : Nat), x])) h2 s.heap.objs.size (.tup [.int (i : Nat), x]) :=
      ⟨by show 2 ≤ sizeLine; decide, [.int i tk, y], .cons ⟨_, rfl⟩ (.cons ru .nil), ⟨_, hT2, rfl, _, rfl⟩⟩
    have I1 : Inv X pins σ (upd H s.heap.objs.size (.tup [.int (i : Nat), x])) { s with heap := h2, toks := tk + 1 } :=
      I.turnedNew (ch := [e, it]) (fun b ob hb q => (sb.2 b (fun z => hb (by simp [z]))).trans (hk b ob (fun z => hb (by simp [z])) (fun z => hb (by simp [z])) q)) hf (Nat.le_refl _) new
    refine ⟨.ref s.heap.objs.size, _, I1, rfl, ⟨_, x, rfl, I.hok.fresh (Nat.le_refl _), rfl, fun ys hy => by rw [I.tuple_inj hy hq]; exact hx⟩, ⟨⟨y, ?_⟩, hst.1.at fun o q => (sb.2 it (Ne.symm hne)).trans q, hne⟩, fun b hb => ?_⟩
    · rw [show ((i + 1 : Nat) : Int) = (i : Int) + 1 by omega]
      exact he2
    · have hb' : b < s.heap.objs.size := by
        rcases (by simpa using hb : b = e ∨ b = it) with rfl | rfl
        · exact hel
        · exact hil
      rw [upd_ne (Nat.ne_of_lt hb')]
      exact (hf b hb).1
  done := by
    intro X hP hw hK hc i pins s σ H E I hf st hg
    subst hP hw hK
    obtain ⟨⟨old, he⟩, hit, hne⟩ := st
    obtain ⟨xs, hq, hx⟩ := hg
    obtain ⟨its, rv, p, _⟩ := I.tuple hq
    obtain ⟨f0, f1, f2, f3, f4, f5⟩ := hf it (by simp)
    have hl := rv.length
    have hnit : a ≠ it := by
      rintro rfl
      obtain ⟨o, ho, hc1, _⟩ := p
      obtain ⟨o', ho', hc2, _⟩ := hit
      rw [ho] at ho'; cases ho'
      rw [hc1] at hc2
      exact absurd hc2 (by decide)
    have hea : e ≠ a := by
      rintro rfl
      obtain ⟨o, ho, hc1, _⟩ := p
      have he' : s.heap.get? e = some _ := he
      rw [ho] at he'; cases he'
      exact absurd (show Value.type "enumerate" = Value.type "tuple" from hc1) (by decide)
    have hn : its.toArray.size = i := by rw [List.size_toArray, ← hl]; exact hx
    subst hn
    exact wpAny_pyNext_enum_endD (Draws.tuple (A := X.A.in1) (I.ok.hd hc) it a hnit its.toArray) he ⟨hit, p⟩ fun h' eb => ⟨rfl, I.turned (t' := s.toks) (fun b o hb q => eb b o hb q) f0 f1 f3 f4 f5⟩
  self := fun A i s Q E st h => let ⟨⟨_, he⟩, _⟩ := st; wpAny_pyIter_enum he h
def iEnumT (K : PySem.W.Frag) (ta : TA) : TI := fun σ H R => ta σ H fun vs H1 => ∃ a xs, vs = [.ref a] ∧ SqT K H1 a xs ∧ R (Iet K a) H1
theorem pi_enumT {X : Cx} {e : Expr} {ta : TA} {p pos tpos : Pos} {elts : List Expr} {kk : Nat} (hg : Gl X "enumerate") (hm : X.mg "enumerate" = none) (ha : PA X [e] ta) (hs : starEach [e] X.env = [(false, eval e X.env)] := by rfl) :
    PI X (.Tuple elts kk tpos) (.Call (.Name "enumerate" p) [e] [] pos) (iEnumT X.K ta) := by
  refine ⟨fun pins s σ H R I h => ?_⟩
  refine Call_ (ld_blt I hg hm boot_enumerate (PyProof.Rows.callWith_type1 (thn (ha.run pos pins s σ H _ I h) fun us s1 hh => ?_) hs rfl))
  obtain ⟨vs, H1, I1, r1, a, xs, ex, hq, q⟩ := hh
  subst ex
  obtain ⟨u, rfl, ru⟩ := r1.one
  cases (show u = Value.ref a from ru)
  obtain ⟨its, rv, p', hz⟩ := I1.tuple hq
  refine ev_enum_call (begins_tuple a its.toArray) p' fun h' he hit hk => wpAny_pyIter_enum he ?_
  have I2 : Inv X pins σ H1 { s1 with heap := h' } := I1.kept (t' := s1.toks) hk
  refine ⟨s1.heap.objs.size + 1, [s1.heap.objs.size + 1, s1.heap.objs.size], _, _, H1, rfl, I2, turn_enumT a (s1.heap.objs.size + 1) s1.heap.objs.size, ⟨⟨.none, he⟩, ⟨_, hit, rfl, rfl⟩, Nat.succ_ne_self _⟩, fun b hb => ?_, q⟩
  have hle : s1.heap.objs.size ≤ b := by
    rcases (by simpa using hb : b = s1.heap.objs.size + 1 ∨ b = s1.heap.objs.size) with rfl | rfl
    · exact Nat.le_add_right _ _
    · exact Nat.le_refl _
  exact I1.fpOk hle (I1.hok.fresh hle)
end Ev

set_option maxRecDepth 100000
set_option maxHeartbeats 4000000
namespace Ev
open PySem PySem.Spec PyProof.Rows L2
/-! ### dict comprehensions whose keys are tuples -/
theorem d_dictSetT {X : Cx} {pins : List (Addr × Obj)} {σ : L2.St} {H : Hp} {s : Shared} {E : Value → Shared → Prop} {D b : Addr} {kvs : List (List Key × V)} {k : List Key} {v : V} {u r : Value} {Q : Unit → Shared → Prop} (hu : X.A.units + 1 < cLine) (I : L2.Inv X pins σ H s) (hD : H D = some (.dT kvs))
    (hb : H b = some (.tup (k.map kV))) (hz : kvs.length < sizeLine) (ry : RelV (.ref b) u) (rv : RelV v r) (h : ∀ s', L2.Inv X pins σ (upd H D (.dT (putK kvs k v))) s' → Q () s') : wpAny (model X.prog X.w) X.A (dictSet D u r) Q E s := by
  cases (show u = Value.ref b from ry)
  obtain ⟨z, hd, xs, rel, dd⟩ := dt_of I.hok hD
  have hl : (putK kvs k v).length ≤ sizeLine := by
    have := length_putK kvs k v
    omega
  have hx : xs.length ≤ sizeLine := by
    rw [← Paired.length rel]
    exact z
  refine wpAny_dictSet_heap (hsz := hx) (show X.A.units < cLine from Nat.lt_of_le_of_lt (Nat.le_add_right _ _) hu) (key_of I.hok hb) dd fun h' dd' hs => h _ ?_
  obtain ⟨q, es, ep, hq, h2, h3, h4, _, h5⟩ := dd'
  refine d_write I (by rw [hD]; exact True.intro) hs ⟨q, hq⟩ ⟨hl, hd, _, (rel.put k hb rv).keeps fun c ys ec => ?_, q, es, ep, hq, h2, h3, h4, h5⟩
  rw [upd_ne (ne_of ec hD fun z => nomatch z)]
  exact ec
section
variable {X : Cx}
/-- {k: v for target in iter if ..}, keys tuples: D the new dict -/
def tDcT (wi : TI) (g : TG) (tt : TT) (tk tv : TE) (vs : List Nat) : TE := fun σ H Q => wi σ H fun J H1 => ∀ D, H1 D = none → ∃ W : Nat → Nat → Hp → Prop, (∃ m, W 0 m (upd H1 D (.dT []))) ∧ ∀ i m H, W i m H →
  (J.stop i H ∧ Q (.ref D) H) ∨ (J.go i H ∧ ∃ Nx : Hp → Prop, (∀ H', Nx H' → ∃ m', m' < m ∧ W (i + 1) m' H') ∧ ∀ x H', J.yld i H x H' → g x (wipe σ vs) H' fun σ2 H2 => wipe σ2 vs = wipe σ vs ∧ tt σ2 H2 fun b H3 =>
    if b = true then tk σ2 H3 fun y H4 => tv σ2 H4 fun z H5 => ∃ kvs k b, y = .ref b ∧ H5 D = some (.dT kvs) ∧ H5 b = some (.tup (k.map kV)) ∧ kvs.length < sizeLine ∧ Nx (upd H5 D (.dT (putK kvs k z))) else Nx H3)
theorem dcT_core {pins : List (Addr × Obj)} {s : Shared} {σ : L2.St} {H : Hp} {Q : VK} {kx vx tg iter : Expr} {ifs : List Expr} {scope : Scope} {own : List (Str × Nat)} {pos pos' : Pos} {wi : TI} {g : TG} {tt : TT} {tk tv : TE} {use : Option (Value → Sem Unit)} {Qf : Value → Shared → Prop}
    (hu : X.A.units + 1 < cLine) (hc : X.calm = true) (hN : X.N.Nodup) (I : L2.Inv X pins σ H s) (hi : PI X tg iter wi) (ok : BlkOk X.N X.env.scope scope own)
    (hg : ∀ (s : Shared) (H : Hp) (C : Addr) (cl : List (Str × Addr)) (fp : List Addr), PG (X.blk s H scope (compEnvC scope cl C X.env) fp) tg g) (ht : ∀ (s : Shared) (H : Hp) (C : Addr) (cl : List (Str × Addr)) (fp : List Addr), PTs (X.blk s H scope (compEnvC scope cl C X.env) fp) ifs tt)
    (hk : ∀ (s : Shared) (H : Hp) (C : Addr) (cl : List (Str × Addr)) (fp : List Addr), PE (X.blk s H scope (compEnvC scope cl C X.env) fp) kx tk)
    (he : ∀ (s : Shared) (H : Hp) (C : Addr) (cl : List (Str × Addr)) (fp : List Addr), PE (X.blk s H scope (compEnvC scope cl C X.env) fp) vx tv) (hs : ∀ x, foldedSetIterable iter X.env x = pure x)
    (h : tDcT wi g tt tk tv (own.map (·.2)) σ H Q)
    (hRR : ∀ D C s' m H', L2.Inv X pins σ H' s' → Q (.ref D) H' → s'.heap.Ns C m → FpOk X pins H' C → compPost (model X.prog X.w) X.A X.xe use Qf (.ref D) C (.ok .next) s') :
    wpAny (model X.prog X.w) X.A (comprehension (.DictComp kx vx [⟨tg, iter, ifs, 0⟩] scope pos) scope X.env pos' newDict false (eval iter X.env) use) Qf X.xe s := by
  have hfree : ∀ y ∈ scope.names, y.2 = .free → ∃ c, X.env.cells.lookup y.1 = some c := fun y hy e => by
    rcases ok.free y hy e with k | k
    · exact I.ok.has _ (.inl k)
    · exact I.ok.has _ (.inr k)
  refine wpAny_comprehension_free (use := use) rfl hs (closure_ok hfree) ok.kind (fun y hy e => by rw [ok.uniq y hy, e])
    (thn (hi.run pins s σ H _ I h) fun xv s1 hx => thn hx fun itv s2 h2 => ?_)
  obtain ⟨it, fp, tn, J, H2, e, I2, T, st2, f2, q⟩ := h2
  subst e
  refine wpAny_newObj_type (newEnv_comp ?_)
  generalize hD : s2.heap.objs.size = D
  have hDn : H2 D = none := I2.hok.fresh (Nat.le_of_eq hD)
  obtain ⟨W, ⟨m0, w0⟩, turn⟩ := q D hDn
  -- the new list
  generalize hs3 : ({ s2 with heap := s2.heap.push { cls := .type "dict", data := .dict #[] } } : Shared) = s3
  have I3 : L2.Inv X pins σ (upd H2 D (.dT [])) s3 := by
    rw [← hs3]
    refine I2.laid (t' := s2.toks) (fun b o e => Heap.get?_push_of_some _ e) (Nat.le_of_eq hD) ?_
    rw [← hD]
    exact dt_empty s2.heap I2.big
  have h3 : s3.heap = s2.heap.push { cls := .type "dict", data := .dict #[] } := by rw [← hs3]
  have sz : ∀ b ∈ fp, b < s2.heap.objs.size := fun b hb => by
    obtain ⟨o, e, _⟩ := T.obj _ _ st2 b hb
    exact Heap.lt_size e
  have f3 : ∀ b ∈ fp, FpOk X pins (upd H2 D (.dT [])) b ∧ b < s3.heap.objs.size := fun b hb => by
    have hlt := sz b hb
    refine ⟨⟨?_, (f2 b hb).2⟩, by rw [h3, Heap.size_push]; exact Nat.lt_succ_of_lt hlt⟩
    rw [upd_ne (by rw [← hD]; exact Nat.ne_of_lt hlt)]
    exact (f2 b hb).1
  have st3 : tn 0 s3.heap := T.keep _ _ _ st2 fun b _ o e => by rw [h3]; exact Heap.get?_push_of_some _ e
  have I4 := block_start I3 ok hN f3
  have pg := hg s3 (upd H2 D (.dT [])) s3.heap.objs.size (cellsFrom (s3.heap.objs.size + 1) scope.names (cloFrom X.env.cells scope.names [])) fp
  have pt := ht s3 (upd H2 D (.dT [])) s3.heap.objs.size (cellsFrom (s3.heap.objs.size + 1) scope.names (cloFrom X.env.cells scope.names [])) fp
  have pk := hk s3 (upd H2 D (.dT [])) s3.heap.objs.size (cellsFrom (s3.heap.objs.size + 1) scope.names (cloFrom X.env.cells scope.names [])) fp
  have pe := he s3 (upd H2 D (.dT [])) s3.heap.objs.size (cellsFrom (s3.heap.objs.size + 1) scope.names (cloFrom X.env.cells scope.names [])) fp
  show codeAny _ _ (.compStart (.DictComp kx vx [⟨tg, iter, ifs, 0⟩] scope pos) 0 (.ref it) (.ref D) (compEnvC scope (cellsFrom (s3.heap.objs.size + 1) scope.names (cloFrom X.env.cells scope.names [])) s3.heap.objs.size X.env)) (compPost (model X.prog X.w) X.A X.xe use Qf (.ref D) s3.heap.objs.size) { s3 with heap := pushCells (s3.heap.push { cls := .type "dict", data := .dict #[] }) scope.names }
  have nfp : ∀ b ∈ fp, (upd H2 D (.dT [])) b = none := fun b hb => (f3 b hb).1.1
  generalize hce : compEnvC scope (cellsFrom (s3.heap.objs.size + 1) scope.names (cloFrom X.env.cells scope.names [])) s3.heap.objs.size X.env = ce at I4 pg pt pk pe ⊢
  have cL : ce.locals = s3.heap.objs.size := by subst hce; rfl
  generalize hH3 : upd H2 D (.dT []) = H3 at I3 I4 pg pt pk pe w0 nfp f3
  generalize hs4 : ({ s3 with heap := pushCells (s3.heap.push { cls := .type "dict", data := .dict #[] }) scope.names } : Shared) = s4 at I4 ⊢
  have st4 : tn 0 s4.heap := T.keep _ _ _ st3 fun b _ o e => by rw [← hs4]; exact pushCells_keeps _ _ _ _ (Heap.get?_push_of_some _ e)
  have stat : ∀ {σ' : L2.St} {H' : Hp} {s' : Shared}, L2.Inv (X.blk s3 H3 scope ce fp) [] σ' H' s' → (∀ b ∈ fp, H' b = none) → ∀ b ∈ fp, FpOk (X.blk s3 H3 scope ce fp) [] H' b := fun {σ' H' s'} I' hn b hb =>
    ⟨hn b hb, (I'.ok.exf b hb).1, I'.ok.exfs b hb, .inl hb, fun x c e => (I'.ok.exf b hb).2 x c e, fun p hp => absurd (show p ∈ ([] : List (Addr × Obj)) ++ [] from hp) (by simp)⟩
  have loop : codeAny (model X.prog X.w) X.A (.compLoop (.DictComp kx vx [⟨tg, iter, ifs, 0⟩] scope pos) 0 (.ref it) (.ref D) ce) (compPost (model X.prog X.w) X.A X.xe use Qf (.ref D) s3.heap.objs.size) s4 := by
    refine compLoop_anyD (fun n s' => ∃ i H', L2.Inv (X.blk s3 H3 scope ce fp) [] (wipe σ (own.map (·.2))) H' s' ∧ tn i s'.heap ∧ (∀ b ∈ fp, H' b = none) ∧ W i n H') ?_ m0 ⟨0, H3, I4, st4, nfp, w0⟩
    rintro n s5 ⟨i, H5, I5, st5, n5, w5⟩
    rcases turn i n H5 w5 with ⟨stop, qq⟩ | ⟨go, Nx, hNx, step⟩
    · have td := T.done (X.blk s3 H3 scope ce fp) rfl rfl rfl hc i [] s5 _ H5 (fun _ _ => False) I5 (stat I5 n5) st5 stop
      refine thnF td fun r s6 ⟨hr, I6⟩ => ?_
      subst hr
      -- back in the def's context
      have I7 : L2.Inv X pins σ H5 s6 := I3.call' (ch := fp) I6.os I6.base I6.hok I6.bare fun b hb => ⟨(f3 b hb).1.2.2.2.1, (f3 b hb).1.2.1, (f3 b hb).1.2.2.2.2.1, (f3 b hb).1.2.2.2.2.2⟩
      have nC : H5 s3.heap.objs.size = none := by
        have z : H5 ce.locals = none := I6.free
        rw [cL] at z
        exact z
      obtain ⟨m, hn, _⟩ := I6.loc
      have hn : s6.heap.Ns ce.locals m := hn
      rw [cL] at hn
      exact hRR D s3.heap.objs.size s6 m H5 I7 qq hn (I3.fpOk (Nat.le_refl _) nC)
    · have ti := T.item (X.blk s3 H3 scope ce fp) rfl rfl rfl hc i [] s5 _ H5 (fun _ _ => False) I5 (stat I5 n5) st5 go
      refine thnF ti fun r s6 ⟨u, hr, h6⟩ => ?_
      subst hr
      refine thnF h6 fun _ s7 ⟨x, H7, I7, r7, y7, st7, n7⟩ => ?_
      have I7' := I7.pinned (stat I7 n7) (T.obj _ _ st7)
      refine thnF (pg.run _ s7 _ H7 x u _ I7' r7 (step x H7 y7)) fun _ s8 ⟨σ8, H8, I8, hw8, q8⟩ => ?_
      refine thnF (pt.run _ s8 σ8 H8 _ I8 q8) fun b s9 ⟨H9, I9, q9⟩ => ?_
      -- the turn's end
      have fin : ∀ {s' : Shared} {H' : Hp}, L2.Inv (X.blk s3 H3 scope ce fp) ([] ++ pinsAt fp s7.heap) σ8 H' s' → Nx H' → ∃ m, m < n ∧ ∃ i H', L2.Inv (X.blk s3 H3 scope ce fp) [] (wipe σ (own.map (·.2))) H' s' ∧ tn i s'.heap ∧ (∀ b ∈ fp, H' b = none) ∧ W i m H' := fun {s' H'} I' nx => by
        obtain ⟨m', hm, w'⟩ := hNx H' nx
        have pin' : ∀ b ∈ fp, ∀ o, s7.heap.get? b = some o → s'.heap.get? b = some o ∧ H' b = none := fun b hb o e =>
          let z := I'.pin (b, o) (List.mem_append_right _ (List.mem_append_right _ (mem_pinsAt hb e)))
          ⟨z.1, z.2.1⟩
        have hl : (wipe σ (own.map (·.2))).length = σ8.length := by rw [← hw8, wipe_length]
        refine ⟨m', hm, i + 1, H', (I'.unpinned (pins := [])).weak hl (fun j v e => ?_), T.keep _ _ _ st7 fun b hb o e => (pin' b hb o e).1, fun b hb => ?_, w'⟩
        · rw [← hw8] at e
          exact (wipe_some e).1
        · obtain ⟨o, e, _⟩ := T.obj _ _ st7 b hb
          exact (pin' b hb o e).2
      cases b with
      | false =>
        simp only [Bool.false_eq_true, if_false] at q9 ⊢
        exact fin I9 q9
      | true =>
        simp only [if_true] at q9 ⊢
        refine thnF (pk.run _ s9 σ8 H9 _ I9 q9) fun z s10 ⟨yk, H10, I10, r10, q10⟩ => ?_
        refine thnF (pe.run _ s10 σ8 H10 _ I10 q10) fun z2 s11 ⟨yv, H11, I11, r11, kvs, k, b, ek, hD11, hb11, hz11, nx⟩ => ?_
        subst ek
        exact d_dictSetT (X := X.blk s3 H3 scope ce fp) hu I11 hD11 hb11 hz11 r10 r11 fun s12 I12 => fin I12 nx
  exact codeAny_compStart_dict loop (T.self X.A 0 _ _ _ st4 loop)
theorem pe_dcT {kx vx tg iter : Expr} {ifs : List Expr} {scope : Scope} {own : List (Str × Nat)} {pos : Pos} {wi : TI} {g : TG} {tt : TT} {tk tv : TE} (hu : X.A.units + 1 < cLine) (hc : X.calm = true) (hN : X.N.Nodup) (hi : PI X tg iter wi) (ok : BlkOk X.N X.env.scope scope own)
    (hg : ∀ (s : Shared) (H : Hp) (C : Addr) (cl : List (Str × Addr)) (fp : List Addr), PG (X.blk s H scope (compEnvC scope cl C X.env) fp) tg g) (ht : ∀ (s : Shared) (H : Hp) (C : Addr) (cl : List (Str × Addr)) (fp : List Addr), PTs (X.blk s H scope (compEnvC scope cl C X.env) fp) ifs tt)
    (hk : ∀ (s : Shared) (H : Hp) (C : Addr) (cl : List (Str × Addr)) (fp : List Addr), PE (X.blk s H scope (compEnvC scope cl C X.env) fp) kx tk)
    (he : ∀ (s : Shared) (H : Hp) (C : Addr) (cl : List (Str × Addr)) (fp : List Addr), PE (X.blk s H scope (compEnvC scope cl C X.env) fp) vx tv) (hs : ∀ x, foldedSetIterable iter X.env x = pure x := by intro _; rfl) :
    PE X (.DictComp kx vx [⟨tg, iter, ifs, 0⟩] scope pos) (tDcT wi g tt tk tv (own.map (·.2))) := by
  refine ⟨fun pins s σ H Q I h => ?_⟩
  rw [arm_eval_DictComp]
  refine dcT_core hu hc hN I hi ok hg ht hk he hs h fun D C s' m H' I' q hn f => ⟨m, hn, fun h'' sb => ?_⟩
  obtain ⟨f0, f1, f2, f3, f4, f5⟩ := f
  exact ⟨.ref D, H', I'.turned (t' := s'.toks) (fun b o hb e => (sb.2 b hb).trans e) f0 f1 f3 f4 f5, rfl, q⟩
end

/-! ### dicts whose keys are tuples of names -/
def ky (r : List Nat) : List Key := r.map fun (n : Nat) => (Sum.inl (n : Int) : Key)
theorem ky_map (r : List Nat) : (ky r).map kV = r.map nm := by
  unfold ky
  rw [List.map_map]
  rfl
theorem ky_inj {r q : List Nat} (h : ky r = ky q) : r = q := by
  have h2 : (ky r).map kV = (ky q).map kV := by rw [h]
  rw [ky_map, ky_map] at h2
  exact List.map_inj_right (fun _ _ e => nm_inj e) |>.mp h2
def dE (d : List (List Nat × V)) : List (List Key × V) := d.map fun p => (ky p.1, p.2)
theorem dE_any (d : List (List Nat × V)) (r : List Nat) : ((dE d).any fun kv => decide (kv.1 = ky r)) = d.any fun kv => decide (kv.1 = r) := by
  unfold dE
  rw [List.any_map]
  congr 1
  funext p
  show decide (ky p.1 = ky r) = decide (p.1 = r)
  by_cases c : p.1 = r
  · simp [c]
  · have : ¬ ky p.1 = ky r := fun z => c (ky_inj z)
    simp [c, this]
theorem dE_put (d : List (List Nat × V)) (r : List Nat) (v : V) : putK (dE d) (ky r) v = dE (putK d r v) := by
  have h := dE_any d r
  unfold putK
  by_cases c : (d.any fun kv => decide (kv.1 = r)) = true
  · rw [if_pos c, if_pos (h.trans c)]
    unfold dE
    rw [List.map_map, List.map_map]
    apply List.map_congr_left
    intro p hp
    show (if ky p.1 = ky r then (ky p.1, v) else (ky p.1, p.2)) = (ky (if p.1 = r then (p.1, v) else p).1, (if p.1 = r then (p.1, v) else p).2)
    by_cases e : p.1 = r
    · rw [if_pos e, if_pos (by rw [e])]
    · rw [if_neg e, if_neg (fun z => e (ky_inj z))]
  · rw [if_neg c, if_neg (by rw [h]; exact c)]
    unfold dE
    rw [List.map_append]
    rfl
theorem dE_val (d : List (List Nat × V)) (r : List Nat) : valV (dE d) (ky r) = valV d r := by
  induction d with
  | nil => rfl
  | cons p d ih =>
    show valV ((ky p.1, p.2) :: dE d) (ky r) = _
    by_cases e : p.1 = r
    · rw [valV_pos (p := p) e, valV_pos (show (ky p.1, p.2).1 = ky r by show ky p.1 = ky r; rw [e])]
    · rw [valV_neg e, valV_neg (show ¬ (ky p.1, p.2).1 = ky r from fun z => e (ky_inj z))]
      exact ih
/-- as a set: each key's value True -/
def onD (ks : List (List Nat)) : List (List Nat × V) := ks.map fun r => (r, V.bl true)
def addK (ks : List (List Nat)) (r : List Nat) : List (List Nat) := if r ∈ ks then ks else ks ++ [r]
theorem onD_any (ks : List (List Nat)) (r : List Nat) : ((onD ks).any fun kv => decide (kv.1 = r)) = decide (r ∈ ks) := by
  induction ks with
  | nil => simp [onD]
  | cons k ks ih =>
    show (decide (k = r) || (onD ks).any _) = _
    rw [ih]
    by_cases e : k = r
    · simp [e]
    · have : ¬ r = k := fun z => e z.symm
      simp [e, this]
theorem onD_put (ks : List (List Nat)) (r : List Nat) : putK (onD ks) r (V.bl true) = onD (addK ks r) := by
  unfold putK addK
  rw [onD_any]
  by_cases c : r ∈ ks
  · rw [if_pos (by simpa using c), if_pos c]
    unfold onD
    rw [List.map_map]
    apply List.map_congr_left
    intro p hp
    show (if p = r then (p, V.bl true) else (p, V.bl true)) = _
    split <;> rfl
  · rw [if_neg (by simpa using c), if_neg c]
    unfold onD
    rw [List.map_append]
    rfl
theorem onD_val (ks : List (List Nat)) (r : List Nat) : valV (onD ks) r = if r ∈ ks then some (V.bl true) else none := by
  induction ks with
  | nil => rfl
  | cons k ks ih =>
    show valV ((k, V.bl true) :: onD ks) r = _
    by_cases e : k = r
    · rw [valV_pos (p := (k, V.bl true)) e, if_pos (by simp [e])]
    · have e' : ¬ r = k := fun z => e z.symm
      rw [valV_neg (p := (k, V.bl true)) e, ih]
      simp [e']
theorem mem_addK {ks : List (List Nat)} {r q : List Nat} : q ∈ addK ks r ↔ q ∈ ks ∨ q = r := by
  unfold addK
  split
  · rename_i c
    exact ⟨fun h => .inl h, fun h => h.elim id fun z => by rw [z]; exact c⟩
  · simp
theorem addK_nodup {ks : List (List Nat)} {r : List Nat} (h : ks.Nodup) : (addK ks r).Nodup := by
  unfold addK
  split
  · exact h
  · rename_i c
    rw [List.nodup_append]
    refine ⟨h, by simp, fun a ha b hb => ?_⟩
    rw [List.mem_singleton] at hb
    subst hb
    exact fun z => c (z ▸ ha)
theorem addK_len (ks : List (List Nat)) (r : List Nat) : (addK ks r).length ≤ ks.length + 1 := by
  unfold addK
  split
  · exact Nat.le_succ _
  · simp
def ded (l : List (List Nat)) : List (List Nat) := l.foldl addK []
theorem foldl_addK {l ks : List (List Nat)} : (ks.Nodup → (l.foldl addK ks).Nodup) ∧ (∀ q, q ∈ l.foldl addK ks ↔ q ∈ ks ∨ q ∈ l) ∧ (l.foldl addK ks).length ≤ ks.length + l.length := by
  induction l generalizing ks with
  | nil => exact ⟨id, fun q => by simp, by simp⟩
  | cons a l ih =>
    obtain ⟨h1, h2, h3⟩ := ih (ks := addK ks a)
    refine ⟨fun h => h1 (addK_nodup h), fun q => ?_, ?_⟩
    · rw [List.foldl_cons, h2, mem_addK, List.mem_cons]
      exact or_assoc
    · have := addK_len ks a
      rw [List.foldl_cons, List.length_cons]
      omega
theorem ded_nodup (l : List (List Nat)) : (ded l).Nodup := foldl_addK.1 List.nodup_nil
theorem mem_ded {l : List (List Nat)} {q : List Nat} : q ∈ ded l ↔ q ∈ l := by
  have := foldl_addK (l := l) (ks := []) |>.2.1 q
  simpa [ded] using this
theorem ded_len (l : List (List Nat)) : (ded l).length ≤ l.length := by
  have := foldl_addK (l := l) (ks := []) |>.2.2
  simpa [ded] using this
theorem foldl_addK_nodup {l ks : List (List Nat)} (h : (ks ++ l).Nodup) : l.foldl addK ks = ks ++ l := by
  induction l generalizing ks with
  | nil => simp
  | cons a l ih =>
    have c : ¬ a ∈ ks := fun z => by
      rw [List.nodup_append] at h
      exact h.2.2 a z a (by simp) rfl
    rw [List.foldl_cons]
    have e : addK ks a = ks ++ [a] := by
      unfold addK
      rw [if_neg c]
    rw [e, ih (by rw [List.append_assoc]; exact h), List.append_assoc]
    rfl
theorem ded_self {l : List (List Nat)} (h : l.Nodup) : ded l = l := by
  have := foldl_addK_nodup (l := l) (ks := []) (by simpa using h)
  simpa [ded] using this
/-- the dict at D holds these keys, each True -/
def Dk (H : Hp) (D : Addr) (ks : List (List Nat)) : Prop := H D = some (.dT (dE (onD ks)))
theorem Dk.get {H : Hp} {D : Addr} {ks : List (List Nat)} (h : Dk H D ks) {y : V} {r : List Nat} (t : Tn H y r) : DGet H D y (if r ∈ ks then some (V.bl true) else none) := by
  obtain ⟨b, rfl, hb⟩ := t
  rw [← onD_val, ← dE_val]
  exact .t h (by rw [ky_map]; exact hb)
theorem Dk.put {H : Hp} {D : Addr} {ks : List (List Nat)} (h : Dk H D ks) {y : V} {r : List Nat} (t : Tn H y r) (hz : ks.length < 16777216) : DPut H D y (V.bl true) (upd H D (.dT (dE (onD (addK ks r))))) := by
  obtain ⟨b, rfl, hb⟩ := t
  rw [← onD_put, ← dE_put]
  exact .t h (by rw [ky_map]; exact hb) (by unfold dE onD; rw [List.length_map, List.length_map]; exact sz_lt hz)
section
variable {α : Type} {J : It} {G : Hp → Prop} {Y : Nat → Hp → V → Hp → Prop} {g : TG} {tt : TT} {tk tv : TE} {vs : List Nat} {σ : L2.St} {H1 : Hp} {D : Addr} {Qd : Hp → Prop}
/-- {k: True ..}, keys tuples of names -/
theorem dcT_gen (as : List α) (p : α → Bool) (kf : α → List Nat) (w : Walk J as.length G Y) (hz : as.length ≤ 16777216) (hD : H1 D = none) (hG : ∀ H', Same H1 H' → G H')
    (turn : ∀ (i : Nat) (a : α) (x : V) (H H' : Hp), as[i]? = some a → Same H1 H → Y i H x H' → ∀ (K : V → V → Hp → Prop) (Kn : Hp → Prop), (p a = true → ∀ y H5, Same H H5 → Tn H5 y (kf a) → K y (.bl true) H5) → (p a = false → ∀ H5, Same H H5 → Kn H5) →
      g x (wipe σ vs) H' fun σ2 H2 => wipe σ2 vs = wipe σ vs ∧ tt σ2 H2 fun b H3 => if b = true then tk σ2 H3 fun y H4 => tv σ2 H4 fun z H5 => K y z H5 else Kn H3)
    (done : ∀ H', Same H1 H' → Dk H' D (ded ((as.filter p).map kf)) → Qd H') :
    ∃ W : Nat → Nat → Hp → Prop, (∃ m, W 0 m (upd H1 D (.dT []))) ∧ ∀ i m H, W i m H →
      (J.stop i H ∧ Qd H) ∨ (J.go i H ∧ ∃ Nx : Hp → Prop, (∀ H', Nx H' → ∃ m', m' < m ∧ W (i + 1) m' H') ∧ ∀ x H', J.yld i H x H' → g x (wipe σ vs) H' fun σ2 H2 => wipe σ2 vs = wipe σ vs ∧ tt σ2 H2 fun b H3 =>
        if b = true then tk σ2 H3 fun y H4 => tv σ2 H4 fun z H5 => ∃ kvs k b, y = .ref b ∧ H5 D = some (.dT kvs) ∧ H5 b = some (.tup (k.map kV)) ∧ kvs.length < sizeLine ∧ Nx (upd H5 D (.dT (putK kvs k z))) else Nx H3) := by
  refine ⟨fun i m H => m = as.length - i ∧ i ≤ as.length ∧ Same H1 H ∧ Dk H D (ded (((as.take i).filter p).map kf)), ⟨as.length, by simp, Nat.zero_le _, same_new hD, upd_same⟩, ?_⟩
  rintro i m H ⟨rfl, hi, s, eD⟩
  have q := hG H s
  by_cases hlt : i < as.length
  · have hai : as[i]? = some as[i] := List.getElem?_eq_getElem hlt
    refine .inr ⟨w.goes i H hlt q, fun H' => Same H1 H' ∧ Dk H' D (ded (((as.take (i + 1)).filter p).map kf)), fun H' p' => ⟨as.length - (i + 1), by omega, rfl, hlt, p'⟩, fun x H' y => ?_⟩
    refine turn i as[i] x H H' hai s (w.yields i H x H' hlt q y) _ _ (fun hp y H5 s5 ht => ?_) (fun hp H5 s5 => ?_)
    · have e5 : Dk H5 D _ := s5 _ _ eD
      obtain ⟨b, rfl, hb⟩ := ht
      have hl := ded_len (((as.take i).filter p).map kf)
      rw [List.length_map] at hl
      have h2 := List.length_filter_le p (as.take i)
      have h3 := List.length_take_le i as
      refine ⟨_, ky (kf as[i]), b, rfl, e5, by rw [ky_map]; exact hb, ?_, same_mut (s.trans s5) hD, ?_⟩
      · unfold dE onD
        rw [List.length_map, List.length_map]
        exact sz_lt (by omega)
      · show upd H5 D _ D = _
        rw [upd_same, dE_put, onD_put, take_snoc hai, List.filter_append, List.filter_cons, if_pos hp, List.map_append]
        unfold ded
        rw [List.foldl_append]
        rfl
    · refine ⟨s.trans s5, ?_⟩
      rw [take_snoc hai, List.filter_append, List.filter_cons, if_neg (by rw [hp]; decide)]
      show H5 D = some (.dT (dE (onD (ded ((((as.take i).filter p) ++ []).map kf)))))
      rw [List.append_nil]
      exact s5 _ _ eD
  · have e : i = as.length := by omega
    subst e
    rw [List.take_length] at eD
    exact .inl ⟨w.stops H q, done H s eD⟩
end
end Ev

set_option maxRecDepth 100000
set_option maxHeartbeats 4000000
namespace L2
open PySem PySem.Spec PyProof.Rows
section
variable {P : Program} {w : World} {A : Around} {E : Value → Shared → Prop} {s : Shared}
set_option maxRecDepth 100000 in
set_option maxHeartbeats 3200000 in
theorem call_set_tupT {l : Addr} {items : Array Value} (ks : List (Addr × List Int)) {Q : Value → Shared → Prop} (hh : A.handled = none) (hl : s.heap.IsTuple l items) (hit : items.toList = ks.map fun p => Value.ref p.1)
    (hk : ∀ p ∈ ks, IsT P w s.heap p.2 p.1) (hfew : ks.length < 64) (hu : A.units + 3 < cLine)
    (h : ∀ (h' : Heap) (tk : Nat) L es ep t, SetTR P w h' s.heap.objs.size L es ep t → Got ks ks.length L → (∀ b o, s.heap.get? b = some o → h'.get? b = some o) → Q (.ref s.heap.objs.size) { s with heap := h', toks := tk }) :
    wpAny (model P w) A (call (.type "set") [.ref l]) Q E s := by
  have hisz : items.size = ks.length := by
    have q := congrArg List.length hit
    rw [Array.length_toList, List.length_map] at q
    exact q
  obtain ⟨c, tl, hmro⟩ := F.called_set.mro
  have hmade := F.called_set.made
  have hsub := F.called_set.sub
  refine wpAny_call (codeAny_of_tree ?_)
  show wpAny _ _ (callAny (.type "set") _) _ _ _
  refine wpAny_pure ⟨Code.quiet_builtin _ (by decide +kernel), codeAny_builtin F.entry_type_call ?_⟩
  rw [Around.under_plain (weight_type_call_type "set" [.ref l] []) rfl]
  have h1 := F.called_set.notType
  have h2 := F.called_set.canCreate
  have hct := F.typeCall_set_1 (.ref l)
  repeat (any_goals (first | assumption | wp_step))

  refine codeAny_mono (code_set_led1 (.ref l) (E := E) (Q₁ := fun obj s₁ => obj = .ref s.heap.objs.size ∧ s₁ = { s with heap := s.heap.push { cls := .type "set", dict := none, data := .set #[] 0 (.fresh 0 0 (!w.params.followText "set-order")) } }) ⟨rfl, rfl⟩) fun r s₁ hr => ?_
  cases r with
  | error e => exact hr
  | ok fl =>
    cases fl with
    | ret obj =>
      obtain ⟨rfl, rfl⟩ := hr
      have hS : (s.heap.push { cls := .type "set", dict := none, data := .set #[] 0 (.fresh 0 0 (!w.params.followText "set-order")) }).get? s.heap.objs.size = some { cls := .type "set", dict := none, data := .set #[] 0 (.fresh 0 0 (!w.params.followText "set-order")) } := Heap.get?_push_size _ rfl
      have hT : Shared.TypeIs { s with heap := s.heap.push { cls := .type "set", dict := none, data := .set #[] 0 (.fresh 0 0 (!w.params.followText "set-order")) } } (.ref s.heap.objs.size) "set" := ⟨_, hS, rfl⟩
      have hli := F.called_set.init.lookup
      have hbi := F.called_set.init.bind (.ref s.heap.objs.size)
      repeat (any_goals (first | assumption | wp_step))

      refine codeAny_mono (codeAny_call_builtin (R := wants (fun r s₂ => r = .none ∧ ∃ h' tk L es ep t, s₂ = { s with heap := h', toks := tk } ∧ SetTR P w h' s.heap.objs.size L es ep t ∧ Got ks ks.length L ∧
          (∀ b o, s.heap.get? b = some o → h'.get? b = some o)) E) F.called_set.init.plain F.entry_set_init (check_set_init_1 hT ?_)) fun r₂ s₂ hr₂ => ?_
      · obtain ⟨ol, hol, hcl, nl, hdl⟩ := hl
        obtain ⟨ocls, odict, odata, oslots⟩ := ol
        simp only at hcl hdl
        subst hcl; subst hdl
        have hol' : (s.heap.push { cls := .type "set", dict := none, data := .set #[] 0 (.fresh 0 0 (!w.params.followText "set-order")) }).get? l = some { cls := .type "tuple", dict := odict, data := .seq items nl, slots := oslots } := Heap.get?_push_of_some _ hol
        have hsls := F.sub_tuple_set
        have hslf := F.sub_tuple_frozenset
        have hne : (Value.type "tuple" == Value.type "dict") = false := by decide
        have hl1 : (s.heap.push { cls := .type "set", dict := none, data := .set #[] 0 (.fresh 0 0 (!w.params.followText "set-order")) }).IsTuple l items := ⟨_, hol', rfl, nl, rfl⟩
        unfold Builtin.«set.__init__» noKeywords Builtin.Frozenset.updateFrom
        generalize hPI : pyIter = PI
        wp_walk
        subst hPI

        refine wpAny_pyIter_tuple hl1 ?_
        refine wpAny_bind (wpAny_runValue ?_)
        have hlS : l < s.heap.objs.size := Heap.lt_size hol
        have hh3 : A.in1.in1.in1.handled = none := by simp [hh]
        have hz1 : (s.heap.push { cls := .type "set", dict := none, data := .set #[] 0 (.fresh 0 0 (!w.params.followText "set-order")) }).objs.size = s.heap.objs.size + 1 := Heap.size_push ..
        have hneI : l ≠ (s.heap.push { cls := .type "set", dict := none, data := .set #[] 0 (.fresh 0 0 (!w.params.followText "set-order")) }).objs.size := by
          rw [Heap.size_push]; exact Nat.ne_of_lt (Nat.lt_succ_of_lt hlS)
        have hSf : s.heap.objs.size ∉ [(s.heap.push { cls := .type "set", dict := none, data := .set #[] 0 (.fresh 0 0 (!w.params.followText "set-order")) }).objs.size, l] := by
          rw [Heap.size_push]; simp only [List.mem_cons, List.mem_singleton, List.not_mem_nil, or_false, not_or]
          exact ⟨Nat.ne_of_lt (Nat.lt_succ_self _), Nat.ne_of_gt hlS⟩
        have hval : ∀ (i : Nat) (v : Value), items[i]? = some v → ∃ p, ks[i]? = some p ∧ v = .ref p.1 := fun i v hv => by
          have q : items.toList[i]? = some v := by rw [Array.getElem?_toList]; exact hv
          rw [hit, List.getElem?_map] at q
          cases hq : ks[i]? with
          | none => rw [hq] at q; cases q
          | some p =>
            rw [hq] at q
            exact ⟨p, rfl, (Option.some.inj q).symm⟩
        have none_of : ∀ b, s.heap.objs.size ≤ b → s.heap.get? b = none := fun b hb => by
          cases q : s.heap.get? b with
          | none => rfl
          | some o => exact absurd (Nat.lt_of_lt_of_le (Heap.lt_size q) hb) (Nat.lt_irrefl _)
        refine set_update_tups ((Walks.tuple hh3 _ l hneI items).toS) s.heap.objs.size
          hSf ks hisz hfew hval s.heap hk (none_of _ (Nat.le_refl _)) (fun b hb => none_of b (by
            rw [List.mem_singleton.mp hb, Heap.size_push]
            exact Nat.le_succ _)) hu (items.size - 0) 0 _ (by omega) (Nat.zero_le _)
          ⟨⟨_, Heap.get?_push_size _ rfl, rfl, rfl⟩, (hl1.push _)⟩ (fun b o e => Heap.get?_push_of_some _ (Heap.get?_push_of_some _ e)) ?hS0 ?hR
        case hS0 =>
          have hget : ((s.heap.push { cls := .type "set", dict := none, data := .set #[] 0 (.fresh 0 0 (!w.params.followText "set-order")) }).push { cls := .type "tuple_iterator", data := .fields #[.ref l, .int 0 0] }).get? s.heap.objs.size
              = some { cls := .type "set", dict := none, data := .set #[] 0 (.fresh 0 0 (!w.params.followText "set-order")) } := Heap.get?_push_of_some _ hS
          exact ⟨[], #[], 0, _, setTR_fresh hget, Got.zero ks⟩
        case hR =>
          intro s' L es ep t hm hS' g' hkp
          obtain ⟨h', g2, d', tk', os'⟩ := s'
          have eg : g2 = s.gens := hm.gens
          have ed : d' = s.drawn := hm.drawn
          have eo : os' = s.os := hm.os
          subst eg; subst ed; subst eo
          show wpAny _ _ _ _ _ _
          refine wpAny_pure ?_
          show wpAny _ _ (ret Value.none) _ _ _
          rw [hisz] at g'
          exact wpAny_pure ⟨rfl, h', tk', L, es, ep, t, rfl, hS', g', hkp⟩

      · cases r₂ with
        | error e => exact hr₂
        | ok fl₂ =>
          cases fl₂ with
          | ret r =>
            obtain ⟨rfl, h', tk, L, es, ep, t, rfl, hS', g', hk'⟩ := hr₂
            repeat (any_goals (first | assumption | wp_step))
            exact h _ _ _ _ _ _ hS' g' hk'
          | _ => exact hr₂.elim
    | _ => exact hr.elim

end
end L2

set_option maxRecDepth 100000
set_option maxHeartbeats 4000000
namespace Ev
open PySem PySem.Spec PyProof.Rows L2
section
variable {X : Cx}
/-! ### set(t), t a tuple of tuples of ints -/
def rSetOfTT (K : PySem.W.Frag) (P : Program) (w : World) : List V → Hp → VK → Prop := fun xs H Q => ∃ (l : Addr) (ks : List (Addr × List Int)), xs = [V.ref l] ∧ SqT K H l (ks.map fun p => V.ref p.1) ∧ (∀ p ∈ ks, SqT K H p.1 (p.2.map V.int)) ∧ ks.length < 64 ∧
  ∀ a L, H a = none → (∀ p ∈ L, p ∈ ks) → (∀ p ∈ ks, p.2 ∈ L.map (·.2)) → Q (.ref a) (upd H a (SetTO P w a L))
theorem cr_setOfTT (hc : X.calm = true) (hu : X.A.units + 64 < cLine) : CallR X (.type "set") (rSetOfTT X.K X.prog X.w) := by
  intro pins s σ H xs us Q I r h
  obtain ⟨l, ks, rfl, hl, hk, hf, q⟩ := h
  rw [Vals.ref1 r]
  obtain ⟨its, rv, pl, hz⟩ := I.tuple hl
  have hn : H s.heap.objs.size = none := I.hok.fresh (Nat.le_refl _)
  refine call_set_tupT (P := X.prog) (w := X.w) ks (I.ok.hd hc) pl (by simpa using refs_of_vals rv) (fun p hp => I.isT (hk p hp)) hf (by omega) fun h' tk L es ep t R g k => ?_
  refine ⟨.ref s.heap.objs.size, upd H s.heap.objs.size (SetTO X.prog X.w s.heap.objs.size L), I.laid (t' := tk) k (Nat.le_refl _) (setTO_new R.t0), rfl, q _ L hn (fun p hp => ?_) fun p hp => ?_⟩
  · exact List.mem_of_mem_take (g.sub p hp)
  · exact g.all p (by rw [List.take_length]; exact hp)
/-! ### t.index(i), the first place -/
theorem flat_ints (ys : List Int) : (ys.map V.int).all flatV = true := by
  rw [List.all_map]
  exact List.all_eq_true.mpr fun _ _ => rfl
theorem mt_tindex : MtR X "tuple.index" (fun x xs H Q => ∃ p, ∃ ys : List Int, ∃ z j, x = .ref p ∧ xs = [.int z] ∧ SqT X.K H p (ys.map V.int) ∧ ys[j]? = some z ∧ (∀ m, m < j → ys[m]? ≠ some z) ∧ Q (.int (j : Nat)) H) := by
  intro pins s σ H x xs v us Q I rx rs h
  obtain ⟨p, ys, z, j, rfl, rfl, hq, hy, hno, q⟩ := h
  cases rx
  obtain ⟨u, rfl, t, rfl⟩ := vals1 rs
  obtain ⟨its, r, pl, hz⟩ := I.tuple hq
  obtain ⟨⟨cls, dd, dt, sl⟩, ho, hc, n, hd⟩ := pl
  simp only at hc hd
  subst hc
  subst hd
  have hl : its.toArray.size = ys.length := by rw [List.size_toArray, ← r.length, List.length_map]
  have hj : j < its.toArray.size := by rw [hl]; exact (List.getElem?_eq_some_iff.mp hy).1
  have at' : ∀ (m : Nat) (hm : m < its.toArray.size), ∃ y t', ys[m]? = some y ∧ its.toArray[m] = Value.int y t' := fun m hm => by
    have hm' : m < ys.length := by rw [← hl]; exact hm
    obtain ⟨w, hw, t', hw'⟩ := r.get (i := m) (x := .int ys[m]) (by simp [hm'])
    refine ⟨ys[m], t', List.getElem?_eq_getElem hm', ?_⟩
    have e := (List.getElem?_eq_some_iff.mp hw).2
    rw [← hw', ← e]
    simp
  refine call_meets PySem.F.slot_tuple_index ⟨_, ho, rfl⟩ PySem.F.entry_tuple_index (PySem.F.args_tuple_index_2 _ _) (_root_.TI.tuple_indexAt p its.toArray n dd sl (.int z t) (eqU (.int z)) j hj ?_ ?_)
    ⟨ho, fun w hw => mem_eqAt (x := .int z) ⟨t, rfl⟩ rfl r (flat_ints ys) w (by simpa using hw), ⟨.int (j : Nat), H, I.tok _, ⟨_, rfl⟩, q⟩⟩
  · obtain ⟨y, t', h1, h2⟩ := at' j hj
    rw [hy] at h1
    cases h1
    rw [h2]
    show eqV (.int z) (.int z) = true
    simp [eqV]
  · intro m hm hmj
    obtain ⟨y, t', h1, h2⟩ := at' m hm
    rw [h2]
    show eqV (.int y) (.int z) = false
    have ne : y ≠ z := fun e => hno m hmj (e ▸ h1)
    simp [eqV, ne]
/-! ### sorted(t), t a tuple of ints -/
def rSortTup (K : PySem.W.Frag) : List V → Hp → VK → Prop := fun vs H Q => ∃ (a : Addr) (ns : List Int), vs = [V.ref a] ∧ SqT K H a (ns.map V.int) ∧
  ∀ (ns' : List Int) (p : Addr), ns'.Perm ns → ns'.Pairwise (· ≤ ·) → H p = none → Q (.ref p) (upd H p (.lst (ns'.map V.int)))
theorem cr_sortTup : CallR X (.builtin "sorted") (rSortTup X.K) := by
  intro pins s σ H vs us Q I r h
  obtain ⟨a, ns, rfl, hs, q⟩ := h
  obtain ⟨its, rv, ⟨o, ho, hc, n, hd⟩, hz⟩ := I.tuple hs
  rw [Vals.ref1 r]
  have hi := rv.ints
  have hz' : its.length ≤ sizeLine := by rw [← rv.length]; exact hz
  refine Calls.call_function_entry kind_sorted plain_sorted entry_sorted (args_sorted1 _) ?_
  unfold Builtin.«sorted»
  refine wpAny_bind (m := checkCount "sorted" 1 1 _) (wpAny_pure ?_)
  refine wpAny_bind (wpAny_collect_seq a (.inr rfl) ho hc hd (fun h1 k1 => ?_) (by rw [List.size_toArray]; exact hz'))
  refine wpAny_bind (wpAny_newList ?_ (by simpa using hz'))
  have I1 : L2.Inv X pins σ H { s with heap := h1 } := I.kept (t' := s.toks) k1
  have hn : H h1.objs.size = none := I1.hok.fresh (Nat.le_refl _)
  have hob : (h1.push (seqObj "list" its.toArray 0)).get? h1.objs.size = some (seqObj "list" its.toArray 0) := Heap.get?_push_size _ rfl
  show wpAny _ _ _ _ _ { s with heap := h1.push (seqObj "list" its.toArray 0) }
  refine wpAny_bind (wpAny_holding (wpAny_call_entry PyProof.Rows.slot_list_sort ⟨_, hob, rfl⟩ PyProof.Rows.entry_list_sort
    (SrtO.list_sort_ord SrtO.swo_int hob hz' (fun h2 => SrtO.ints_sortable hi h2) fun out g1 g2 => ⟨.none, rfl, ?_⟩) (PyProof.Rows.args_list_sort _)))
  refine wpAny_pure ⟨_, rfl, ?_⟩
  obtain ⟨k1', k2, k3⟩ := SrtO.ints_out hi g1 g2
  obtain ⟨ep, he'⟩ := PyProof.Rows.sortedHeap_at (vs := its) (out := out.toArray) hob
  have hlen : ((out.map SrtO.iv).map V.int).length ≤ sizeLine := by
    rw [List.length_map, k2.length_eq]
    rw [List.length_map] at hz
    exact hz
  refine ⟨.ref h1.objs.size, upd H h1.objs.size (.lst ((out.map SrtO.iv).map V.int)), I1.laid (t' := s.toks) (fun b u hu => ?_) (Nat.le_refl _) ⟨hlen, out, ep, vals_of_ints k1', he'⟩, rfl, q _ _ k2 k3 hn⟩
  have hlt : b < h1.objs.size := Heap.lt_size hu
  rw [PyProof.Rows.sortedHeap_old (Nat.ne_of_lt hlt) (by rw [size_push']; exact Nat.lt_succ_of_lt hlt)]
  exact Heap.get?_push_of_some _ hu
/-! ### len(set(t)), t a tuple of ints -/
def tLenSetT (K : PySem.W.Frag) (ta : TE) : TE := fun σ H Q => ta σ H fun x H1 => ∃ (l : Addr) (ns : List Int), x = V.ref l ∧ SqT K H1 l (ns.map V.int) ∧ ns.length < 4000 ∧ ∀ L : List Int, L.Nodup → (∀ k, k ∈ L ↔ k ∈ ns) → Q (.int L.length) H1
theorem pe_lenSetT {a : Expr} {ta : TE} {p p2 q pos : Pos} (hc : X.calm = true) (hg : Gl X "len") (hm : X.mg "len" = none) (hg2 : Gl X "set") (hm2 : X.mg "set" = none) (ha : PE X a ta)
    (na : starEach [a] X.env = (false, eval a X.env) :: starEach [] X.env := by rfl) : PE X (.Call (.Name "len" p) [.Call (.Name "set" p2) [a] [] q] [] pos) (tLenSetT X.K ta) := by
  refine ⟨fun pins s σ H Q I h => ?_⟩
  refine Call_ (ld_blt I hg hm PySem.boot_len ?_)
  refine PyProof.Rows.callWith_builtin1 (PyProof.Rows.args_cons ?_ rfl) rfl rfl
  refine Call_ (ld_blt I hg2 hm2 PyProof.Rows.boot_set ?_)
  refine PyProof.Rows.callWith_type1 (PyProof.Rows.args_cons (thn (ha.run pins s σ H _ I h) fun v s1 ⟨x, H1, I1, r1, q1⟩ => PyProof.Rows.args_nil ?_) na) na rfl
  obtain ⟨l, ns, rfl, hq, h1, q1⟩ := q1
  cases r1
  obtain ⟨its, r, pl, hz⟩ := I1.tuple hq
  refine call_set_tupI ns (I1.ok.hd hc) pl (by simpa using r.ints) (by unfold scanBound; omega) fun h' tk c hS hcl hk => ?_
  refine PyProof.Rows.args_nil ?_
  obtain ⟨o, es, ep, t, ho, hex, hd, hgood, hnd, hkeys, _, hf, hn, _⟩ := hS
  have I2 : L2.Inv X pins σ H1 { s1 with heap := h', toks := tk } := I1.kept hk
  have hl : (es.toList.map keyOf).length = es.size := by simp
  have q2 := q1 (es.toList.map keyOf) hnd fun k => by
    have := hkeys k
    simp only [decide_eq_true_eq] at this
    exact this.symm
  rw [hl] at q2
  exact call_len_set ho hex hd hf (by omega) ⟨.int es.size, H1, I2.tok _, ⟨_, rfl⟩, q2⟩
end
end Ev

set_option maxRecDepth 100000
set_option maxHeartbeats 4000000
namespace Ev
open PySem PySem.Spec PyProof.Rows L2
/-! ### x == y, x != y by an own __eq__ that answers True or False -/
section
variable {M : Model} {prog : Program} {w : World} {A : Around} {E : Value → Shared → Prop} {s : Shared} {K : PySem.W.Frag} {x C f L : Addr} {ox : Obj} {od : Option Obj} {h₀ : Heap} {m : Str → Option Value} {b tb : Value}
theorem ifBound_ne {args : List Value} {Q : Option Value → Shared → Prop} (X : K.In s.heap) (I : PySem.W.InstAt s.heap x ox C od) (hs : PySem.W.findIn K (.ref C) "__ne__" = some (some (.builtin "object.__ne__")))
    (h : wpAny M A (call (.builtin "object.__ne__") (.ref x :: args)) (fun v => Q (some v)) E s) : wpAny M A (callSpecialIfBound? (.ref x) "__ne__" args) Q E s := by
  simp only [callSpecialIfBound?, bindSpecialIfBound?]
  refine wpAny_holding (wpAny_bind (wpAny_bind (wpAny_bind (I.type.here ((PySem.W.looks_findIn X hs).here ?_)))))
  refine wpAny_bind (wpAny_askSetting (wpAny_ite ?_))
  have fin : wpAny M A (call (.builtin "object.__ne__") ([.ref x] ++ args) >>= fun v => pure (some v)) Q E s := wpAny_bind (wpAny_mono h (fun v s' h' => wpAny_pure h') fun _ _ h' => h')
  split
  · exact wpAny_bind (wpAny_of_eq (PySem.F.cmp_object.ne.bind _) (wpAny_pure (by exact fin)))
  · exact wpAny_tryCatch (wpAny_bind (wpAny_of_eq (PySem.F.cmp_object.ne.bind _) (wpAny_pure (by exact fin))))
theorem entry_ne {Q : Fin → Shared → Prop} (hu : A.units < cLine) (h : wpAny M A (callSpecialIfBound? (.ref x) "__eq__" [b]) (fun r s' => ∃ t : Bool, r = some (.bool t) ∧ Q (.done (.ret (.bool (!t)))) s') E s) :
    wpAny M A (Builtin.«object.__ne__» ⟨[.ref x, b], []⟩) Q E s := by
  unfold Builtin.«object.__ne__»
  refine wpAny_bind (wpAny_of_eq (a := ((Value.ref x : Value), [b])) (by first | rfl | (simp only [Builtin.slotArgs]; rfl)) ?_)
  dsimp only
  refine wpAny_bind (wpAny_cRoomFor hu ?_)
  refine wpAny_bind (wpAny_mono h (fun r s' hr => ?_) fun _ _ e => e)
  obtain ⟨t, rfl, q⟩ := hr
  dsimp only
  refine wpAny_bind (wpAny_truthy_bool ?_)
  exact wpAny_pure q
theorem rc_ne {Q : Value → Shared → Prop} (hu : A.units + 1 < cLine) (F : Fr h₀ L s.heap m) (X₀ : K.In h₀) (I : PySem.W.InstAt s.heap x ox C od) (hb : PySem.W.Looks (model prog w) s.heap (typeOf b) tb) (hn : PySem.W.notFirst K C tb = true)
    (hne : PySem.W.findIn K (.ref C) "__ne__" = some (some (.builtin "object.__ne__"))) (hm : PySem.W.mroIn K C (.type "object") = some true)
    (hs : PySem.W.findIn K (.ref C) "__eq__" = some (some (.ref f))) (hf : PySem.W.isFn K (.ref f) = true)
    (h : wpAny (model prog w) A.in1 (call (.ref f) [.ref x, b]) (fun v s' => ∃ t : Bool, v = .bool t ∧ Q (.bool (!t)) s') E s) : wpAny (model prog w) A (richCompare .NotEq (.ref x) b) Q E s := by
  have X := X₀.keeps F.keep
  have hu0 : A.units < cLine := Nat.lt_of_succ_lt hu
  have one : wpAny (model prog w) A (tryCompare (.ref x) "__ne__" b) (fun r s' => ∃ v, r = some v ∧ Q v s') E s := by
    unfold tryCompare
    refine wpAny_bind (ifBound_ne X I hne (wpAny_call (codeAny_call_builtin PySem.F.cmp_object.ne.plain PySem.F.cmpEntry_ne (PySem.W.check_slot PySem.F.cmpKind_ne PySem.F.cmpSplit_ne (I.type.andThen (PySem.W.looks_mroIn X hm)) (PySem.F.cmpArgs_ne _ _)
      (entry_ne (A := A.in1) hu (PySem.W.ifBound_K X I hs hf (wpAny_mono h (fun v s' hv => ?_) fun _ _ e => e)))))))
    obtain ⟨t, rfl, q⟩ := hv
    exact ⟨t, rfl, wpAny_pure ⟨_, rfl, q⟩⟩
  unfold richCompare
  simp only [oneThing_ref]
  refine wpAny_holding (wpAny_bind (wpAny_cRoomFor hu0 ?_))
  refine wpAny_bind (I.type.here (wpAny_bind (hb.here ?_)))
  split
  · rename_i q
    have e : PySem.W.subIn K tb (.ref C) = some false := by
      rcases Bool.or_eq_true_iff.mp hn with e | e
      · rw [beq_iff_eq.mp e] at q; simp at q
      · exact beq_iff_eq.mp e
    refine wpAny_bind ((PySem.W.looks_subIn X e).here ?_)
    simp only [Bool.false_eq_true, if_false]
    refine wpAny_bind (m := tryCompare (.ref x) _ b) (wpAny_mono one (fun r s' z => ?_) fun _ _ e => e)
    obtain ⟨v, rfl, hq⟩ := z
    exact wpAny_pure hq
  · refine wpAny_bind (wpAny_pure ?_)
    simp only [Bool.false_eq_true, if_false]
    refine wpAny_bind (m := tryCompare (.ref x) _ b) (wpAny_mono one (fun r s' z => ?_) fun _ _ e => e)
    obtain ⟨v, rfl, hq⟩ := z
    exact wpAny_pure hq
end
/-- C and D: instances of C compare by the own __eq__ at some def, the other side an instance of D -/
structure Own2 (K : PySem.W.Frag) (C D f : Addr) : Prop where
  eq : PySem.W.findIn K (.ref C) "__eq__" = some (some (.ref f))
  ne : PySem.W.findIn K (.ref C) "__ne__" = some (some (.builtin "object.__ne__"))
  ob : PySem.W.mroIn K C (.type "object") = some true
  nf : PySem.W.notFirst K C (.ref D) = true
  fn : PySem.W.isFn K (.ref f) = true
def rOwn2 (C D : Addr) (sp : Sp) (neg : Bool) : R2 := fun x y H Q => ∃ a b dx dy fs gs, x = .ref a ∧ y = .ref b ∧ H a = some (.ins C dx fs) ∧ H b = some (.ins D dy gs) ∧ sp [x, y] H (fun v H' => ∃ t : Bool, v = .bl t ∧ Q (.bl (if neg then !t else t)) H') E0
section
variable {X : Cx} {CX : CXT} {C D f : Addr} {fd : FuncData} {ps : List Str} {sp : Sp} {n : Nat}
theorem own2_run {A : Around} (F : FnOk X.prog X.w X.K X.mg X.base CX n f fd ps sp) (hb : Binds X.K fd ps []) (hr : Room n A) (hfr : A.frames = X.A.frames) (hx : Passes CX X E0) {pins : List (Addr × Obj)} {s : Shared} {σ : L2.St} {H : Hp} {a b : Addr} {Q : VK} (I : L2.Inv X pins σ H s)
    (q : sp [.ref a, .ref b] H Q E0) : wpAny (model X.prog X.w) A (call (.ref f) [.ref a, .ref b]) (EP X pins σ Q) X.xe s := by
  have e0 : Env0 X.prog X.w X.K X.mg X.base A X.stack s H := by
    have e := I.env0
    exact ⟨by rw [hfr]; exact e.frames, e.mod, e.bs, e.bsz, e.funs, e.frf, e.hok, e.bare⟩
  have hl := F.len _ _ _ _ q
  have r2 : Vals [V.ref a, V.ref b] [Value.ref a, Value.ref b] := .cons rfl (.cons rfl .nil)
  refine wpAny_call (codeAny_mono (F.run A X.stack s H ⟨[.ref a, .ref b], []⟩ [.ref a, .ref b] [.ref a, .ref b] _ _ hr e0 (by
    have := hb s [.ref a, .ref b] I.kIn (by simpa using hl)
    simpa using this) r2 q) fun r s' hq => ?_)
  cases r with
  | error e => exact hx pins σ H s e s' I hq
  | ok fl =>
    cases fl with
    | ret w => exact I.after hq
    | next => exact False.elim hq
    | brk => exact False.elim hq
    | cont => exact False.elim hq
theorem op_eqOwn (O : Own2 X.K C D f) (F : FnOk X.prog X.w X.K X.mg X.base CX n f fd ps sp) (hb : Binds X.K fd ps []) (hr : Room n X.A) (hx : Passes CX X E0) : OpR X (compareOp .Eq) (rOwn2 C D sp false) := by
  intro pins s σ H x y v u Q I rx ry h
  obtain ⟨a, b, dx, dy, fs, gs, rfl, rfl, ha, hb', q⟩ := h
  cases rx
  cases ry
  obtain ⟨mA, J, _⟩ := ins_get I.hok ha
  obtain ⟨mB, J', _⟩ := ins_get I.hok hb'
  obtain ⟨od, J, _⟩ := J.look
  obtain ⟨od', J', _⟩ := J'.look
  obtain ⟨m, hF⟩ := I.fr
  show wpAny (model X.prog X.w) X.A (richCompare .Eq (.ref a) (.ref b)) _ _ _
  refine PySem.W.cmp_K (op := .Eq) (tb := .ref D) hr.units0 hF I.ok.mod.kin J J'.type O.nf O.eq O.fn ?_
  refine wpAny_mono (own2_run F hb hr rfl hx I q) (fun w' s' z => ?_) fun _ _ e => e
  obtain ⟨v, H', I', r, t, rfl, q'⟩ := z
  cases r
  exact ⟨.bl t, H', I', rfl, q'⟩
theorem op_neOwn (O : Own2 X.K C D f) (F : FnOk X.prog X.w X.K X.mg X.base CX n f fd ps sp) (hb : Binds X.K fd ps []) (hr : Room (n + 1) X.A) (hx : Passes CX X E0) : OpR X (compareOp .NotEq) (rOwn2 C D sp true) := by
  intro pins s σ H x y v u Q I rx ry h
  obtain ⟨a, b, dx, dy, fs, gs, rfl, rfl, ha, hb', q⟩ := h
  cases rx
  cases ry
  obtain ⟨mA, J, _⟩ := ins_get I.hok ha
  obtain ⟨mB, J', _⟩ := ins_get I.hok hb'
  obtain ⟨od, J, _⟩ := J.look
  obtain ⟨od', J', _⟩ := J'.look
  obtain ⟨m, hF⟩ := I.fr
  have hu : X.A.units + 1 < cLine := hr.in1.units0
  show wpAny (model X.prog X.w) X.A (richCompare .NotEq (.ref a) (.ref b)) _ _ _
  refine rc_ne (tb := .ref D) hu hF I.ok.mod.kin J J'.type O.nf O.ne O.ob O.eq O.fn ?_
  refine wpAny_mono (own2_run (A := X.A.in1) F hb hr.in1 rfl hx I q) (fun w' s' z => ?_) fun _ _ e => e
  obtain ⟨v, H', I', r, t, rfl, q'⟩ := z
  cases r
  exact ⟨t, rfl, .bl (!t), H', I', rfl, q'⟩
end
/-! ### C(), C an own exception class without own __init__ -/
theorem pmk_own0 {X : Cx} {C : Addr} {bmB : List Value} {B newId initId : String} {x : Str} {p pos : Pos} (F : ExcBaseFacts B newId initId bmB) (q : PySem.W.excIn X.K C bmB newId = true) (gC : X.mg x = some (.ref C))
    (kC : PySem.W.keepIn X.K (.ref C) = true) (r : Raises X (.ref C)) (hg : Gl X x) (hdb : (x == ("__debug__" : Str)) = false := by decide) :
    PMk X (.Call (.Name x p) [] [] pos) (fun _ H Q => Q (.ref C) none H) := by
  intro pins s σ H Q I h
  refine wpAny_Call_Name_kw (ld_glob I hg gC ?_ hdb)
  refine PySem.W.callWith_K0 I.kIn kC ?_
  show wpAny _ _ (call (.ref C) []) _ _ _
  obtain ⟨bm, N, nm, qn, bs, hdct, sn, sub, ab, col, dd, k0, k1, k2, k3, k5, mN, hC, hN, hni, T⟩ := exc_obj I.kIn q
  refine wpAny_call_exc_subT F T hC hN hni (fun h' e hm => ?_) (by rw [sizeLine_eq]; show 0 ≤ 16777216; omega)
  exact mk_of I hm r h (I.hok.gone hm.new)
end Ev

set_option maxRecDepth 100000
set_option maxHeartbeats 4000000
namespace Ev
open PySem PySem.Spec PyProof.Rows L2
/-! ### {k: v}, one pair, k a tuple -/
def tDispT (tk tv : TE) : TE := fun σ H Q => ∀ p, H p = none → tk σ (upd H p (.dT [])) fun x H1 => tv σ H1 fun y H2 => ∃ b k, x = .ref b ∧ H2 b = some (.tup (k.map kV)) ∧ H2 p = some (.dT []) ∧ Q (.ref p) (upd H2 p (.dT [(k, y)]))
theorem pe_dispT {X : Cx} {pos : Pos} {k v : Expr} {tk tv : TE} (hu : X.A.units + 1 < cLine) (hk : PE X k tk) (hv : PE X v tv) : PE X (.Dict [some k] [v] pos) (tDispT tk tv) := by
  refine ⟨fun pins s σ H Q I q => ?_⟩
  have hn := I.hok.fresh (Nat.le_refl s.heap.objs.size)
  have I1 := I.laid (a := s.heap.objs.size) (o := .dT []) (h' := s.heap.push { cls := .type "dict", data := .dict #[] }) (t' := s.toks) (fun _ _ q => Heap.get?_push_of_some _ q) (Nat.le_refl _) (dt_empty s.heap I.big)
  refine wpAny_Dict_any rfl rfl (by simp) (by show 1 ≤ 15; omega) (pairTrees_cons_walk (thn (hk.run pins _ σ _ _ I1 (q _ hn)) fun u s1 ⟨x, H1, I2, rx, q1⟩ => thn (hv.run pins s1 σ H1 _ I2 q1) fun w2 s2 ⟨y, H2, I3, ry, q2⟩ => pairTrees_nil_walk ?_))
  obtain ⟨b, kk, rfl, hb, hp, q3⟩ := q2
  unfold storeAll
  rw [List.forIn_cons]
  refine wpAny_bind (wpAny_bind (d_dictSetT hu I3 hp hb (by rw [sizeLine_eq]; show 0 < 16777216; omega) rx ry fun s' I' => wpAny_pure ?_))
  show wpAny _ _ (forIn ([] : List (Value × Value)) PUnit.unit _) _ _ _
  rw [List.forIn_nil]
  exact wpAny_pure ⟨.ref s.heap.objs.size, _, I', rfl, q3⟩
end Ev

set_option maxRecDepth 100000
set_option maxHeartbeats 4000000
namespace Ev
open PySem PySem.Spec PyProof.Rows L2
/-! ### dicts made by many a put -/
section
variable {κ : Type} [DecidableEq κ]
def addG (ks : List κ) (k : κ) : List κ := if k ∈ ks then ks else ks ++ [k]
theorem putK_keys (kvs : List (κ × V)) (k : κ) (v : V) : (putK kvs k v).map (·.1) = addG (kvs.map (·.1)) k := by
  have h : (kvs.any fun kv => decide (kv.1 = k)) = decide (k ∈ kvs.map (·.1)) := by
    induction kvs with
    | nil => simp
    | cons p r ih =>
      rw [List.any_cons, ih]
      by_cases e : p.1 = k
      · simp [e]
      · have : ¬ k = p.1 := fun z => e z.symm
        simp [e, this]
  unfold putK addG
  rw [h]
  by_cases c : k ∈ kvs.map (·.1)
  · rw [if_pos (decide_eq_true c), if_pos c, List.map_map]
    apply List.map_congr_left
    intro p hp
    show (if p.1 = k then (p.1, v) else p).1 = p.1
    split <;> rfl
  · rw [if_neg (by simpa using c), if_neg c, List.map_append]
    rfl
theorem addG_fold : ∀ (l ks : List κ), ks.Nodup → (l.foldl addG ks).length ≤ ks.length + l.length ∧ ((l.foldl addG ks).length = ks.length + l.length ↔ (ks ++ l).Nodup)
  | [], ks, h => ⟨by simp, by simp [h]⟩
  | a :: l, ks, h => by
    rw [List.foldl_cons, List.length_cons]
    by_cases c : a ∈ ks
    · have e : addG ks a = ks := if_pos c
      rw [e]
      have ih := (addG_fold l ks h).1
      refine ⟨by omega, fun z => by omega, fun z => ?_⟩
      rw [List.nodup_append] at z
      exact absurd rfl (z.2.2 a c a (by simp))
    · have e : addG ks a = ks ++ [a] := if_neg c
      rw [e]
      have hn : (ks ++ [a]).Nodup := by
        rw [List.nodup_append]
        refine ⟨h, by simp, fun x hx y hy => ?_⟩
        rw [List.mem_singleton] at hy
        subst hy
        exact fun z => c (z ▸ hx)
      obtain ⟨h1, h2⟩ := addG_fold l (ks ++ [a]) hn
      rw [List.length_append, List.length_singleton, List.append_assoc] at *
      refine ⟨by omega, fun z => ?_, fun z => ?_⟩
      · exact h2.mp (by omega)
      · have := h2.mpr z
        omega
theorem fold_keys {α : Type} (k : α → κ) (v : α → V) : ∀ (l : List α) (acc : List (κ × V)), (l.foldl (fun acc a => putK acc (k a) (v a)) acc).map (·.1) = (l.map k).foldl addG (acc.map (·.1))
  | [], acc => rfl
  | a :: l, acc => by
    rw [List.foldl_cons, fold_keys k v l, putK_keys]
    rfl
theorem fold_len {α : Type} (k : α → κ) (v : α → V) (l : List α) : (l.foldl (fun acc a => putK acc (k a) (v a)) []).length = l.length ↔ (l.map k).Nodup := by
  have h1 := congrArg List.length (fold_keys k v l [])
  rw [List.length_map] at h1
  have h2 := (addG_fold (l.map k) [] List.nodup_nil).2
  rw [List.length_nil, Nat.zero_add, List.length_map, List.nil_append] at h2
  rw [h1]
  exact h2
theorem put_new {kvs : List (κ × V)} {k : κ} {v : V} (h : ¬ k ∈ kvs.map (·.1)) : putK kvs k v = kvs ++ [(k, v)] := by
  unfold putK
  rw [if_neg]
  intro z
  obtain ⟨p, hp, e⟩ := List.any_eq_true.mp z
  exact h (List.mem_map.mpr ⟨p, hp, of_decide_eq_true e⟩)
theorem fold_put {α : Type} (k : α → κ) (v : α → V) : ∀ (l : List α) (acc : List (κ × V)), (acc.map (·.1) ++ l.map k).Nodup → l.foldl (fun acc a => putK acc (k a) (v a)) acc = acc ++ l.map fun a => (k a, v a)
  | [], acc, _ => by simp
  | a :: l, acc, h => by
    have c : ¬ k a ∈ acc.map (·.1) := fun z => by
      rw [List.nodup_append] at h
      exact h.2.2 _ z (k a) (by simp) rfl
    rw [List.foldl_cons, put_new c, fold_put k v l _ (by rw [List.map_append, List.append_assoc]; exact h), List.append_assoc]
    rfl
theorem nodup_len {L l : List κ} (hn : L.Nodup) (h : ∀ k, k ∈ L ↔ k ∈ l) : L.length = l.length ↔ l.Nodup := by
  have g : (l.foldl addG []).Nodup ∧ ∀ k, k ∈ l.foldl addG [] ↔ k ∈ l := by
    have : ∀ (l ks : List κ), (ks.Nodup → (l.foldl addG ks).Nodup) ∧ ∀ k, k ∈ l.foldl addG ks ↔ k ∈ ks ∨ k ∈ l := by
      intro l
      induction l with
      | nil => intro ks; exact ⟨id, fun k => by simp⟩
      | cons a l ih =>
        intro ks
        obtain ⟨i1, i2⟩ := ih (addG ks a)
        refine ⟨fun hk => i1 ?_, fun k => ?_⟩
        · unfold addG
          split
          · exact hk
          · rename_i c
            rw [List.nodup_append]
            refine ⟨hk, by simp, fun x hx y hy => ?_⟩
            rw [List.mem_singleton] at hy
            subst hy
            exact fun z => c (z ▸ hx)
        · rw [List.foldl_cons, i2, List.mem_cons]
          unfold addG
          split
          · rename_i c
            refine ⟨fun z => z.elim .inl fun z => .inr (.inr z), fun z => z.elim .inl fun z => z.elim (fun e => .inl (e ▸ c)) .inr⟩
          · rw [List.mem_append, List.mem_singleton]
            exact or_assoc
    exact ⟨(this l []).1 List.nodup_nil, fun k => by simpa using (this l []).2 k⟩
  have e : L.length = (l.foldl addG []).length := ((List.perm_ext_iff_of_nodup hn g.1).mpr fun k => (h k).trans (g.2 k).symm).length_eq
  have h2 := (addG_fold l [] List.nodup_nil).2
  rw [List.length_nil, Nat.zero_add, List.nil_append] at h2
  rw [e]
  exact h2
end
theorem walk_tupN {K : PySem.W.Frag} {a : Addr} {xs : List V} {n : Nat} (e : xs.length = n) : Walk (Itt K a) n (fun H => SqT K H a xs) (YAt xs) := e ▸ walk_tup
theorem walk_listN {K : PySem.W.Frag} {a : Addr} {xs : List V} {n : Nat} (e : xs.length = n) : Walk (Itl K a) n (fun H => SqL K H a xs) (YAt xs) := e ▸ walk_list
theorem lf_same {K : PySem.W.Frag} {H H' : Hp} {v : V} {o : Option Int} (h : Lf K H v o) (s : Same H H') : Lf K H' v o := by
  cases o with
  | some i => exact h
  | none =>
    obtain ⟨t, hn, ht⟩ := h
    exact ⟨t, hn, isb_same ht s⟩
/-! ### what may be known as one object -/
theorem Rd.same {H H' : Hp} {a : Addr} {u : HO} (h : Rd H a u) (s : Same H H') : Rd H' a u := h.imp (s _ _) fun ⟨o, h⟩ => ⟨o, s _ _ h⟩
theorem isb_tupR {K : PySem.W.Frag} {H : Hp} {a : Addr} {xs : List V} (h : Rd H a (.tup xs)) : IsB K H (.ref a) .tuple := by
  rcases h with h | ⟨o, h⟩
  · exact isb_tup h
  · exact .fTuple h
/-- a tuple of names that may be read -/
def Tr (H : Hp) (v : V) (r : List Nat) : Prop := ∃ a, v = .ref a ∧ Rd H a (.tup (r.map nm))
/-- a tuple of names, its object known: it has no dict -/
def Tf (H : Hp) (v : V) (r : List Nat) : Prop := ∃ a o, v = .ref a ∧ H a = some (.frz o (.tup (r.map nm))) ∧ o.dict = none
theorem Tn.r {H : Hp} {v : V} {r : List Nat} (h : Tn H v r) : Tr H v r := by
  obtain ⟨a, e, h⟩ := h
  exact ⟨a, e, .inl h⟩
theorem Tf.r {H : Hp} {v : V} {r : List Nat} (h : Tf H v r) : Tr H v r := by
  obtain ⟨a, o, e, h, _⟩ := h
  exact ⟨a, e, .inr ⟨o, h⟩⟩
theorem Tr.same {H H' : Hp} {v : V} {r : List Nat} (h : Tr H v r) (s : Same H H') : Tr H' v r := by
  obtain ⟨a, e, h⟩ := h
  exact ⟨a, e, Rd.same h s⟩
theorem Tf.same {H H' : Hp} {v : V} {r : List Nat} (h : Tf H v r) (s : Same H H') : Tf H' v r := by
  obtain ⟨a, o, e, h, d⟩ := h
  exact ⟨a, o, e, s _ _ h, d⟩
theorem trs_same {H H' : Hp} {xs : List V} {rs : List (List Nat)} (h : Paired (Tr H) xs rs) (s : Same H H') : Paired (Tr H') xs rs := L2.Paired.mapP h fun _ _ q => q.same s
theorem tfs_same {H H' : Hp} {xs : List V} {rs : List (List Nat)} (h : Paired (Tf H) xs rs) (s : Same H H') : Paired (Tf H') xs rs := L2.Paired.mapP h fun _ _ q => q.same s
theorem tns_r {H : Hp} {xs : List V} {rs : List (List Nat)} (h : Paired (Tn H) xs rs) : Paired (Tr H) xs rs := L2.Paired.mapP h fun _ _ q => q.r
theorem tfs_r {H : Hp} {xs : List V} {rs : List (List Nat)} (h : Paired (Tf H) xs rs) : Paired (Tr H) xs rs := L2.Paired.mapP h fun _ _ q => q.r
/-- the list at a holds known tuples of names -/
def Lf' (H : Hp) (a : Addr) (rs : List (List Nat)) : Prop := ∃ xs, H a = some (.lst xs) ∧ Paired (Tf H) xs rs
theorem Lf'.same {H H' : Hp} {a : Addr} {rs : List (List Nat)} (h : Lf' H a rs) (s : Same H H') : Lf' H' a rs := by
  obtain ⟨xs, e, p⟩ := h
  exact ⟨xs, s _ _ e, tfs_same p s⟩
/-! ### a row: a tuple of things, or another thing -/
def RwD (K : PySem.W.Frag) (H : Hp) (v : V) : Option (List (Option Int)) → Prop
  | some os => ∃ a xs, v = .ref a ∧ Rd H a (.tup xs) ∧ Paired (Lf K H) xs os
  | none => ∃ t, t ≠ Bt.tuple ∧ IsB K H v t
theorem rwd_same {K : PySem.W.Frag} {H H' : Hp} {v : V} {o : Option (List (Option Int))} (h : RwD K H v o) (s : Same H H') : RwD K H' v o := by
  cases o with
  | some os =>
    obtain ⟨a, xs, e, ha, hp⟩ := h
    exact ⟨a, xs, e, Rd.same ha s, L2.Paired.mapP hp fun _ _ q => lf_same q s⟩
  | none =>
    obtain ⟨t, hn, ht⟩ := h
    exact ⟨t, hn, isb_same ht s⟩
theorem rwd_isb {K : PySem.W.Frag} {H : Hp} {v : V} {o : Option (List (Option Int))} (h : RwD K H v o) : ∃ t, IsB K H v t ∧ t.is .tuple = o.isSome := by
  cases o with
  | some os =>
    obtain ⟨a, xs, rfl, ha, _⟩ := h
    exact ⟨.tuple, isb_tupR ha, rfl⟩
  | none =>
    obtain ⟨t, hn, ht⟩ := h
    exact ⟨t, ht, by cases t <;> first | rfl | exact absurd rfl hn⟩
def areNames (n : Int) : Option (List (Option Int)) → Bool
  | some os => os.all (inside 0 (n - 1)) && decide os.Nodup
  | none => false
theorem tr_lf {K : PySem.W.Frag} {H : Hp} {v : V} {r : List Nat} (h : Tr H v r) : RwD K H v (some (r.map fun x : Nat => some (x : Int))) := by
  obtain ⟨a, e, ha⟩ := h
  refine ⟨a, _, e, ha, ?_⟩
  induction r with
  | nil => exact .nil
  | cons x r ih =>
    clear ha
    induction (x :: r) with
    | nil => exact .nil
    | cons y q ih2 => exact .cons rfl ih2
theorem tn_lf {K : PySem.W.Frag} {H : Hp} {v : V} {r : List Nat} (h : Tn H v r) : RwD K H v (some (r.map fun x : Nat => some (x : Int))) := tr_lf h.r
theorem inside_ints {lo hi : Int} : ∀ {os : List (Option Int)}, os.all (inside lo hi) = true → ∃ is : List Int, os = is.map some
  | [], _ => ⟨[], rfl⟩
  | o :: os, h => by
    rw [List.all_cons, Bool.and_eq_true] at h
    obtain ⟨is, e⟩ := inside_ints h.2
    cases o with
    | none => exact absurd h.1 (by simp [inside])
    | some i => exact ⟨i :: is, by rw [e]; rfl⟩
theorem lf_ints {K : PySem.W.Frag} {H : Hp} : ∀ {is : List Int} {xs : List V}, Paired (Lf K H) xs (is.map some) → xs = is.map V.int
  | [], _, .nil => rfl
  | i :: is, _, .cons h t => by
    rw [List.map_cons, ← lf_ints t]
    exact congrArg (· :: _) h
theorem nodup_some {is : List Int} : (is.map some).Nodup ↔ is.Nodup := by
  constructor
  · exact fun h => List.Pairwise.imp (fun {a b} hab e => hab (by rw [e])) (List.pairwise_map.mp h)
  · exact fun h => List.pairwise_map.mpr (List.Pairwise.imp (fun {a b} hab e => hab (Option.some.inj e)) h)
theorem names_ok {n : Nat} {r : List Nat} (h : ∀ x ∈ r, x < n) (hn : r.Nodup) : areNames (n : Int) (some (r.map fun x : Nat => some (x : Int))) = true := by
  unfold areNames
  rw [Bool.and_eq_true]
  refine ⟨List.all_eq_true.mpr fun o ho => ?_, decide_eq_true ?_⟩
  · obtain ⟨x, hx, rfl⟩ := List.mem_map.mp ho
    have := h x hx
    unfold inside
    rw [Bool.and_eq_true]
    exact ⟨decide_eq_true (by omega), decide_eq_true (by omega)⟩
  · exact List.pairwise_map.mpr (hn.imp fun {a b} hab e => hab (by have := Option.some.inj e; omega))
theorem int_eq {a b : Nat} : decide (V.int (a : Int) = V.int (b : Int)) = decide (a = b) := by
  by_cases c : a = b
  · rw [c]; simp
  · have : ¬ V.int ((a : Nat) : Int) = V.int (b : Int) := fun z => by
      injection z with z
      omega
    simp [this, c]
end Ev

set_option maxRecDepth 100000
set_option maxHeartbeats 4000000
namespace Ev
open PySem PySem.Spec PyProof.Rows L2
section
variable {P : Program} {w : World} {K : PySem.W.Frag} {mg : Str → Option Value} {base : Heap}
def spNames (K : PySem.W.Frag) : Sp := fun vs H Q _ => ∃ n v o, vs = [.int n, v] ∧ RwD K H v o ∧ (∀ os, o = some os → os.length < 4000) ∧ ∀ H', Same H H' → Q (.bl (areNames n o)) H'
theorem all_map {α : Type} (f : α → Bool) (as : List α) : ((as.filter fun _ => true).map f).all id = as.all f := by
  rw [List.filter_eq_self.mpr (fun _ _ => rfl), List.all_map]
  rfl
theorem ok_are_names (T : Txt K mg) : Cal P w K mg base CX0 3 "are_names" (spNames K) := by
  refine T.d_are_names.ok sc_are_names (fun vs H Q E h => ?_) (fun f cdv A outer s H vs Q E hr h => ?_)
  · obtain ⟨n, v, o, rfl, _⟩ := h
    rfl
  obtain ⟨n, v, o, rfl, ho, hsz, q⟩ := h
  refine ⟨_, (pss_cons (ps_if (PW.pt (pw_or (pt_not (pt_val (pe_callB call_isi (by rfl) T.n_isinstance (by decide +kernel) (pa_cons (pv 1) (pa_cons (pe_ty "tuple" (by rfl) T.n_tuple (by decide +kernel)) pa_nil))))) (pw_or1 (pt_not (pt_val (pe_callB (cr_all rfl) (by rfl) T.n_all (by decide +kernel) (pa_cons (pe_lc (own := [("name", 2)]) rfl sc_are_names.nd (pi_tup (pv 1)) (blkOk_by (N := ["many", "thing", "name"]) (sc := defScope s_are_names) (own := [("name", 2)]) (by decide +kernel)) (fun _ _ _ _ _ => (pg_name (i := 2) sc_are_names.nd rfl (Or.inl rfl))) (fun _ _ _ _ _ => pts_nil) (fun _ _ _ _ _ => (pe_fn (ok_is_within T) hr (by decide) rfl (pa_cons (pv 2) (pa_cons pe_int (pa_cons (pe_op op_sub (pv 0) pe_int) pa_nil)))))) pa_nil))))))) (pss_one (ps_ret pe_bl)) pss_nil)
    (pss_one (ps_ret (pe_cmpR op_eq (pe_callB call_lenD (by rfl) T.n_len (by decide +kernel) (pa_cons (pe_dc (own := [("name", 2)]) rfl sc_are_names.nd (pi_tup (pv 1)) (blkOk_by (N := ["many", "thing", "name"]) (sc := defScope s_are_names) (own := [("name", 2)]) (by decide +kernel)) (fun _ _ _ _ _ => (pg_name (i := 2) sc_are_names.nd rfl (Or.inl rfl))) (fun _ _ _ _ _ => pts_nil) (fun _ _ _ _ _ => (pv 2)) (fun _ _ _ _ _ => pe_bl)) pa_nil)) (pe_callB call_len_seq (by rfl) T.n_len (by decide +kernel) (pa_cons (pv 1) pa_nil)) (nomark _))))), ?_⟩
  cases o with
  | none =>
    obtain ⟨t, hn, ht⟩ := ho
    have e : t.is .tuple = false := by cases t <;> first | rfl | exact absurd rfl hn
    refine ⟨_, rfl, v, _, _, _, _, rfl, .ty _, ht, bt_kit t .tuple, _, rfl, ?_⟩
    rw [e]
    exact iteT (iteT (q _ fun _ _ z => z))
  | some os =>
    have hlen := hsz os rfl
    obtain ⟨a, xs, rfl, ha, hp⟩ := ho
    have hxl : xs.length = os.length := Paired.length hp
    refine ⟨_, rfl, _, _, _, _, _, rfl, .ty _, isb_tupR ha, bt_kit .tuple .tuple, _, rfl, iteF ?_⟩
    refine ⟨_, rfl, a, rfl, ⟨xs, .inl ha⟩, fun D hD => ?_⟩
    refine lc_gen os (fun _ => true) (inside 0 (n - 1)) (fun _ v b => v = .bl b) (fun _ _ _ _ _ h => h) (walk_tupN hxl) (by omega) hD (fun H' s' => .inl (Rd.same ha s')) ?_ ?_
    · rintro i o x H2 H3 hi s2 ⟨rfl, hx⟩ Kc Kn kc kn
      refine ⟨rfl, ?_⟩
      obtain ⟨o', ho', hlf⟩ := Pd.get hp hx
      rw [hi] at ho'
      cases ho'
      refine ⟨_, rfl, _, rfl, n, 1, rfl, rfl, ?_⟩
      exact ⟨x, 0, n - 1, o, rfl, lf_same hlf s2, kc rfl _ _ (fun _ _ z => z) rfl⟩
    · intro H2 ys s2 hys hpr
      have ey := Pd.eq_map (f := V.bl) hpr
      subst ey
      refine ⟨D, _, rfl, .inl (.inl hys), _, rfl, ?_⟩
      rw [all_map]
      have q : ∀ H', Same H H' → Q (.bl (os.all (inside 0 (n - 1)) && decide os.Nodup)) H' := q
      cases hc : os.all (inside 0 (n - 1)) with
      | false =>
        rw [hc, Bool.false_and] at q
        exact iteT (q _ s2)
      | true =>
        rw [hc, Bool.true_and] at q
        refine iteF ?_
        obtain ⟨is, rfl⟩ := inside_ints hc
        have ex := lf_ints hp
        subst ex
        have ha2 := Rd.same ha s2
        refine ⟨_, rfl, a, rfl, ⟨_, .inl ha2⟩, fun D2 hD2 => ?_⟩
        refine dc_gen is (fun _ => true) id (fun _ => .bl true) (walk_tupN (by rw [List.length_map])) (by rw [List.length_map] at hlen; omega) hD2 (fun H' s' => .inl (Rd.same ha2 s')) ?_ ?_
        · rintro i z x H4 H5 hi s4 ⟨rfl, hx⟩ Kc Kn kc kn
          rw [List.getElem?_map, hi] at hx
          cases hx
          exact ⟨rfl, ⟨_, rfl, kc rfl _ fun _ _ z => z⟩⟩
        · intro H4 s4 hd4
          refine ⟨D2, _, rfl, hd4, ?_⟩
          refine ⟨_, rfl, a, _, rfl, .inr (.inl (Rd.same ha2 s4)), rfl, ?_⟩
          rw [int_eq, List.filter_eq_self.mpr (fun _ _ => rfl), List.length_map]
          have e : decide ((is.foldl (fun acc a => putK acc (Sum.inl (id a) : Key) (V.bl true)) []).length = is.length) = decide ((is.map some).Nodup) := by
            apply decide_eq_decide.mpr
            rw [nodup_some]
            refine (fold_len (fun a : Int => (Sum.inl (id a) : Key)) (fun _ => V.bl true) is).trans ?_
            constructor
            · exact fun h => List.Pairwise.imp (fun {a b} hab e => hab (by rw [e])) (List.pairwise_map.mp h)
            · exact fun h => List.pairwise_map.mpr (List.Pairwise.imp (fun {a b} hab e => hab (by injection e)) h)
          have q2 := q _ (fun b u z => s4 _ _ (s2 _ _ z))
          rw [← e] at q2
          exact q2
end
end Ev

set_option maxRecDepth 100000
set_option maxHeartbeats 4000000
namespace Ev
open PySem PySem.Spec PyProof.Rows L2 EvM
theorem tn_ints {K : PySem.W.Frag} {H : Hp} {a : Addr} {r : List Nat} (h : H a = some (.tup (r.map nm))) : SqT K H a ((r.map fun x : Nat => (x : Int)).map V.int) := by
  rw [List.map_map]
  exact .inl (.inl h)
section
variable {P : Program} {w : World} {K : PySem.W.Frag} {mg : Str → Option Value} {base : Heap}
theorem ok_l_is_int (T : Txt K mg) : Cal P w K mg base CX0 1 "_law_is_int" (spWithin K) := by
  refine T.d_l_is_int.ok sc_l_is_int (fun vs H Q E h => ?_) (fun f cdv A outer s H vs Q E hr h => ?_)
  · obtain ⟨v, lo, hi, o, rfl, _⟩ := h
    rfl
  obtain ⟨v, lo, hi, o, rfl, ho, q⟩ := h
  refine ⟨_, (pss_one (ps_ret (pe_and (pe_callB call_isi (by rfl) T.n_isinstance (by decide +kernel) (pa_cons (pv 0) (pa_cons (pe_ty "int" (by rfl) T.n_int (by decide +kernel)) pa_nil))) (pe_and (pe_not (pe_callB call_isi (by rfl) T.n_isinstance (by decide +kernel) (pa_cons (pv 0) (pa_cons (pe_ty "bool" (by rfl) T.n_bool (by decide +kernel)) pa_nil)))) (pe_and (pe_cmpR op_le (pv 1) (pv 0) (nomark _)) (pe_one (pe_cmpR op_le (pv 0) (pv 2) (nomark _)))))))), ?_⟩
  cases o with
  | none =>
    obtain ⟨t, hn, ht⟩ := ho
    refine ⟨_, rfl, v, _, _, _, _, rfl, .ty _, ht, bt_kit t .int, _, rfl, ite2 (fun c => ?_) (fun c => q)⟩
    refine ⟨_, rfl, v, _, _, _, _, rfl, .ty _, ht, bt_kit t .bool, _, rfl, _, rfl, ?_⟩
    have e : (!t.is .bool) = false := by cases t <;> first | rfl | exact absurd rfl hn | exact absurd c (by decide)
    rw [e]
    exact iteF q
  | some i =>
    have hv : v = .int i := ho
    subst hv
    refine ⟨_, rfl, _, _, _, _, _, rfl, .ty _, isb_int i, bt_kit .int .int, _, rfl, iteT ?_⟩
    refine ⟨_, rfl, _, _, _, _, _, rfl, .ty _, isb_int i, bt_kit .int .bool, _, rfl, _, rfl, iteT ?_⟩
    have q' : Q (.bl (decide (lo ≤ i) && decide (i ≤ hi))) H := q
    refine ⟨_, rfl, _, rfl, lo, i, rfl, rfl, _, rfl, ite2 (fun c => ?_) (fun c => ?_)⟩
    · rw [c, Bool.true_and] at q'
      exact ⟨_, rfl, _, rfl, i, hi, rfl, rfl, q'⟩
    · rw [Bool.eq_false_iff.mpr c, Bool.false_and] at q'
      exact q'
theorem all_none {α : Type} (f : α → Bool) (as : List α) : (as.filter fun a => !f a).length = 0 ↔ as.all f = true := by
  rw [List.length_eq_zero_iff, List.filter_eq_nil_iff, List.all_eq_true]
  exact ⟨fun h a ha => by have := h a ha; simpa using this, fun h a ha => by simp [h a ha]⟩
theorem ok_l_are_names (T : Txt K mg) : Cal P w K mg base CX0 2 "_law_are_names" (spNames K) := by
  refine T.d_l_are_names.ok sc_l_are_names (fun vs H Q E h => ?_) (fun f cdv A outer s H vs Q E hr h => ?_)
  · obtain ⟨n, v, o, rfl, _⟩ := h
    rfl
  obtain ⟨n, v, o, rfl, ho, hsz, q⟩ := h
  refine ⟨_, (pss_cons (ps_if (PW.pt (pw_or (pt_not (pt_val (pe_callB call_isi (by rfl) T.n_isinstance (by decide +kernel) (pa_cons (pv 1) (pa_cons (pe_ty "tuple" (by rfl) T.n_tuple (by decide +kernel)) pa_nil))))) (pw_or1 (pt_cmpR op_gt (pe_callB call_len_seq (by rfl) T.n_len (by decide +kernel) (pa_cons (pe_lc (own := [("_law_name", 2)]) rfl sc_l_are_names.nd (pi_tup (pv 1)) (blkOk_by (N := ["_law_many", "_law_thing", "_law_name"]) (sc := defScope s_l_are_names) (own := [("_law_name", 2)]) (by decide +kernel)) (fun _ _ _ _ _ => (pg_name (i := 2) sc_l_are_names.nd rfl (Or.inl rfl))) (fun _ _ _ _ _ => (pts_one (pt_not (pt_val (pe_fn (ok_l_is_int T) hr (by decide) rfl (pa_cons (pv 2) (pa_cons pe_int (pa_cons (pe_op op_sub (pv 0) pe_int) pa_nil)))))))) (fun _ _ _ _ _ => (pv 2))) pa_nil)) pe_int (nomark _))))) (pss_one (ps_ret pe_bl)) pss_nil)
  (pss_one (ps_ret (pe_cmpR op_eq (pe_lenSetT rfl rfl T.n_len rfl T.n_set (pv 1)) (pe_callB call_len_seq (by rfl) T.n_len (by decide +kernel) (pa_cons (pv 1) pa_nil)) (nomark _))))), ?_⟩
  cases o with
  | none =>
    obtain ⟨t, hn, ht⟩ := ho
    have e : t.is .tuple = false := by cases t <;> first | rfl | exact absurd rfl hn
    refine ⟨_, rfl, v, _, _, _, _, rfl, .ty _, ht, bt_kit t .tuple, _, rfl, ?_⟩
    rw [e]
    exact iteT (iteT (q _ fun _ _ z => z))
  | some os =>
    have hlen := hsz os rfl
    obtain ⟨a, xs, rfl, ha, hp⟩ := ho
    have hxl : xs.length = os.length := Paired.length hp
    refine ⟨_, rfl, _, _, _, _, _, rfl, .ty _, isb_tupR ha, bt_kit .tuple .tuple, _, rfl, iteF ?_⟩
    refine ⟨_, rfl, a, rfl, ⟨xs, .inl ha⟩, fun D hD => ?_⟩
    refine lc_gen os (fun o => !inside 0 (n - 1) o) (fun _ => ()) (fun _ _ _ => True) (fun _ _ _ _ _ h => h) (walk_tupN hxl) (by omega) hD (fun H' s' => .inl (Rd.same ha s')) ?_ ?_
    · rintro i o x H2 H3 hi s2 ⟨rfl, hx⟩ Kc Kn kc kn
      refine ⟨rfl, ?_⟩
      obtain ⟨o', ho', hlf⟩ := Pd.get hp hx
      rw [hi] at ho'
      cases ho'
      refine ⟨_, rfl, _, rfl, n, 1, rfl, rfl, ?_⟩
      refine ⟨x, 0, n - 1, o, rfl, lf_same hlf s2, _, rfl, ?_⟩
      cases hc : inside 0 (n - 1) o with
      | true => exact kn (by rw [hc]; rfl) _ fun _ _ z => z
      | false => exact ⟨_, rfl, kc (by rw [hc]; rfl) _ _ (fun _ _ z => z) trivial⟩
    · intro H2 ys s2 hys hpr
      have hyl : ys.length = (os.filter fun o => !inside 0 (n - 1) o).length := by
        rw [Paired.length hpr, List.length_map]
      have q : ∀ H', Same H H' → Q (.bl (os.all (inside 0 (n - 1)) && decide os.Nodup)) H' := q
      refine ⟨D, ys, rfl, .inl (.inl (.inl hys)), _, _, rfl, rfl, _, rfl, ?_⟩
      cases hc : os.all (inside 0 (n - 1)) with
      | false =>
        rw [hc, Bool.false_and] at q
        have h0 : ¬ (os.filter fun o => !inside 0 (n - 1) o).length = 0 := fun z => by
          rw [all_none, hc] at z
          cases z
        rw [decide_eq_true (by omega)]
        exact iteT (q _ s2)
      | true =>
        rw [hc, Bool.true_and] at q
        have h0 := (all_none _ _).mpr hc
        rw [decide_eq_false (by omega)]
        refine iteF ?_
        obtain ⟨is, rfl⟩ := inside_ints hc
        have ex := lf_ints hp
        subst ex
        have ha2 := Rd.same ha s2
        rw [List.length_map] at hlen
        refine ⟨_, rfl, a, is, rfl, .inl ha2, hlen, fun L hL hm => ?_⟩
        refine ⟨_, rfl, a, _, rfl, .inr (.inl ha2), rfl, ?_⟩
        rw [int_eq, List.length_map]
        have e : decide (L.length = is.length) = decide ((is.map some).Nodup) := by
          apply decide_eq_decide.mpr
          rw [nodup_some]
          exact nodup_len hL hm
        rw [e]
        exact q _ s2
/-! ### is_ascending, of a tuple of pairs that ascend -/
theorem lex_key {i j k l n : Nat} (hj : j < 64) (hl : l < 64) (h : key2 [i, j] < key2 [k, l]) : HT.lexLt [(i : Int), (j : Int)] [(k : Int), (l : Int)] = true := by
  have h : 64 * i + j < 64 * k + l := h
  rw [HT.lexLt_cons]
  by_cases c : i = k
  · subst c
    rw [if_pos rfl, HT.lexLt_cons, if_neg (by omega)]
    exact decide_eq_true (by omega)
  · rw [if_neg (by omega)]
    exact decide_eq_true (by omega)
def spAsc : Sp := fun vs H Q _ => ∃ a ps n, vs = [.ref a] ∧ Tt H a ps ∧ Pr n ps ∧ n ≤ 64 ∧ ps.length < 4000 ∧ Up ps ∧ ∀ H', Same H H' → Q (.bl true) H'
theorem ok_is_ascending (T : Txt K mg) : Cal P w K mg base CX0 1 "is_ascending" spAsc := by
  refine T.d_is_ascending.ok sc_is_ascending (fun vs H Q E h => ?_) (fun f cdv A outer s H vs Q E hr h => ?_)
  · obtain ⟨a, ps, n, rfl, _⟩ := h
    rfl
  obtain ⟨a, ps, n, rfl, ⟨xs, ha, hp⟩, hpr, hn, hz, hup, q⟩ := h
  refine ⟨_, (pss_one (ps_ret (pe_callB (cr_all rfl) (by rfl) T.n_all (by decide +kernel) (pa_cons (pe_lc (own := [("at", 1)]) rfl sc_is_ascending.nd (pi_range2 (by rfl) T.n_range (pa_cons pe_int (pa_cons (pe_callB call_len_seq (by rfl) T.n_len (by decide +kernel) (pa_cons (pv 0) pa_nil)) pa_nil))) (blkOk_by (N := ["items", "at"]) (sc := defScope s_is_ascending) (own := [("at", 1)]) (by decide +kernel)) (fun _ _ _ _ _ => (pg_name (i := 1) sc_is_ascending.nd rfl (Or.inl rfl))) (fun _ _ _ _ _ => pts_nil) (fun _ _ _ _ _ => (pe_cmpR (r := rLtT K) (op_ltT hr.units0) (pe_ix (r := rIxT K) ix_tup (pv 0) (pe_op op_sub (pv 1) pe_int) (fun _ _ => rfl)) (pe_ix (r := rIxT K) ix_tup (pv 0) (pv 1) (fun _ _ => rfl)) (nomark _)))) pa_nil)))), ?_⟩
  have hxl : xs.length = ps.length := Paired.length hp
  refine ⟨_, rfl, a, xs, rfl, .inr (.inl (.inl ha)), 1, xs.length, rfl, ⟨by omega, by omega, by omega, by omega⟩, fun D hD => ?_⟩
  have el : ((xs.length : Int) - 1).toNat = ps.length - 1 := by omega
  rw [el]
  refine lc_gen (List.range (ps.length - 1)) (fun _ => true) (fun _ => true) (fun _ v b => v = .bl b) (fun _ _ _ _ _ h => h) (G := fun _ => True) (by rw [List.length_range]; exact walk_range) (by rw [List.length_range]; omega) hD (fun _ _ => trivial) ?_ ?_
  · rintro i k x H2 H3 hi s2 ⟨rfl, rfl⟩ Kc Kn kc kn
    have hk : i < ps.length - 1 := by
      have := (List.getElem?_eq_some_iff.mp hi).1
      rwa [List.length_range] at this
    refine ⟨rfl, ?_⟩
    have h1 : i < ps.length := by omega
    have h2 : i + 1 < ps.length := by omega
    obtain ⟨x1, e1, t1, rfl, g1⟩ := Pd.get' hp (List.getElem?_eq_getElem h1)
    obtain ⟨x2, e2, t2, rfl, g2⟩ := Pd.get' hp (List.getElem?_eq_getElem h2)
    obtain ⟨i1, j1, p1, b1, c1⟩ := hpr _ (List.getElem_mem h1)
    obtain ⟨i2, j2, p2, b2, c2⟩ := hpr _ (List.getElem_mem h2)
    have hlt := List.pairwise_iff_getElem.mp hup i (i + 1) h1 h2 (Nat.lt_succ_self i)
    rw [p1] at g1
    rw [p2] at g2
    rw [p1, p2] at hlt
    refine ⟨_, rfl, _, rfl, (1 : Int) + (i : Nat), 1, rfl, rfl, a, xs, _, _, rfl, rfl, .inl (.inl (s2 _ _ ha)), (by rw [show (1 : Int) + (i : Nat) - 1 = ((i : Nat) : Int) by omega]; exact atI_nat e1), ?_⟩
    refine ⟨_, rfl, _, rfl, a, xs, _, _, rfl, rfl, .inl (.inl (s2 _ _ ha)), (by rw [show (1 : Int) + (i : Nat) = ((i + 1 : Nat) : Int) by omega]; exact atI_nat e2), ?_⟩
    refine ⟨t1, t2, _, _, rfl, rfl, tn_ints (s2 _ _ g1), tn_ints (s2 _ _ g2), ?_⟩
    refine kc rfl _ _ (fun _ _ z => z) ?_
    exact congrArg V.bl (lex_key (n := n) (by omega) (by omega) hlt)
  · intro H2 ys s2 hys hpr2
    have ey := Pd.eq_map (f := V.bl) hpr2
    subst ey
    refine ⟨D, _, rfl, .inl (.inl hys), ?_⟩
    have e : (((List.range (ps.length - 1)).filter fun _ => true).map fun _ => true).all id = true := by
      rw [all_map]
      exact List.all_eq_true.mpr fun _ _ => rfl
    rw [e]
    exact q _ s2
def spBefores : Sp := fun vs H Q _ => ∃ a ps n, vs = [.int ((n : Nat) : Int), .ref a] ∧ Tt H a ps ∧ Pr n ps ∧ (∀ i, ¬ [i, i] ∈ ps) ∧ n ≤ 64 ∧ ps.length < 4000 ∧ Up ps ∧ ∀ H', Same H H' → Q (.bl true) H'
theorem ok_are_befores (T : Txt K mg) : Cal P w K mg base CX0 4 "are_befores" spBefores := by
  refine T.d_are_befores.ok sc_are_befores (fun vs H Q E h => ?_) (fun f cdv A outer s H vs Q E hr h => ?_)
  · obtain ⟨a, ps, n, rfl, _⟩ := h
    rfl
  obtain ⟨a, ps, n, rfl, ⟨xs, ha, hp⟩, hpr, hirr, hn, hz, hup, q⟩ := h
  refine ⟨_, (pss_cons (ps_if (pt_not (pt_val (pe_callB call_isi (by rfl) T.n_isinstance (by decide +kernel) (pa_cons (pv 1) (pa_cons (pe_ty "tuple" (by rfl) T.n_tuple (by decide +kernel)) pa_nil))))) (pss_one (ps_ret pe_bl)) pss_nil)
  (pss_one (ps_ret (pe_and (pe_callB (cr_all rfl) (by rfl) T.n_all (by decide +kernel) (pa_cons (pe_lc (own := [("pair", 2)]) rfl sc_are_befores.nd (pi_tup (pv 1)) (blkOk_by (N := ["many", "thing", "pair"]) (sc := defScope s_are_befores) (own := [("pair", 2)]) (by decide +kernel)) (fun _ _ _ _ _ => (pg_name (i := 2) sc_are_befores.nd rfl (Or.inl rfl))) (fun _ _ _ _ _ => pts_nil) (fun _ _ _ _ _ => (pe_and (pe_fn (ok_is_pair T) hr (by decide) rfl (pa_cons (pv 2) pa_nil)) (pe_one (pe_fn (ok_are_names T) hr (by decide) rfl (pa_cons (pv 0) (pa_cons (pv 2) pa_nil))))))) pa_nil)) (pe_one (pe_fn (ok_is_ascending T) hr (by decide) rfl (pa_cons (pv 1) pa_nil))))))), ?_⟩
  have hxl : xs.length = ps.length := Paired.length hp
  refine ⟨_, rfl, _, _, _, _, _, rfl, .ty _, isb_tup ha, bt_kit .tuple .tuple, _, rfl, iteF ?_⟩
  refine ⟨_, rfl, a, rfl, ⟨xs, .inl (.inl ha)⟩, fun D hD => ?_⟩
  refine lc_gen ps (fun _ => true) (fun _ => true) (fun _ v b => v = .bl b) (fun _ _ _ _ _ h => h) (walk_tupN hxl) (by omega) hD (fun H' s' => .inl (.inl (s' _ _ ha))) ?_ ?_
  · rintro i p x H2 H3 hi s2 ⟨rfl, hx⟩ Kc Kn kc kn
    refine ⟨rfl, ?_⟩
    obtain ⟨p', hp', htn⟩ := Pd.get hp hx
    rw [hi] at hp'
    cases hp'
    have htn := htn.tk (tk_of s2)
    obtain ⟨i1, j1, rfl, b1, c1⟩ := hpr p (List.mem_of_getElem? hi)
    have hne : i1 ≠ j1 := fun e => by
      subst e
      exact hirr _ (List.mem_of_getElem? hi)
    refine ⟨_, rfl, x, _, rfl, htn, _, rfl, iteT ?_⟩
    refine ⟨_, rfl, _, rfl, _, x, _, rfl, tn_lf htn, fun os e => by cases e; simp, fun H5 s5 => ?_⟩
    rw [names_ok (by simp [b1, c1]) (by simp [hne])]
    exact kc rfl _ _ s5 rfl
  · intro H2 ys s2 hys hpr2
    have ey := Pd.eq_map (f := V.bl) hpr2
    subst ey
    refine ⟨D, _, rfl, .inl (.inl hys), _, rfl, ?_⟩
    have e : ((ps.filter fun _ => true).map fun _ => true).all id = true := by
      rw [all_map]
      exact List.all_eq_true.mpr fun _ _ => rfl
    rw [e]
    refine iteT ⟨_, rfl, a, ps, n, rfl, ⟨xs, s2 _ _ ha, tns_tk hp (tk_of s2)⟩, hpr, hn, hz, hup, fun H4 s4 => q _ (s2.trans s4)⟩
end
end Ev

set_option maxRecDepth 100000
set_option maxHeartbeats 4000000
namespace Ev
open PySem PySem.Spec PyProof.Rows L2 EvM
/-! ### range(n) -/
theorem nm0 (i : Nat) : V.int (0 + (i : Int)) = nm i := by
  unfold nm
  rw [Int.zero_add]
theorem walk_rng {n : Nat} : Walk (Itr 0 ((n : Nat) : Int).toNat) n (fun _ => True) (fun i H x H' => H' = H ∧ x = nm i) :=
  (walk_range (lo := 0) (n := n)).mono (fun _ h => h) fun i H x H' _ _ y => ⟨y.1, y.2.trans (nm0 i)⟩
theorem rng_ok {n : Nat} (h : n ≤ 4000) : -(2 ^ 62) ≤ (n : Int) ∧ (n : Int) < 2 ^ 62 := ⟨by omega, by omega⟩
/-! ### lists that are rearranged -/
theorem Pd.perm {α β : Type} {F : α → β → Prop} {l m : List α} (h : m.Perm l) : ∀ {bs : List β}, Paired F l bs → ∃ cs, Paired F m cs ∧ cs.Perm bs := by
  induction h with
  | nil => exact fun p => ⟨_, p, List.Perm.refl _⟩
  | cons x _ ih =>
    intro bs p
    cases p with
    | cons a t =>
      obtain ⟨cs, h1, h2⟩ := ih t
      exact ⟨_, .cons a h1, h2.cons _⟩
  | swap x y l =>
    intro bs p
    cases p with
    | cons a t =>
      cases t with
      | cons b t => exact ⟨_, .cons b (.cons a t), List.Perm.swap _ _ _⟩
  | trans _ _ ih1 ih2 =>
    intro bs p
    obtain ⟨cs, h1, h2⟩ := ih2 p
    obtain ⟨ds, h3, h4⟩ := ih1 h1
    exact ⟨ds, h3, h4.trans h2⟩
theorem Pd.pw {α β : Type} {F : α → β → Prop} {R : α → α → Prop} {S : β → β → Prop} : ∀ {l : List α} {m : List β}, Paired F l m → l.Pairwise R → (∀ x y a b, F x a → F y b → R x y → S a b) → m.Pairwise S
  | _, _, .nil, _, _ => List.Pairwise.nil
  | _, _, .cons h t, hw, f => by
    rw [List.pairwise_cons] at hw
    refine List.pairwise_cons.mpr ⟨fun b hb => ?_, Pd.pw t hw.2 f⟩
    obtain ⟨y, hy, hf⟩ := Pd.mem' t hb
    exact f _ _ _ _ h hf (hw.1 y hy)
theorem keys_tns {H : Hp} : ∀ {ks : List (List Nat)} {v : List Nat → V} {bs : List Addr}, IsKeys H (dE (ks.map fun r => (r, v r))) bs → Paired (Tn H) (bs.map V.ref) ks
  | [], _, _, .nil => .nil
  | k :: ks, v, b :: bs, .cons h t => by
    rw [List.map_cons]
    refine .cons ⟨b, rfl, ?_⟩ (keys_tns (v := v) t)
    rw [← ky_map]
    exact h
theorem tn_tupI {K : PySem.W.Frag} {H : Hp} {v : V} {r : List Nat} (h : Tn H v r) : TupI K H v (r.map fun x : Nat => (x : Int)) := by
  obtain ⟨a, e, ha⟩ := h
  exact ⟨a, e, tn_ints ha⟩
theorem bd_of {n : Nat} {r : List Nat} (hn : n ≤ 64) (h : ∀ x ∈ r, x < n) : TS.Bd 64 (r.map fun x : Nat => (x : Int)) := by
  intro z hz
  obtain ⟨x, hx, rfl⟩ := List.mem_map.mp hz
  have := h x hx
  exact ⟨by omega, by omega⟩
/-- sorted(a list of names' tuples, all of one length) -/
theorem sortU_tns {K : PySem.W.Frag} {H : Hp} {a : Addr} {xs : List V} {ks : List (List Nat)} {d n : Nat} {Q : VK} (hl : SqL K H a xs) (hp : Paired (Tn H) xs ks) (hn : n ≤ 64) (hk : ∀ k ∈ ks, k.length = d ∧ ∀ x ∈ k, x < n) (h64 : ks.length < 64)
    (q : ∀ ys ks' p, H p = none → Paired (Tn H) ys ks' → ks'.Perm ks → ks'.Pairwise (fun k l => TS.code 64 (k.map fun x : Nat => (x : Int)) ≤ TS.code 64 (l.map fun x : Nat => (x : Int))) → Q (.ref p) (upd H p (.lst ys))) : rSortU K d 64 [.ref a] H Q := by
  refine ⟨a, xs, rfl, hl, by rw [Paired.length hp]; exact h64, fun x hx => ?_, fun ys p hy pw hf => ?_⟩
  · obtain ⟨k, hk1, ht⟩ := Pd.mem hp hx
    exact ⟨_, tn_tupI ht, by rw [List.length_map]; exact (hk k hk1).1, bd_of hn (hk k hk1).2⟩
  · obtain ⟨ks', h1, h2⟩ := Pd.perm hy hp
    refine q ys ks' p hf h1 h2 (Pd.pw h1 pw fun x y k l hx hy h => h _ _ (tn_tupI hx) (tn_tupI hy))
theorem code_key (i j : Nat) : TS.code 64 ([i, j].map fun x : Nat => (x : Int)) = ((key2 [i, j] : Nat) : Int) := by
  show TS.code 64 [(i : Int), (j : Int)] = ((64 * i + j : Nat) : Int)
  rw [code_pair]
  omega
/-- pairs, none twice: they ascend -/
theorem pairs_up {n : Nat} {ks : Ps} (hn : n ≤ 64) (hp : Pr n ks) (nd : ks.Nodup) (h : ks.Pairwise fun k l => TS.code 64 (k.map fun x : Nat => (x : Int)) ≤ TS.code 64 (l.map fun x : Nat => (x : Int))) : Up ks := by
  refine List.Pairwise.imp_of_mem ?_ (List.Pairwise.and h nd)
  intro k l hk hl hkl
  obtain ⟨i, j, rfl, b1, b2⟩ := hp k hk
  obtain ⟨i', j', rfl, c1, c2⟩ := hp l hl
  have h1 := hkl.1
  rw [code_key, code_key] at h1
  have h2 : key2 [i, j] ≤ key2 [i', j'] := by omega
  rcases Nat.lt_or_ge (key2 [i, j]) (key2 [i', j']) with c | c
  · exact c
  · exfalso
    have e : key2 [i, j] = key2 [i', j'] := by omega
    obtain ⟨e1, e2⟩ := key_inj hn b1 b2 c1 c2 e
    exact hkl.2 (by rw [e1, e2])
theorem pr_len {n : Nat} {ks : Ps} (hp : Pr n ks) : ∀ k ∈ ks, k.length = 2 ∧ ∀ x ∈ k, x < n := fun k hk => by
  obtain ⟨i, j, rfl, b1, b2⟩ := hp k hk
  exact ⟨rfl, by simp [b1, b2]⟩
theorem sortU_pairs {K : PySem.W.Frag} {H : Hp} {a : Addr} {xs : List V} {ks : Ps} {n : Nat} {Q : VK} (hl : SqL K H a xs) (hp : Paired (Tn H) xs ks) (hn : n ≤ 64) (hk : Pr n ks) (nd : ks.Nodup) (h64 : ks.length < 64)
    (q : ∀ ys ks' p, H p = none → Paired (Tn H) ys ks' → ks'.Perm ks → Up ks' → Q (.ref p) (upd H p (.lst ys))) : rSortU K 2 64 [.ref a] H Q :=
  sortU_tns hl hp hn (pr_len hk) h64 fun ys ks' p hf h1 h2 h3 => q ys ks' p hf h1 h2 (pairs_up hn (fun k hk' => hk k (h2.mem_iff.mp hk')) (h2.nodup_iff.mpr nd) h3)
theorem perm_up {ks ps : Ps} (h : ks.Perm ps) (h1 : Up ks) (h2 : Up ps) : ks = ps := up_eq h1 h2 fun _ => h.mem_iff
theorem tn_new {H : Hp} {p : Addr} {r : List Nat} : Tn (upd H p (.tup (r.map nm))) (.ref p) r := ⟨p, rfl, upd_same⟩
theorem tt_new {H : Hp} {p : Addr} {ys : List V} {rs : List (List Nat)} (hf : H p = none) (h : Paired (Tn H) ys rs) : Tt (upd H p (.tup ys)) p rs := ⟨ys, upd_same, tns_tk h (tk_of (same_new hf))⟩
theorem lt_new {H : Hp} {p : Addr} {ys : List V} {rs : List (List Nat)} (hf : H p = none) (h : Paired (Tn H) ys rs) : Lt (upd H p (.lst ys)) p rs := ⟨ys, upd_same, tns_tk h (tk_of (same_new hf))⟩
end Ev

set_option maxRecDepth 100000
set_option maxHeartbeats 4000000
namespace Ev
open PySem PySem.Spec PyProof.Rows L2 EvM
section
variable {P : Program} {w : World} {K : PySem.W.Frag} {mg : Str → Option Value} {base : Heap}
def spClosed : Sp := fun vs H Q _ => ∃ a ps n, vs = [.int ((n : Nat) : Int), .ref a] ∧ Tt H a ps ∧ Po n ps ∧ n ≤ 8 ∧ ps.length < 64 ∧ ∀ H' b, Same H H' → Tt H' b ps → Q (.ref b) H'
theorem onD_len (ks : List (List Nat)) : (dE (onD ks)).length = ks.length := by
  unfold dE onD
  rw [List.length_map, List.length_map]
/-- a pair that is there: a put changes nothing -/
theorem Dk.again {H : Hp} {D : Addr} {ks : List (List Nat)} (h : Dk H D ks) {y : V} {r : List Nat} (t : Tn H y r) (hr : r ∈ ks) (hz : ks.length < 16777216) : DPut H D y (V.bl true) (upd H D (.dT (dE (onD ks)))) := by
  have := h.put t hz
  unfold addK at this
  rw [if_pos hr] at this
  exact this
theorem pair_in {ps : Ps} {H : Hp} {D : Addr} (h : Dk H D ps) {p : Addr} (hp : H p = none) (i j : Nat) : DGet (upd H p (.tup [nm i, nm j])) D (.ref p) (if [i, j] ∈ ps then some (V.bl true) else none) :=
  Dk.get (show Dk (upd H p (.tup [nm i, nm j])) D ps from same_new hp _ _ h) (tn_new (r := [i, j]))
theorem some_if {c : Prop} [Decidable c] : (if c then some (V.bl true) else none : Option V).isSome = decide c := by
  by_cases h : c
  · simp [h]
  · simp [h]
theorem ok_closed (T : Txt K mg) : Cal P w K mg base CX0 1 "closed" spClosed := by
  refine T.d_closed.ok sc_closed (fun vs H Q E h => ?_) (fun f cdv A outer s H vs Q E hr h => ?_)
  · obtain ⟨a, ps, n, rfl, _⟩ := h
    rfl
  obtain ⟨a, ps, n, rfl, ⟨xs, ha, hp⟩, hpo, hn, h64, q⟩ := h
  refine ⟨_, (pss_cons (ps_set (i := 2) sc_closed.nd rfl (Or.inr rfl) (pe_dcT (own := [("pair", 6)]) (hu_of hr) rfl sc_closed.nd (pi_tup (pv 1)) (blkOk_by (N := ["many", "pairs", "found", "middle", "one", "other", "pair", "name"]) (sc := defScope s_closed) (own := [("pair", 6)]) (by decide +kernel)) (fun _ _ _ _ _ => (pg_name (i := 6) sc_closed.nd rfl (Or.inl rfl))) (fun _ _ _ _ _ => pts_nil) (fun _ _ _ _ _ => (pv 6)) (fun _ _ _ _ _ => pe_bl)))
  (pss_cons (ps_for PassesOwn.never rfl (pi_range1 (by rfl) T.n_range (pa_cons (pv 0) pa_nil)) (pg_name (i := 3) sc_closed.nd rfl (Or.inl rfl))
  (pss_one (ps_for PassesOwn.never rfl (pi_range1 (by rfl) T.n_range (pa_cons (pv 0) pa_nil)) (pg_name (i := 4) sc_closed.nd rfl (Or.inl rfl))
  (pss_one (ps_for PassesOwn.never rfl (pi_range1 (by rfl) T.n_range (pa_cons (pv 0) pa_nil)) (pg_name (i := 5) sc_closed.nd rfl (Or.inl rfl))
  (pss_one (ps_if (PW.pt (pw_and (pt_cmp (pc_din (hu_of hr) (pe_tup (pa_cons (pv 4) (pa_cons (pv 3) pa_nil))) (pv 2))) (pw_and1 (pt_cmp (pc_din (hu_of hr) (pe_tup (pa_cons (pv 3) (pa_cons (pv 5) pa_nil))) (pv 2)))))) (pss_one (ps_dput (hu_of hr) (pv 2) (pe_tup (pa_cons (pv 4) (pa_cons (pv 5) pa_nil))) pe_bl rfl)) pss_nil)))))))
  (pss_cons (ps_if (pt_val (pe_callB (cr_any rfl) (by rfl) T.n_any (by decide +kernel) (pa_cons (pe_lc (own := [("name", 7)]) rfl sc_closed.nd (pi_range1 (by rfl) T.n_range (pa_cons (pv 0) pa_nil)) (blkOk_by (N := ["many", "pairs", "found", "middle", "one", "other", "pair", "name"]) (sc := defScope s_closed) (own := [("name", 7)]) (by decide +kernel)) (fun _ _ _ _ _ => (pg_name (i := 7) sc_closed.nd rfl (Or.inl rfl))) (fun _ _ _ _ _ => pts_nil) (fun _ _ _ _ _ => (pe_cmp (pc_din (hu_of hr) (pe_tup (pa_cons (pv 7) (pa_cons (pv 7) pa_nil))) (pv 2)) rfl))) pa_nil))) (pss_one (ps_ret pe_non)) pss_nil)
  (pss_one (ps_ret (pe_callTy call_tuple_of (by rfl) T.n_tuple (by decide +kernel) (pa_cons (pe_callB (cr_sortT (d := 2) (B := 64) (by decide)) (by rfl) T.n_sorted (by decide +kernel) (pa_cons (pe_callTy (call_list_dT rfl) (by rfl) T.n_list (by decide +kernel) (pa_cons (pv 2) pa_nil)) pa_nil)) pa_nil))))))), ?_⟩
  have hxl : xs.length = ps.length := Paired.length hp
  have nd := up_nodup hpo.up
  refine ⟨_, rfl, a, rfl, ⟨xs, .inl (.inl ha)⟩, fun D hD => ?_⟩
  refine dcT_gen ps (fun _ => true) id (walk_tupN hxl) (by omega) hD (fun H' s' => .inl (.inl (s' _ _ ha))) ?_ ?_
  · rintro i p x H2 H3 hi s2 ⟨rfl, hx⟩ Kc Kn kc kn
    refine ⟨rfl, ?_⟩
    obtain ⟨p', hp', htn⟩ := Pd.get hp hx
    rw [hi] at hp'
    cases hp'
    exact ⟨_, rfl, kc rfl _ _ (fun _ _ z => z) (htn.tk (tk_of s2))⟩
  intro H2 s2 hd2
  have e0 : ded ((ps.filter fun _ => true).map id) = ps := by
    rw [List.filter_eq_self.mpr (fun _ _ => rfl), List.map_id, ded_self nd]
  rw [e0] at hd2
  obtain ⟨r1, r2⟩ := rng_ok (n := n) (by omega)
  -- the three loops
  refine ⟨_, rfl, _, rfl, r1, r2, for_it walk_rng (fun _ σ H' => (∃ m o t : Option V, σ = [some (.int (n : Int)), some (.ref a), some (.ref D), m, o, t, none, none]) ∧ Same H H' ∧ Dk H' D ps) ⟨⟨_, _, _, rfl⟩, s2, hd2⟩ (fun _ _ _ _ _ => trivial) ?_ ?_⟩
  · rintro mi x σ H3 H3' hmi ⟨⟨m, o, t, rfl⟩, s3, d3⟩ ⟨rfl, rfl⟩
    refine ⟨_, rfl, _, rfl, r1, r2, for_it walk_rng (fun _ σ H' => (∃ o t : Option V, σ = [some (.int (n : Int)), some (.ref a), some (.ref D), some (nm mi), o, t, none, none]) ∧ Same H H' ∧ Dk H' D ps) ⟨⟨_, _, rfl⟩, s3, d3⟩ (fun _ _ _ _ _ => trivial) ?_ ?_⟩
    · rintro oi x σ H4 H4' hoi ⟨⟨o, t, rfl⟩, s4, d4⟩ ⟨rfl, rfl⟩
      refine ⟨_, rfl, _, rfl, r1, r2, for_it walk_rng (fun _ σ H' => (∃ t : Option V, σ = [some (.int (n : Int)), some (.ref a), some (.ref D), some (nm mi), some (nm oi), t, none, none]) ∧ Same H H' ∧ Dk H' D ps) ⟨⟨_, rfl⟩, s4, d4⟩ (fun _ _ _ _ _ => trivial) ?_ ?_⟩
      · rintro ti x σ H50 H5 hti ⟨⟨t, rfl⟩, s5, d5⟩ ⟨rfl, rfl⟩
        refine ⟨_, rfl, _, rfl, (by show 2 ≤ sizeLine; decide), fun p1 hp1 => ?_⟩
        refine ⟨_, rfl, D, _, rfl, pair_in d5 hp1 oi mi, _, rfl, ?_⟩
        rw [some_if]
        have s6 := s5.trans (same_new (o := .tup [nm oi, nm mi]) hp1)
        have d6 : Dk (upd H5 p1 (.tup [nm oi, nm mi])) D ps := same_new hp1 _ _ d5
        refine ite2 (fun c1 => ?_) (fun c1 => iteF ⟨⟨_, rfl⟩, s6, d6⟩)
        refine ⟨_, rfl, _, rfl, (by show 2 ≤ sizeLine; decide), fun p2 hp2 => ?_⟩
        refine ⟨_, rfl, D, _, rfl, pair_in d6 hp2 mi ti, _, rfl, ?_⟩
        rw [some_if]
        have s7 := s6.trans (same_new (o := .tup [nm mi, nm ti]) hp2)
        have d7 : Dk (upd (upd H5 p1 (.tup [nm oi, nm mi])) p2 (.tup [nm mi, nm ti])) D ps := same_new hp2 _ _ d6
        refine ite2 (fun c2 => ?_) (fun c2 => ⟨⟨_, rfl⟩, s7, d7⟩)
        have c3 := hpo.tr _ _ _ (of_decide_eq_true c1) (of_decide_eq_true c2)
        refine ⟨_, rfl, _, rfl, _, rfl, (by show 2 ≤ sizeLine; decide), fun p3 hp3 => ?_⟩
        have d8 : Dk (upd (upd (upd H5 p1 (.tup [nm oi, nm mi])) p2 (.tup [nm mi, nm ti])) p3 (.tup [nm oi, nm ti])) D ps := same_new hp3 _ _ d7
        refine ⟨D, _, rfl, Dk.again d8 (tn_new (r := [oi, ti])) c3 (by omega), ⟨_, rfl⟩, ?_, upd_same⟩
        exact same_mut (s7.trans (same_new hp3)) hD
      · rintro σ H5 ⟨⟨t, rfl⟩, s5, d5⟩
        exact ⟨⟨_, _, rfl⟩, s5, d5⟩
    · rintro σ H4 ⟨⟨o, t, rfl⟩, s4, d4⟩
      exact ⟨⟨_, _, _, rfl⟩, s4, d4⟩
  · rintro σ H3 ⟨⟨m, o, t, rfl⟩, s3, d3⟩
    refine ⟨_, rfl, _, rfl, r1, r2, fun E3 hE3 => ?_⟩
    refine lc_gen (List.range n) (fun _ => true) (fun _ => false) (fun _ v b => v = .bl b) (fun _ _ _ _ _ h => h) (G := fun _ => True) (by rw [List.length_range]; exact walk_rng) (by rw [List.length_range]; omega) hE3 (fun _ _ => trivial) ?_ ?_
    · rintro i k x H4 H5 hi s4 ⟨rfl, rfl⟩ Kc Kn kc kn
      refine ⟨rfl, ?_⟩
      refine ⟨_, rfl, _, rfl, (by show 2 ≤ sizeLine; decide), fun p1 hp1 => ?_⟩
      refine ⟨_, rfl, D, _, rfl, pair_in (s4 _ _ d3) hp1 i i, kc rfl _ _ (same_new hp1) ?_⟩
      rw [some_if, decide_eq_false hpo.irr]
    · intro H4 ys s4 hys hpr2
      have ey := Pd.eq_map (f := V.bl) hpr2
      subst ey
      refine ⟨E3, _, rfl, .inl (.inl hys), _, rfl, ?_⟩
      have e : (((List.range n).filter fun _ => true).map fun _ => false).any id = false := by
        rw [List.any_eq_false]
        intro b hb
        obtain ⟨_, _, rfl⟩ := List.mem_map.mp hb
        simp
      rw [e]
      refine iteF ?_
      have d4 : Dk H4 D ps := s4 _ _ d3
      refine ⟨_, rfl, D, _, rfl, .inl d4, fun l bs hl hk => ?_⟩
      have hk2 : Paired (Tn H4) (bs.map V.ref) ps := keys_tns (v := fun _ => V.bl true) hk
      have sl : Same H4 (upd H4 l (.lst (bs.map V.ref))) := same_new hl
      dsimp only [tNil]
      refine sortU_pairs (.inl (.inl upd_same)) (tns_tk hk2 (tk_of sl)) (n := n) (by omega) hpo.pr nd h64 fun ys ks' p hf h1 h2 h3 => ?_
      have ek := perm_up h2 h3 hpo.up
      subst ek
      have sp : Same (upd H4 l (.lst (bs.map V.ref))) (upd (upd H4 l (.lst (bs.map V.ref))) p (.lst ys)) := same_new hf
      refine ⟨p, ys, rfl, .inl ⟨.inl (.inl upd_same), fun b hb => q _ b ?_ (tt_new hb (tns_tk h1 (tk_of sp)))⟩⟩
      exact s3.trans (s4.trans (sl.trans (sp.trans (same_new hb))))
end
end Ev

set_option maxRecDepth 100000
set_option maxHeartbeats 4000000
namespace Ev
open PySem PySem.Spec PyProof.Rows L2 EvM
theorem pg_tup2 {X : Cx} {K : PySem.W.Frag} {es : List Expr} {k : Nat} {t : TGs} {n : Nat} {pos : Pos} (hc : X.calm = true) (h : PGs X es t) (hK : X.K = K := by rfl)
    (hn : (assignEach es X.env).length = n := by rfl) (hst : (assignEach es X.env).findIdx? (·.1) = none := by rfl) : PG X (.Tuple es k pos) (gTup K n t) := hK ▸ pg_tup hc h hn hst
theorem pi_tup2 {X : Cx} {K : PySem.W.Frag} {tg l : Expr} {tl : TE} (hl : PE X l tl) (hK : X.K = K := by rfl) : PI X tg l (iTup K tl) := hK ▸ pi_tup hl
theorem pi_list2 {X : Cx} {K : PySem.W.Frag} {tg l : Expr} {tl : TE} (hl : PE X l tl) (hK : X.K = K := by rfl) : PI X tg l (iList K tl) := hK ▸ pi_list hl
def rTupOf (K : PySem.W.Frag) : List V → Hp → VK → Prop := fun xs H Q => ∃ p ys, xs = [V.ref p] ∧ ((SqL K H p ys ∧ ∀ l, H l = none → Q (.ref l) (upd H l (.tup ys))) ∨ (SqT K H p ys ∧ Q (.ref p) H))
theorem tupK {X : Cx} : CallR X (.type "tuple") (rTupOf X.K) := call_tuple_of
def rLenQ (K : PySem.W.Frag) : List V → Hp → VK → Prop := fun xs H Q => ∃ p ys, xs = [V.ref p] ∧ (SqL K H p ys ∨ SqT K H p ys) ∧ Q (.int ys.length) H
theorem lenK {X : Cx} : CallR X (.builtin "len") (rLenQ X.K) := call_len_seq
/-- where the classes and their defs stand -/
structure Ad where
  CW : Addr
  CR : Addr
  CN : Addr
  CT : Addr
  CO : Addr
  fW : Addr
  fK : Addr
  fE : Addr
  fR : Addr
  fT : Addr
/-- a def within a class -/
def Mtd (K : PySem.W.Frag) (x q : Str) (st : Stmt) (ps : List Str) (f : Addr) : Prop := ∃ fd, Fun K x q st f fd ∧ Binds K fd ps []
structure Cf (K : PySem.W.Frag) (mg : Str → Option Value) (a : Ad) : Prop where
  mW : mg "Web" = some (.ref a.CW)
  mR : mg "RawWeb" = some (.ref a.CR)
  mN : mg "NoRows" = some (.ref a.CN)
  mT : mg "TooMany" = some (.ref a.CT)
  mO : mg "OrderError" = some (.ref a.CO)
  cW : Cls K a.CW
  cR : Cls K a.CR
  nW : NoAttr K a.CW "many" ∧ NoAttr K a.CW "befores" ∧ NoAttr K a.CW "ahead" ∧ NoAttr K a.CW "later"
  nR : NoAttr K a.CR "many" ∧ NoAttr K a.CR "befores" ∧ NoAttr K a.CR "ahead" ∧ NoAttr K a.CR "later"
  kW : Mk K a.CW a.fW
  kR : Mk K a.CR a.fR
  eW : Meth K a.CW "keep" a.fK
  eR : Meth K a.CR "keep" a.fK
  iW : C8.InsC K a.CW
  o2 : Own2 K a.CR a.CW a.fE
  dW : Mtd K "__init__" "Web.__init__" s_Web_init ["self", "many", "befores"] a.fW
  dK : Mtd K "keep" "Web.keep" s_Web_keep ["self", "many", "every"] a.fK
  dE : Mtd K "__eq__" "Web.__eq__" s_Web_eq ["self", "other"] a.fE
  dR : Mtd K "__init__" "RawWeb.__init__" s_RawWeb_init ["self", "many", "every"] a.fR
  dT : Mtd K "__init__" "TooMany.__init__" s_TooMany_init ["self", "most"] a.fT
  xN : PySem.W.excIn K a.CN [.type "ValueError", .type "Exception", .type "BaseException", .type "object"] "ValueError.__new__" = true
  pN : PySem.W.keepIn K (.ref a.CN) = true
  bN : PySem.W.subIn K (.ref a.CN) (.type "BaseException") = some true
  tN : PySem.W.typeIn K (.ref a.CN) = some (.type "type")
  eN : ExcC K a.CN
  hNO : PySem.W.exmOne K (.ref a.CN) (.ref a.CO) = some true
  iNN : PySem.W.kitOne K (.ref a.CN) (.ref a.CN) = some true
  iNT : PySem.W.kitOne K (.ref a.CN) (.ref a.CT) = some false
  oT : OexC K a.CT
  iT : PySem.W.findIn K (.ref a.CT) "__init__" = some (some (.ref a.fT))
  tT : PySem.W.typeIn K (.ref a.fT) = some (.type "function")
  nT : PySem.W.findIn K (.ref a.CT) "most" = some none
  eT : ExcC K a.CT
  xT : XfC K a.CT
  hTO : PySem.W.exmOne K (.ref a.CT) (.ref a.CO) = some true
  iTN : PySem.W.kitOne K (.ref a.CT) (.ref a.CN) = some false
  iTT : PySem.W.kitOne K (.ref a.CT) (.ref a.CT) = some true
/-! ### webs -/
/-- the fields of a web -/
def flds (n : Nat) (b l : Addr) (m : V) : List (Str × V) := [(("many" : Str), V.int (n : Int)), (("befores" : Str), V.ref b), (("ahead" : Str), V.ref l), (("later" : Str), m)]
def WebF (H : Hp) (fs : List (Str × V)) (n : Nat) (ps : Ps) : Prop := ∃ b l m, fs = flds n b l m ∧ Tt H b ps ∧ Lt H l ((List.range n).map (aheadOf ps))
theorem WebF.same {H H' : Hp} {fs : List (Str × V)} {n : Nat} {ps : Ps} (h : WebF H fs n ps) (s : Same H H') : WebF H' fs n ps := by
  obtain ⟨b, l, m, e, h1, h2⟩ := h
  exact ⟨b, l, m, e, h1.same s, h2.same s⟩
def IsWeb (C : Addr) (H : Hp) (x : Addr) (n : Nat) (ps : Ps) : Prop := ∃ dx fs, H x = some (.ins C dx fs) ∧ WebF H fs n ps
theorem IsWeb.same {C : Addr} {H H' : Hp} {x : Addr} {n : Nat} {ps : Ps} (h : IsWeb C H x n ps) (s : Same H H') : IsWeb C H' x n ps := by
  obtain ⟨dx, fs, e, h⟩ := h
  exact ⟨dx, fs, s _ _ e, h.same s⟩
section
variable {H : Hp} {n : Nat} {b l : Addr} {m : V}
theorem lk_many : (flds n b l m).lookup ("many" : Str) = some (.int (n : Int)) := rfl
theorem lk_befores : (flds n b l m).lookup ("befores" : Str) = some (.ref b) := rfl
theorem lk_ahead : (flds n b l m).lookup ("ahead" : Str) = some (.ref l) := rfl
theorem pf1 {v : V} : putF "many" v [] = [(("many" : Str), v)] := rfl
theorem pf2 {v w : V} : putF "befores" w [(("many" : Str), v)] = [(("many" : Str), v), (("befores" : Str), w)] := rfl
theorem pf3 {v w x : V} : putF "ahead" x [(("many" : Str), v), (("befores" : Str), w)] = [(("many" : Str), v), (("befores" : Str), w), (("ahead" : Str), x)] := rfl
theorem pf4 {v w x y : V} : putF "later" y [(("many" : Str), v), (("befores" : Str), w), (("ahead" : Str), x)] = [(("many" : Str), v), (("befores" : Str), w), (("ahead" : Str), x), (("later" : Str), y)] := rfl
end
/-- all but the object at x stands as it did -/
def SameB (x : Addr) (H H' : Hp) : Prop := ∀ b u, b ≠ x → H b = some u → H' b = some u
theorem SameB.trans {x : Addr} {H H1 H2 : Hp} (h : SameB x H H1) (g : SameB x H1 H2) : SameB x H H2 := fun b u hb e => g b u hb (h b u hb e)
theorem SameB.of {x : Addr} {H H1 : Hp} (h : Same H H1) : SameB x H H1 := fun b u _ e => h b u e
theorem sameB_upd {x : Addr} {H : Hp} {o : HO} : SameB x H (upd H x o) := fun b u hb e => by rw [upd_ne hb]; exact e
theorem SameB.tk {x C dx : Addr} {fs : List (Str × V)} {H H' : Hp} (h : SameB x H H') (e : H x = some (.ins C dx fs)) : TK H H' := fun b xs q => h b _ (fun z => by subst z; rw [e] at q; cases q) q
section
variable {P : Program} {w : World} {K : PySem.W.Frag} {mg : Str → Option Value} {base : Heap} {ad : Ad}
theorem Mtd.ok {x q : Str} {st : Stmt} {N ps : List Str} {k : Nat} {sp : Sp} {f : Addr} (D : Mtd K x q st ps f) (S : FnScope N ps (defScope st)) (len : ∀ vs H Q E, sp vs H Q E → vs.length = ps.length)
    (hbody : ∀ (cdv : Value) (A : Around) (outer : List Env) (s : Shared) (H : Hp) (vs : List V) (Q : VK) (E : XK), Room k (A.deeper (envOfC q (defScope st) s.heap.objs.size f cdv)) → sp vs H Q E →
      ∃ t, PSs (cxOf CX0 P w K mg base N q (defScope st) f cdv A outer s H E).nox (defBody st) t ∧ t { nx := fun _ H' => Q .non H', rt := Q } (start N vs) H) : ∃ fd, FnOk P w K mg base CX0 (k + 1) f fd ps sp ∧ Binds K fd ps [] := by
  obtain ⟨fd, F, b⟩ := D
  exact ⟨fd, F.ok S len fun cdv A outer s H vs Q E hr h => hbody cdv A outer s H vs Q E hr h, b⟩
def lcScope : Expr → Scope
  | .ListComp _ _ sc _ => sc
  | _ => { kind := .function, names := [], isGenerator := false, isCoroutine := false }
def asgVal : Stmt → Expr
  | .Assign _ v _ => v
  | _ => .Tuple [] 0 ⟨0, 0, 0, 0⟩
def spKeep (K : PySem.W.Frag) (ad : Ad) : Sp := fun vs H Q _ => ∃ x C dx e n ps, vs = [.ref x, .int ((n : Nat) : Int), .ref e] ∧ (C = ad.CW ∨ C = ad.CR) ∧ H x = some (.ins C dx []) ∧ Tt H e ps ∧ Pr n ps ∧ n ≤ 8 ∧ ps.length < 64 ∧
  ∀ H' fs, SameB x H H' → H' x = some (.ins C dx fs) → WebF H' fs n ps → Q .non H'
theorem ok_keep (T : Txt K mg) (F : Cf K mg ad) : ∃ fd, FnOk P w K mg base CX0 1 ad.fK fd ["self", "many", "every"] (spKeep K ad) ∧ Binds K fd ["self", "many", "every"] [] := by
  refine F.dK.ok sc_Web_keep (fun vs H Q E h => ?_) (fun cdv A outer s H vs Q E hr h => ?_)
  · obtain ⟨x, C, dx, e, n, ps, rfl, _⟩ := h
    rfl
  obtain ⟨x, C, dx, e, n, ps, rfl, hC, hx, ⟨xs, he, hp⟩, hpr, hn, hz, q⟩ := h
  have cl : Cls K C := by rcases hC with rfl | rfl <;> first | exact F.cW | exact F.cR
  have na : NoAttr K C "many" ∧ NoAttr K C "befores" ∧ NoAttr K C "ahead" ∧ NoAttr K C "later" := by rcases hC with rfl | rfl <;> first | exact F.nW | exact F.nR
  refine ⟨_, (pss_cons (ps_fld (pv 0) (pv 1) rfl)
  (pss_cons (ps_fld (pv 0) (pv 2) rfl)
  (pss_cons (ps_fld (pv 0) (pe_lc (own := [("name", 3)]) rfl sc_Web_keep.nd (pi_range1 (by rfl) T.n_range (pa_cons (pv 1) pa_nil)) (blkOk_by (N := ["self", "many", "every", "name", "one", "other"]) (sc := defScope s_Web_keep) (own := [("name", 3)]) (by decide +kernel)) (fun _ _ _ _ _ => (pg_name (i := 3) sc_Web_keep.nd rfl (Or.inr rfl))) (fun _ _ _ _ _ => pts_nil) (fun _ _ _ _ _ => (pe_callTy (T := "tuple") (r := rTupOf K) tupK (by rfl) T.n_tuple (by decide +kernel) (pa_cons (pe_lc (own := [("one", 4), ("other", 5)]) rfl sc_Web_keep.nd (pi_tup2 (K := K) (pv 2)) (blkOk_by (N := ["self", "many", "every", "name", "one", "other"]) (sc := relS (lcScope (asgVal ((defBody s_Web_keep).getD 2 (.Pass ⟨0, 0, 0, 0⟩)))) (defScope s_Web_keep)) (own := [("one", 4), ("other", 5)]) (by decide +kernel)) (fun _ _ _ _ _ => (pg_tup2 (K := K) (n := 2) rfl (pgs_cons (pg_name (i := 4) sc_Web_keep.nd rfl (Or.inl rfl)) (pgs_cons (pg_name (i := 5) sc_Web_keep.nd rfl (Or.inl rfl)) pgs_nil)))) (fun _ _ _ _ _ => (pts_one (pt_cmpR op_eq (pv 5) (pv 3) (nomark _)))) (fun _ _ _ _ _ => (pv 4))) pa_nil)))) rfl)
  (pss_one (ps_fld (pv 0) (pe_lc (own := [("name", 3)]) rfl sc_Web_keep.nd (pi_range1 (by rfl) T.n_range (pa_cons (pv 1) pa_nil)) (blkOk_by (N := ["self", "many", "every", "name", "one", "other"]) (sc := defScope s_Web_keep) (own := [("name", 3)]) (by decide +kernel)) (fun _ _ _ _ _ => (pg_name (i := 3) sc_Web_keep.nd rfl (Or.inr rfl))) (fun _ _ _ _ _ => pts_nil) (fun _ _ _ _ _ => (pe_callTy (T := "tuple") (r := rTupOf K) tupK (by rfl) T.n_tuple (by decide +kernel) (pa_cons (pe_lc (own := [("one", 4), ("other", 5)]) rfl sc_Web_keep.nd (pi_tup2 (K := K) (pv 2)) (blkOk_by (N := ["self", "many", "every", "name", "one", "other"]) (sc := relS (lcScope (asgVal ((defBody s_Web_keep).getD 3 (.Pass ⟨0, 0, 0, 0⟩)))) (defScope s_Web_keep)) (own := [("one", 4), ("other", 5)]) (by decide +kernel)) (fun _ _ _ _ _ => (pg_tup2 (K := K) (n := 2) rfl (pgs_cons (pg_name (i := 4) sc_Web_keep.nd rfl (Or.inl rfl)) (pgs_cons (pg_name (i := 5) sc_Web_keep.nd rfl (Or.inl rfl)) pgs_nil)))) (fun _ _ _ _ _ => (pts_one (pt_cmpR op_eq (pv 4) (pv 3) (nomark _)))) (fun _ _ _ _ _ => (pv 5))) pa_nil)))) rfl))))), ?_⟩
  obtain ⟨r1, r2⟩ := rng_ok (n := n) (by omega)
  have hxl : xs.length = ps.length := Paired.length hp
  refine ⟨_, rfl, _, rfl, x, C, dx, [], rfl, hx, cl, na.1, (by decide), ?_⟩
  rw [pf1]
  refine ⟨_, rfl, _, rfl, x, C, dx, _, rfl, upd_same, cl, na.2.1, (by show 1 < 1000; decide), ?_⟩
  rw [pf2, upd_upd]
  have sB : SameB x H (upd H x (.ins C dx [(("many" : Str), V.int (n : Int)), (("befores" : Str), V.ref e)])) := sameB_upd
  have t2 := sB.tk hx
  have he2 := t2 _ _ he
  have hx2 : upd H x (.ins C dx [(("many" : Str), V.int (n : Int)), (("befores" : Str), V.ref e)]) x = some (.ins C dx [(("many" : Str), V.int (n : Int)), (("befores" : Str), V.ref e)]) := upd_same
  generalize upd H x (.ins C dx [(("many" : Str), V.int (n : Int)), (("befores" : Str), V.ref e)]) = G2 at sB t2 he2 hx2 ⊢
  refine ⟨_, rfl, _, rfl, r1, r2, fun D hD => ?_⟩
  refine lc_gen (List.range n) (fun _ => true) (aheadOf ps) Tn (fun _ _ _ _ t h => h.tk t) (G := fun _ => True) (by rw [List.length_range]; exact walk_rng) (by rw [List.length_range]; omega) hD (fun _ _ => trivial) ?_ ?_
  · rintro i k x0 G30 G3 hi s3 ⟨rfl, rfl⟩ Kc Kn kc kn
    have hk : k = i := by
      have := (List.getElem?_eq_some_iff.mp hi).2
      rw [List.getElem_range] at this
      exact this.symm
    subst hk
    have he3 := s3 _ _ he2
    refine ⟨rfl, ?_⟩
    refine ⟨_, rfl, e, rfl, ⟨xs, .inl (.inl he3)⟩, fun D2 hD2 => ?_⟩
    refine lc_gen ps (fun p => snd2 p == k) fst2 (fun _ v b => v = nm b) (fun _ _ _ _ _ h => h) (walk_tupN hxl) (by omega) hD2 (fun H' s' => .inl (.inl (s' _ _ he3))) ?_ ?_
    · rintro i2 p x2 G50 G5 hi2 s5 ⟨rfl, hx2⟩ Kc2 Kn2 kc2 kn2
      obtain ⟨p', hp', htn⟩ := Pd.get hp hx2
      rw [hi2] at hp'
      cases hp'
      obtain ⟨i1, j1, rfl, b1, c1⟩ := hpr p (List.mem_of_getElem? hi2)
      obtain ⟨t2, rfl, ht2⟩ := (htn.tk t2).tk (tk_of (s3.trans s5))
      refine ⟨t2, [nm i1, nm j1], rfl, .inl (.inl ht2), rfl, _, _, rfl, _, _, rfl, rfl, rfl, _, rfl, _, rfl, rfl, _, rfl, ?_⟩
      refine ite2 (fun c => ⟨_, rfl, kc2 ?_ _ _ (fun _ _ z => z) rfl⟩) (fun c => kn2 ?_ _ fun _ _ z => z)
      · have := nm_inj (of_decide_eq_true c)
        subst this
        exact beq_self_eq_true _
      · refine beq_eq_false_iff_ne.mpr fun z => c (decide_eq_true ?_)
        have z : j1 = k := z
        rw [z]
    · intro G6 ys s6 hys hpr6
      have ey := Pd.eq_map (f := nm) hpr6
      subst ey
      exact ⟨D2, _, rfl, .inl ⟨.inl (.inl hys), fun l hl => kc rfl _ _ (s6.trans (same_new hl)) tn_new⟩⟩
  intro G4 ys s4 hys hpr4
  rw [List.filter_eq_self.mpr (fun _ _ => rfl)] at hpr4
  have hx4 := s4 _ _ hx2
  have hDx : D ≠ x := fun z => by rw [z, hx4] at hys; cases hys
  refine ⟨_, rfl, x, C, dx, _, rfl, hx4, cl, na.2.2.1, (by show 2 < 1000; decide), ?_⟩
  rw [pf3]
  have sB5 : SameB x H (upd G4 x (.ins C dx [(("many" : Str), V.int (n : Int)), (("befores" : Str), V.ref e), (("ahead" : Str), V.ref D)])) := (sB.trans (.of s4)).trans sameB_upd
  have t5 := sB5.tk hx
  have he5 := t5 _ _ he
  have hx5 : upd G4 x (.ins C dx [(("many" : Str), V.int (n : Int)), (("befores" : Str), V.ref e), (("ahead" : Str), V.ref D)]) x = some (.ins C dx [(("many" : Str), V.int (n : Int)), (("befores" : Str), V.ref e), (("ahead" : Str), V.ref D)]) := upd_same
  have lt5 : Lt (upd G4 x (.ins C dx [(("many" : Str), V.int (n : Int)), (("befores" : Str), V.ref e), (("ahead" : Str), V.ref D)])) D ((List.range n).map (aheadOf ps)) :=
    ⟨ys, by rw [upd_ne hDx]; exact hys, tns_tk hpr4 ((sameB_upd (x := x)).tk hx4)⟩
  generalize upd G4 x (.ins C dx [(("many" : Str), V.int (n : Int)), (("befores" : Str), V.ref e), (("ahead" : Str), V.ref D)]) = G5 at sB5 t5 he5 hx5 lt5 ⊢
  refine ⟨_, rfl, _, rfl, r1, r2, fun E hE => ?_⟩
  refine lc_gen (List.range n) (fun _ => true) (laterOf ps) Tn (fun _ _ _ _ t h => h.tk t) (G := fun _ => True) (by rw [List.length_range]; exact walk_rng) (by rw [List.length_range]; omega) hE (fun _ _ => trivial) ?_ ?_
  · rintro i k x0 G30 G3 hi s3 ⟨rfl, rfl⟩ Kc Kn kc kn
    have hk : k = i := by
      have := (List.getElem?_eq_some_iff.mp hi).2
      rw [List.getElem_range] at this
      exact this.symm
    subst hk
    have he3 := s3 _ _ he5
    refine ⟨rfl, ?_⟩
    refine ⟨_, rfl, e, rfl, ⟨xs, .inl (.inl he3)⟩, fun D2 hD2 => ?_⟩
    refine lc_gen ps (fun p => fst2 p == k) snd2 (fun _ v b => v = nm b) (fun _ _ _ _ _ h => h) (walk_tupN hxl) (by omega) hD2 (fun H' s' => .inl (.inl (s' _ _ he3))) ?_ ?_
    · rintro i2 p x2 G50 G5 hi2 s5 ⟨rfl, hx2⟩ Kc2 Kn2 kc2 kn2
      obtain ⟨p', hp', htn⟩ := Pd.get hp hx2
      rw [hi2] at hp'
      cases hp'
      obtain ⟨i1, j1, rfl, b1, c1⟩ := hpr p (List.mem_of_getElem? hi2)
      obtain ⟨t2, rfl, ht2⟩ := (htn.tk t5).tk (tk_of (s3.trans s5))
      refine ⟨t2, [nm i1, nm j1], rfl, .inl (.inl ht2), rfl, _, _, rfl, _, _, rfl, rfl, rfl, _, rfl, _, rfl, rfl, _, rfl, ?_⟩
      refine ite2 (fun c => ⟨_, rfl, kc2 ?_ _ _ (fun _ _ z => z) rfl⟩) (fun c => kn2 ?_ _ fun _ _ z => z)
      · have := nm_inj (of_decide_eq_true c)
        subst this
        exact beq_self_eq_true _
      · refine beq_eq_false_iff_ne.mpr fun z => c (decide_eq_true ?_)
        have z : i1 = k := z
        rw [z]
    · intro G6 ys s6 hys hpr6
      have ey := Pd.eq_map (f := nm) hpr6
      subst ey
      exact ⟨D2, _, rfl, .inl ⟨.inl (.inl hys), fun l hl => kc rfl _ _ (s6.trans (same_new hl)) tn_new⟩⟩
  intro G7 zs s7 hzs hpr7
  have hx7 := s7 _ _ hx5
  have hEx : E ≠ x := fun z => by rw [z, hx7] at hzs; cases hzs
  refine ⟨_, rfl, x, C, dx, _, rfl, hx7, cl, na.2.2.2, (by show 3 < 1000; decide), ?_⟩
  rw [pf4]
  have lt7 := lt5.same s7
  have sB8 : SameB x H (upd G7 x (.ins C dx (flds n e D (.ref E)))) := (sB5.trans (.of s7)).trans sameB_upd
  refine q _ (flds n e D (.ref E)) sB8 upd_same ⟨e, D, _, rfl, ⟨xs, sB8.tk hx _ _ he, tns_tk hp (sB8.tk hx)⟩, ?_⟩
  obtain ⟨ys7, g1, g2⟩ := lt7
  exact ⟨ys7, by rw [upd_ne hDx]; exact g1, tns_tk g2 ((sameB_upd (x := x)).tk hx7)⟩
end
end Ev

set_option maxRecDepth 100000
set_option maxHeartbeats 4000000
namespace Ev
open PySem PySem.Spec PyProof.Rows L2 EvM
/-! ### rows as data -/
def rowD (r : List Nat) : PyData := .tuple (r.map fun n : Nat => .int (n : Int))
theorem eqvAll_map {α : Type} [DecidableEq α] (f : α → PyData) (h : ∀ a b, PyData.eqv (f a) (f b) = decide (a = b)) : ∀ l m : List α, PyData.eqvAll (l.map f) (m.map f) = decide (l = m)
  | [], [] => by simp [PyData.eqvAll]
  | [], _ :: _ => by simp [PyData.eqvAll]
  | _ :: _, [] => by simp [PyData.eqvAll]
  | a :: l, b :: m => by
    rw [List.map_cons, List.map_cons]
    unfold PyData.eqvAll
    rw [h, eqvAll_map f h l m]
    by_cases e : a = b
    · by_cases e2 : l = m
      · simp [e, e2]
      · simp [e, e2]
    · simp [e]
theorem eqv_row (r q : List Nat) : PyData.eqv (rowD r) (rowD q) = decide (r = q) := by
  unfold rowD PyData.eqv
  refine eqvAll_map _ (fun a b => ?_) r q
  unfold PyData.eqv
  by_cases e : a = b
  · simp [e]
  · have h : ((a : Int) == (b : Int)) = false := beq_eq_false_iff_ne.mpr fun z => e (by omega)
    rw [h, decide_eq_false e]
theorem eqv_rows (ps qs : List (List Nat)) : PyData.eqv (.tuple (ps.map rowD)) (.tuple (qs.map rowD)) = decide (ps = qs) := by
  unfold PyData.eqv
  exact eqvAll_map _ eqv_row ps qs
theorem lay_map {α : Type} (f : α → PyData) (h : ∀ a, (f a).canLay0 = true) : ∀ l : List α, PyData.canLayAll0 (l.map f) = true
  | [] => by simp [PyData.canLayAll0]
  | a :: l => by simp [PyData.canLayAll0, h a, lay_map f h l]
theorem depth_map {α : Type} (f : α → PyData) (d : Nat) (h : ∀ a, (f a).depth ≤ d) : ∀ l : List α, PyData.depthAll (l.map f) ≤ d
  | [] => by simp [PyData.depthAll]
  | a :: l => by
    have := h a
    have := depth_map f d h l
    simp [PyData.depthAll]
    omega
theorem lay_row (r : List Nat) : (rowD r).canLay0 = true := by
  unfold rowD
  simp only [PyData.canLay0]
  exact lay_map _ (fun a => by simp [PyData.canLay0]) r
theorem depth_row (r : List Nat) : (rowD r).depth ≤ 1 := by
  unfold rowD
  simp only [PyData.depth]
  have := depth_map (fun n : Nat => PyData.int (n : Int)) 0 (fun a => by simp [PyData.depth]) r
  omega
theorem shaped_row (r : List Nat) : SeqAt.shaped (rowD r) = true := by
  unfold SeqAt.shaped
  rw [lay_row, Bool.true_and]
  have := depth_row r
  exact decide_eq_true (by omega)
theorem lay_rows (ps : List (List Nat)) : PyData.canLayAll0 (ps.map rowD) = true := lay_map _ lay_row ps
theorem depth_rows (ps : List (List Nat)) : PyData.depthAll (ps.map rowD) ≤ 1 := depth_map _ 1 depth_row ps
theorem shaped_rows (ps : List (List Nat)) : SeqAt.shaped (.tuple (ps.map rowD)) = true := by
  unfold SeqAt.shaped
  have := depth_rows ps
  simp only [PyData.canLay0, PyData.depth, lay_rows, Bool.true_and]
  exact decide_eq_true (by omega)
theorem shaped_list (ps : List (List Nat)) : SeqAt.shaped (.list (ps.map rowD)) = true := by
  unfold SeqAt.shaped
  have := depth_rows ps
  simp only [PyData.canLay0, PyData.depth, lay_rows, Bool.true_and]
  exact decide_eq_true (by omega)
theorem shaped_told (k : Int) (ps : List (List Nat)) : SeqAt.shaped (.tuple [.int k, .tuple (ps.map rowD)]) = true := by
  unfold SeqAt.shaped
  have := depth_rows ps
  simp only [PyData.canLay0, PyData.canLayAll0, PyData.depth, PyData.depthAll, lay_rows, Bool.true_and]
  exact decide_eq_true (by omega)
theorem eqv_told (k j : Int) (ps qs : List (List Nat)) : PyData.eqv (.tuple [.int k, .tuple (ps.map rowD)]) (.tuple [.int j, .tuple (qs.map rowD)]) = (decide (k = j) && decide (ps = qs)) := by
  have := eqv_rows ps qs
  simp only [PyData.eqv, PyData.eqvAll] at this ⊢
  rw [this]
  by_cases e : k = j <;> simp [e]
theorem any_row (ps : List (List Nat)) (r : List Nat) : ((ps.map rowD).any fun z => PyData.eqv z (rowD r)) = decide (r ∈ ps) := by
  rw [List.any_map]
  induction ps with
  | nil => simp
  | cons p ps ih =>
    rw [List.any_cons, ih]
    show (PyData.eqv (rowD p) (rowD r) || _) = _
    rw [eqv_row]
    by_cases e : p = r
    · simp [e]
    · have : ¬ r = p := fun z => e z.symm
      simp [e, this]
section
variable {K : PySem.W.Frag} {H : Hp}
theorem dpAll_ints : ∀ r : List Nat, DpAll K H (r.map nm) (r.map fun n : Nat => .int (n : Int))
  | [] => .nil
  | n :: r => .cons (.int _) (dpAll_ints r)
theorem dp_row {v : V} {r : List Nat} (h : Tr H v r) : Dp K H v (rowD r) := by
  obtain ⟨a, rfl, ha⟩ := h
  exact .tup (.inl ha) (dpAll_ints r)
theorem dpAll_rows : ∀ {xs : List V} {rs : List (List Nat)}, Paired (Tr H) xs rs → DpAll K H xs (rs.map rowD)
  | _, _, .nil => .nil
  | _, _, .cons h t => .cons (dp_row h) (dpAll_rows t)
theorem dp_tt {a : Addr} {rs : List (List Nat)} (h : Tt H a rs) : Dp K H (.ref a) (.tuple (rs.map rowD)) := by
  obtain ⟨xs, ha, hp⟩ := h
  exact .tup (.inl (.inl ha)) (dpAll_rows (tns_r hp))
theorem dp_lt {a : Addr} {rs : List (List Nat)} (h : Lt H a rs) : Dp K H (.ref a) (.list (rs.map rowD)) := by
  obtain ⟨xs, ha, hp⟩ := h
  exact .lst (.inl (.inl ha)) (dpAll_rows (tns_r hp))
end
theorem dp_seq {K : PySem.W.Frag} {H : Hp} {a : Addr} {xs : List V} {rs : List (List Nat)} (hp : Paired (Tr H) xs rs) : (H a = some (.lst xs) → Dp K H (.ref a) (.list (rs.map rowD))) ∧ (Rd H a (.tup xs) → Dp K H (.ref a) (.tuple (rs.map rowD))) :=
  ⟨fun ha => .lst (.inl (.inl ha)) (dpAll_rows hp), fun ha => .tup (.inl ha) (dpAll_rows hp)⟩
/-- rows in a list or a tuple -/
def LTt (H : Hp) (a : Addr) (rs : List (List Nat)) : Prop := ∃ xs, (H a = some (.lst xs) ∨ Rd H a (.tup xs)) ∧ Paired (Tr H) xs rs
theorem LTt.same {H H' : Hp} {a : Addr} {rs : List (List Nat)} (h : LTt H a rs) (s : Same H H') : LTt H' a rs := by
  obtain ⟨xs, e, p⟩ := h
  exact ⟨xs, e.imp (s _ _) (fun h => Rd.same h s), trs_same p s⟩
/-- x not in a list or a tuple of rows -/
def rNotInR (K : PySem.W.Frag) : R2 := fun x y H Q => ∃ a r rs, y = .ref a ∧ Tr H x r ∧ LTt H a rs ∧ Q (.bl (!decide (r ∈ rs))) H
theorem op_notInR {X : Cx} (hu : X.A.units + 65 < cLine) : OpR X (compareOp .NotIn) (rNotInR X.K) := by
  intro pins s σ H x y v u Q I rx ry h
  obtain ⟨a, r, rs, rfl, hx, hy, q⟩ := h
  have e : (!((rs.map rowD).any fun z => PyData.eqv z (rowD r))) = !decide (r ∈ rs) := by rw [any_row]
  obtain ⟨as, r1⟩ := Dp.reads I _ x v (dp_row hx) rx
  obtain ⟨xs, hy, hp⟩ := hy
  rcases hy with hy | hy
  · obtain ⟨bs, r2⟩ := Dp.reads I _ _ u ((dp_seq hp).1 hy) ry
    exact SeqAt.notIn_list_reads r2 r1 (SeqAt.canLay_of_shaped (shaped_list rs)) (SeqAt.canLay_of_shaped (shaped_row r)) (room_in_shaped (shaped_row r) hu) ⟨.bl _, H, I, rfl, by rw [e]; exact q⟩
  · obtain ⟨bs, r2⟩ := Dp.reads I _ _ u ((dp_seq hp).2 hy) ry
    exact SeqAt.notIn_tuple_reads r2 r1 (SeqAt.canLay_of_shaped (shaped_rows rs)) (SeqAt.canLay_of_shaped (shaped_row r)) (room_in_shaped (shaped_row r) hu) ⟨.bl _, H, I, rfl, by rw [e]; exact q⟩
end Ev

set_option maxRecDepth 100000
set_option maxHeartbeats 4000000
namespace Ev
open PySem PySem.Spec PyProof.Rows L2 EvM
/-- a statement that is never reached -/
theorem ps_no {X : Cx} {st : Stmt} : PS X st (fun _ _ _ => False) := ⟨fun _ _ _ _ _ _ h => h.elim⟩
theorem tt_keep {H H' : Hp} {a : Addr} {rs : List (List Nat)} (h : Tt H a rs) (t : TK H H') : Tt H' a rs := h.tk t
section
variable {P : Program} {w : World} {K : PySem.W.Frag} {mg : Str → Option Value} {base : Heap} {ad : Ad}
def spRawI (K : PySem.W.Frag) (ad : Ad) : Sp := fun vs H Q _ => ∃ x dx e n ps, vs = [.ref x, .int ((n : Nat) : Int), .ref e] ∧ H x = some (.ins ad.CR dx []) ∧ Tt H e ps ∧ Pr n ps ∧ n ≤ 8 ∧ ps.length < 64 ∧
  ∀ H' fs, SameB x H H' → H' x = some (.ins ad.CR dx fs) → WebF H' fs n ps → Q .non H'
theorem ok_RawWeb_init (T : Txt K mg) (F : Cf K mg ad) : ∃ fd, FnOk P w K mg base CX0 2 ad.fR fd ["self", "many", "every"] (spRawI K ad) ∧ Binds K fd ["self", "many", "every"] [] := by
  obtain ⟨fdK, GK, bK⟩ := ok_keep (P := P) (w := w) (base := base) T F
  refine F.dR.ok sc_RawWeb_init (fun vs H Q E h => ?_) (fun cdv A outer s H vs Q E hr h => ?_)
  · obtain ⟨x, dx, e, n, ps, rfl, _⟩ := h
    rfl
  obtain ⟨x, dx, e, n, ps, rfl, hx, he, hpr, hn, hz, q⟩ := h
  refine ⟨_, (pss_one (ps_expr (pe_meth (pv 0) F.cR F.eR GK (hr.mono (by decide)) bK .nil pass0 (pa_cons (pv 1) (pa_cons (pv 2) pa_nil))))), ?_⟩
  exact ⟨_, rfl, x, dx, [], rfl, hx, rfl, _, rfl, _, rfl, x, ad.CR, dx, e, n, ps, rfl, .inr rfl, hx, he, hpr, hn, hz, fun H' fs s h1 h2 => q H' fs s h1 h2⟩
def spWebI (K : PySem.W.Frag) (ad : Ad) : Sp := fun vs H Q _ => ∃ x dx e n ps, vs = [.ref x, .int ((n : Nat) : Int), .ref e] ∧ H x = some (.ins ad.CW dx []) ∧ Tt H e ps ∧ Po n ps ∧ 1 ≤ n ∧ n ≤ 8 ∧ ps.length < 64 ∧
  ∀ H' fs, SameB x H H' → H' x = some (.ins ad.CW dx fs) → WebF H' fs n ps → Q .non H'
theorem ok_Web_init (T : Txt K mg) (F : Cf K mg ad) : ∃ fd, FnOk P w K mg base CX0 5 ad.fW fd ["self", "many", "befores"] (spWebI K ad) ∧ Binds K fd ["self", "many", "befores"] [] := by
  obtain ⟨fdK, GK, bK⟩ := ok_keep (P := P) (w := w) (base := base) T F
  refine F.dW.ok sc_Web_init (fun vs H Q E h => ?_) (fun cdv A outer s H vs Q E hr h => ?_)
  · obtain ⟨x, dx, e, n, ps, rfl, _⟩ := h
    rfl
  obtain ⟨x, dx, e, n, ps, rfl, hx, he, hpo, hn1, hn, hz, q⟩ := h
  refine ⟨_, (pss_cons (ps_if (pt_not (pt_val (pe_fn (ok_is_within T) hr (by decide) rfl (pa_cons (pv 1) (pa_cons pe_int (pa_cons (pe_gl (v := .int 8) rfl T.g_MOST_NAMES) pa_nil)))))) (pss_one ps_no) pss_nil)
  (pss_cons (ps_if (pt_not (pt_val (pe_fn (ok_are_befores T) hr (by decide) rfl (pa_cons (pv 1) (pa_cons (pv 2) pa_nil))))) (pss_one ps_no) pss_nil)
  (pss_cons (ps_set (i := 3) sc_Web_init.nd rfl (Or.inl rfl) (pe_fn (ok_closed T) hr (by decide) rfl (pa_cons (pv 1) (pa_cons (pv 2) pa_nil))))
  (pss_cons (ps_if (pt_cmpR op_isN (pv 3) pe_non (nomark _)) (pss_one ps_no) pss_nil)
  (pss_one (ps_expr (pe_meth (pv 0) F.cW F.eW GK (hr.mono (by decide)) bK .nil pass0 (pa_cons (pv 1) (pa_cons (pv 3) pa_nil))))))))), ?_⟩
  refine ⟨_, rfl, _, 1, 8, some (n : Int), rfl, rfl, _, rfl, ?_⟩
  have e1 : inside 1 8 (some (n : Int)) = true := by
    unfold inside
    rw [Bool.and_eq_true]
    exact ⟨decide_eq_true (by omega), decide_eq_true (by omega)⟩
  rw [e1]
  refine iteF ?_
  refine ⟨_, rfl, _, rfl, e, ps, n, rfl, he, hpo.pr, (fun i => hpo.irr), by omega, by omega, hpo.up, fun H1 s1 => ⟨_, rfl, iteF ?_⟩⟩
  refine ⟨_, rfl, _, rfl, e, ps, n, rfl, he.same s1, hpo, hn, hz, fun H2 b s2 hb => ?_⟩
  refine ⟨_, rfl, rfl, _, rfl, ?_⟩
  rw [decide_eq_false (by simp)]
  refine iteF ?_
  have hx2 := s2 _ _ (s1 _ _ hx)
  refine ⟨_, rfl, x, dx, [], rfl, hx2, rfl, _, rfl, _, rfl, x, ad.CW, dx, b, n, ps, rfl, .inl rfl, hx2, hb, hpo.pr, hn, hz, fun H' fs s h1 h2 => ?_⟩
  exact q H' fs ((SameB.of (s1.trans s2)).trans s) h1 h2
/-! ### == of webs -/
def spWebEq (ad : Ad) : Sp := fun vs H Q _ => ∃ x y n m ps qs, vs = [.ref x, .ref y] ∧ IsWeb ad.CR H x n ps ∧ IsWeb ad.CW H y m qs ∧ Q (.bl (decide (n = m) && decide (ps = qs))) H
theorem ok_Web_eq (T : Txt K mg) (F : Cf K mg ad) : ∃ fd, FnOk P w K mg base CX0 1 ad.fE fd ["self", "other"] (spWebEq ad) ∧ Binds K fd ["self", "other"] [] := by
  refine F.dE.ok sc_Web_eq (fun vs H Q E h => ?_) (fun cdv A outer s H vs Q E hr h => ?_)
  · obtain ⟨x, y, n, m, ps, qs, rfl, _⟩ := h
    rfl
  obtain ⟨x, y, n, m, ps, qs, rfl, ⟨dx, fs, hx, b, l, mm, rfl, hb, hl⟩, ⟨dy, gs, hy, b2, l2, mm2, rfl, hb2, hl2⟩, q⟩ := h
  refine ⟨_, (pss_one (ps_ret (pe_and (pe_callB (C8.call_isC F.iW) (by rfl) T.n_isinstance (by decide +kernel) (pa_cons (pv 1) (pa_cons (pe_gl (v := .ref ad.CW) rfl ⟨_, F.mW, rfl⟩) pa_nil))) (pe_and (pe_cmpR op_eq (pe_fld (pv 0) rfl) (pe_fld (pv 1) rfl) (nomark _)) (pe_one (pe_cmpR (op_eqD hr.units) (pe_fld (pv 0) rfl) (pe_fld (pv 1) rfl) (nomark _))))))), ?_⟩
  refine ⟨_, rfl, y, dy, _, rfl, hy, _, rfl, iteT ?_⟩
  refine ⟨_, rfl, x, ad.CR, dx, _, _, rfl, hx, F.cR, F.nR.1, lk_many, _, rfl, y, ad.CW, dy, _, _, rfl, hy, F.cW, F.nW.1, lk_many, rfl, _, rfl, ?_⟩
  rw [int_eq]
  cases c : decide (n = m) with
  | false =>
    rw [c, Bool.false_and] at q
    exact iteF q
  | true =>
    rw [c, Bool.true_and] at q
    refine iteT ?_
    refine ⟨_, rfl, x, ad.CR, dx, _, _, rfl, hx, F.cR, F.nR.2.1, lk_befores, _, rfl, y, ad.CW, dy, _, _, rfl, hy, F.cW, F.nW.2.1, lk_befores, ?_⟩
    refine ⟨_, _, dp_tt hb, dp_tt hb2, shaped_rows _, shaped_rows _, ?_⟩
    rw [eqv_rows]
    exact q
/-! ### raw_web -/
def spRaw (ad : Ad) : Sp := fun vs H Q _ => ∃ e n ks ps, vs = [.int ((n : Nat) : Int), .ref e] ∧ Lt H e ks ∧ Pr n ks ∧ ks.Nodup ∧ n ≤ 8 ∧ ks.length < 64 ∧ Up ps ∧ (∀ p, p ∈ ps ↔ p ∈ ks) ∧
  ∀ H' x, Same H H' → IsWeb ad.CR H' x n ps → Q (.ref x) H'
theorem ok_raw_web (T : Txt K mg) (F : Cf K mg ad) : Cal P w K mg base CX0 4 "raw_web" (spRaw ad) := by
  obtain ⟨fdR, GR, bR⟩ := ok_RawWeb_init (P := P) (w := w) (base := base) T F
  refine T.d_raw_web.ok sc_raw_web (fun vs H Q E h => ?_) (fun f cdv A outer s H vs Q E hr h => ?_)
  · obtain ⟨e, n, ks, ps, rfl, _⟩ := h
    rfl
  obtain ⟨e, n, ks, ps, rfl, ⟨xs, he, hp⟩, hpr, nd, hn, hz, hup, hmem, q⟩ := h
  refine ⟨_, (pss_one (ps_ret (pe_make F.kR GR (hr.mono (by decide)) rfl F.mR bR .nil pass0 (pa_cons (pv 0) (pa_cons (pe_callTy call_tuple_of (by rfl) T.n_tuple (by decide +kernel) (pa_cons (pe_callB (cr_sortT (d := 2) (B := 64) (by decide)) (by rfl) T.n_sorted (by decide +kernel) (pa_cons (pe_callTy call_list_of (by rfl) T.n_list (by decide +kernel) (pa_cons (pv 1) pa_nil)) pa_nil)) pa_nil)) pa_nil))))), ?_⟩
  refine ⟨_, rfl, _, rfl, e, xs, rfl, .inl (.inl (.inl he)), fun l hl => ?_⟩
  dsimp only [tNil]
  have s1 : Same H (upd H l (.lst xs)) := same_new hl
  refine sortU_pairs (.inl (.inl upd_same)) (tns_tk hp (tk_of s1)) (n := n) (by omega) hpr nd hz fun ys ks' p hf h1 h2 h3 => ?_
  have ek : ks' = ps := up_eq h3 hup fun z => (h2.mem_iff).trans (hmem z).symm
  subst ek
  have s2 := s1.trans (same_new (o := .lst ys) hf)
  refine ⟨p, ys, rfl, .inl ⟨.inl (.inl upd_same), fun b hb => ?_⟩⟩
  have htt := tt_new hb (tns_tk h1 (tk_of (same_new (o := .lst ys) hf)))
  have s3 := s2.trans (same_new (o := .tup ys) hb)
  intro x dx hx hdx hne
  have s4 : Same _ _ := (same_new (o := .own x) hdx).trans (same_new (o := .ins ad.CR dx []) (p := x) (by rw [upd_ne (Ne.symm hne)]; exact hx))
  refine ⟨x, dx, b, n, ks', rfl, upd_same, htt.same s4, fun k hk => hpr k (h2.mem_iff.mp hk), hn, by rw [h2.length_eq]; exact hz, fun H' fs sB hx' hw => ⟨rfl, q H' x (fun c u hc => ?_) ⟨dx, fs, hx', hw⟩⟩⟩
  have hcx : c ≠ x := fun z => by
    have := s3 _ _ hc
    rw [z, hx] at this
    cases this
  exact sB c u hcx (s4 _ _ (s3 _ _ hc))
end
end Ev

set_option maxRecDepth 100000
set_option maxHeartbeats 4000000
namespace Ev
open PySem PySem.Spec PyProof.Rows L2 EvM
theorem nm_flat (i : Nat) : flatV (nm i) = true := rfl
theorem nms_flat (r : List Nat) : (r.map nm).all flatV = true := by
  rw [List.all_map]
  exact List.all_eq_true.mpr fun _ _ => rfl
theorem inV_nm (i : Nat) (r : List Nat) : inV (nm i) (r.map nm) = r.contains i := by
  unfold inV
  rw [List.any_map]
  induction r with
  | nil => rfl
  | cons a r ih =>
    rw [List.any_cons, ih, List.contains_cons]
    congr 1
    show ((a : Int) == (i : Int)) = (i == a)
    by_cases e : a = i
    · simp [e]
    · have h1 : ((a : Int) == (i : Int)) = false := beq_eq_false_iff_ne.mpr fun z => e (by omega)
      have h2 : (i == a) = false := beq_eq_false_iff_ne.mpr fun z => e z.symm
      rw [h1, h2]
theorem range_snoc (i : Nat) : List.range (i + 1) = List.range i ++ [i] := List.range_succ
/-- names that are found, one by one -/
theorem filter_snoc (f : Nat → Bool) (i : Nat) : (List.range (i + 1)).filter f = (List.range i).filter f ++ (if f i = true then [i] else []) := by
  rw [range_snoc, List.filter_append, List.filter_cons]
  rfl
theorem filter_len (f : Nat → Bool) (i : Nat) : ((List.range i).filter f).length ≤ i := by
  have := List.length_filter_le f (List.range i)
  rwa [List.length_range] at this
section
variable {P : Program} {w : World} {K : PySem.W.Frag} {mg : Str → Option Value} {base : Heap} {ad : Ad}
def spFree (ad : Ad) : Sp := fun vs H Q _ => ∃ C x v n ps r, vs = [.ref x, v] ∧ (C = ad.CW ∨ C = ad.CR) ∧ IsWeb C H x n ps ∧ Tn H v r ∧ n ≤ 8 ∧ ps.length < 64 ∧
  ∀ H' b, Same H H' → H' b = some (.lst ((free n ps r).map nm)) → Q (.ref b) H'
theorem clsOf {C : Addr} (F : Cf K mg ad) (h : C = ad.CW ∨ C = ad.CR) : Cls K C ∧ NoAttr K C "many" ∧ NoAttr K C "befores" ∧ NoAttr K C "ahead" ∧ NoAttr K C "later" := by
  rcases h with rfl | rfl
  · exact ⟨F.cW, F.nW⟩
  · exact ⟨F.cR, F.nR⟩
theorem ahead_len (ps : Ps) (x : Nat) : (aheadOf ps x).length ≤ ps.length := by
  unfold aheadOf
  rw [List.length_map]
  exact List.length_filter_le _ _
theorem ok_free_names (T : Txt K mg) (F : Cf K mg ad) : Cal P w K mg base CX0 1 "free_names" (spFree ad) := by
  refine T.d_free_names.ok sc_free_names (fun vs H Q E h => ?_) (fun f cdv A outer s H vs Q E hr h => ?_)
  · obtain ⟨C, x, v, n, ps, r, rfl, _⟩ := h
    rfl
  obtain ⟨C, x, v, n, ps, r, rfl, hC, hw, ⟨a, rfl, ha⟩, hn, hz, q⟩ := h
  obtain ⟨cl, na1, na2, na3, na4⟩ := clsOf F hC
  refine ⟨_, (pss_cons (ps_set (i := 2) sc_free_names.nd rfl (Or.inl rfl) (pe_lst pa_nil))
  (pss_cons (ps_for PassesOwn.never rfl (pi_range1 (by rfl) T.n_range (pa_cons (pe_fld (pv 0) rfl) pa_nil)) (pg_name (i := 3) sc_free_names.nd rfl (Or.inl rfl))
  (pss_one (ps_if (PW.pt (pw_and (pt_cmpR (r := rIn K true) op_notIn_seq (pv 3) (pv 1) rfl) (pw_and1 (pt_val (pe_callB (cr_all rfl) (by rfl) T.n_all (by decide +kernel) (pa_cons (pe_lc (own := [("other", 4)]) rfl sc_free_names.nd (pi_tup (pe_ix (r := rIxL K) ix_list (pe_fld (pv 0) rfl) (pv 3) (fun _ _ => rfl))) (blkOk_by (N := ["web", "lot", "found", "name", "other"]) (sc := defScope s_free_names) (own := [("other", 4)]) (by decide +kernel)) (fun _ _ _ _ _ => (pg_name (i := 4) sc_free_names.nd rfl (Or.inl rfl))) (fun _ _ _ _ _ => pts_nil) (fun _ _ _ _ _ => (pe_cmpR (r := rIn K false) op_in_seq (pv 4) (pv 1) rfl))) pa_nil)))))) (pss_one (ps_expr (pe_bm PySem.F.plainAttrs_list PySem.F.slot_list_append PySem.F.type_list_append mt_append (pv 2) (pa_cons (pv 3) pa_nil)))) pss_nil)))
  (pss_one (ps_ret (pv 2))))), ?_⟩
  obtain ⟨r1, r2⟩ := rng_ok (n := n) (by omega)
  obtain ⟨dx, fs, hx, b0, l0, m0, rfl, hb0, hl0⟩ := id hw
  refine ⟨(by decide), fun D hD => ?_⟩
  have s0 : Same H (upd H D (.lst [])) := same_new hD
  refine ⟨_, rfl, x, C, dx, _, _, rfl, s0 _ _ hx, cl, na1, lk_many, n, rfl, r1, r2, ?_⟩
  refine for_it walk_rng (fun i σ H' => (∃ t : Option V, σ = [some (.ref x), some (.ref a), some (.ref D), t, none]) ∧ Same H H' ∧ H' D = some (.lst (((List.range i).filter fun y => !r.contains y && (aheadOf ps y).all fun z => r.contains z).map nm))) ⟨⟨_, rfl⟩, s0, upd_same⟩ (fun _ _ _ _ _ => trivial) ?_ ?_
  · rintro i y σ H30 H3 hi ⟨⟨t, rfl⟩, s3, d3⟩ ⟨rfl, rfl⟩
    have ha3 := s3 _ _ ha
    have stay : ∀ {c : Bool} {H' : Hp}, (!r.contains i && (aheadOf ps i).all fun z => r.contains z) = c → c = false → H' D = some (.lst (((List.range i).filter fun y => !r.contains y && (aheadOf ps y).all fun z => r.contains z).map nm)) → H' D = some (.lst (((List.range (i + 1)).filter fun y => !r.contains y && (aheadOf ps y).all fun z => r.contains z).map nm)) := by
      rintro c H' hc rfl h
      rw [filter_snoc, hc]
      simpa using h
    refine ⟨_, rfl, _, rfl, a, _, rfl, .inr (.inl (.inl ha3)), nm_flat i, nms_flat r, _, rfl, ?_⟩
    rw [inV_nm]
    cases c : r.contains i with
    | true => exact iteF ⟨⟨_, rfl⟩, s3, stay (c := false) (by rw [c]; rfl) rfl d3⟩
    | false =>
      refine iteT ?_
      obtain ⟨xs3, g3, p3⟩ := hl0.same s3
      have hlen : i < ((List.range n).map (aheadOf ps)).length := by simpa using hi
      obtain ⟨v3, e3, t3⟩ := Pd.get' p3 (List.getElem?_eq_getElem hlen)
      have t3 : Tn H3 v3 (aheadOf ps i) := by simpa using t3
      obtain ⟨a3, rfl, h3⟩ := t3
      refine ⟨_, rfl, x, C, dx, _, _, rfl, s3 _ _ hx, cl, na3, lk_ahead, _, rfl, l0, xs3, (i : Int), _, rfl, rfl, .inl (.inl g3), atI_nat e3, a3, rfl, ⟨_, .inl (.inl h3)⟩, fun E3 hE3 => ?_⟩
      refine lc_gen (aheadOf ps i) (fun _ => true) (fun z => r.contains z) (fun _ v b => v = .bl b) (fun _ _ _ _ _ h => h) (walk_tupN (by rw [List.length_map])) (by have := ahead_len ps i; omega) hE3 (fun H' s' => .inl (.inl (s' _ _ h3))) ?_ ?_
      · rintro k z x4 H40 H4 hk s4 ⟨rfl, hx4⟩ Kc Kn kc kn
        rw [List.getElem?_map, hk] at hx4
        cases hx4
        refine ⟨rfl, ?_⟩
        refine ⟨_, rfl, _, rfl, a, _, rfl, .inr (.inl (.inl (s4 _ _ ha3))), nm_flat z, nms_flat r, kc rfl _ _ (fun _ _ z => z) ?_⟩
        rw [inV_nm]
        rfl
      · intro H5 ys s5 hys hpr5
        have ey := Pd.eq_map (f := V.bl) hpr5
        subst ey
        refine ⟨E3, _, rfl, .inl (.inl hys), _, rfl, ?_⟩
        rw [all_map]
        have d5 := s5 _ _ d3
        cases c2 : (aheadOf ps i).all fun z => r.contains z with
        | false => exact iteF ⟨⟨_, rfl⟩, s3.trans s5, stay (c := false) (by rw [c, c2]; rfl) rfl d5⟩
        | true =>
          refine iteT ?_
          refine ⟨_, rfl, .inl ⟨rfl, _, .inl (.inl d5)⟩, _, rfl, D, _, _, rfl, rfl, d5, ?_, ⟨_, rfl⟩, same_mut (s3.trans s5) hD, ?_⟩
          · rw [List.length_map]
            have := filter_len (fun y => !r.contains y && (aheadOf ps y).all fun z => r.contains z) i
            exact sz_lt (by omega)
          · rw [upd_same, filter_snoc, c, c2, List.map_append]
            rfl
  · rintro σ H3 ⟨⟨t, rfl⟩, s3, d3⟩
    exact ⟨_, rfl, q H3 D s3 d3⟩
/-! ### with_name -/
def spWith : Sp := fun vs H Q _ => ∃ v r i, vs = [v, nm i] ∧ Tn H v r ∧ r.length ≤ 4000 ∧ ∀ H' y, Same H H' → Tn H' y (srt (r ++ [i])) → Q y H'
theorem ints_perm {l : List Int} {r : List Nat} (h : l.Perm (r.map fun x : Nat => (x : Int))) : ∃ q : List Nat, l = q.map (fun x : Nat => (x : Int)) ∧ q.Perm r := by
  have hp : ∀ z ∈ l, 0 ≤ z := fun z hz => by
    obtain ⟨x, _, rfl⟩ := List.mem_map.mp (h.mem_iff.mp hz)
    omega
  have e1 : (l.map Int.toNat).map (fun x : Nat => (x : Int)) = l := by
    rw [List.map_map]
    conv => rhs; rw [← List.map_id l]
    apply List.map_congr_left
    intro z hz
    exact Int.toNat_of_nonneg (hp z hz)
  refine ⟨l.map Int.toNat, e1.symm, ?_⟩
  have h2 := h.map Int.toNat
  rw [List.map_map] at h2
  have e2 : r.map (Int.toNat ∘ fun x : Nat => (x : Int)) = r := by
    conv => rhs; rw [← List.map_id r]
    apply List.map_congr_left
    intro z _
    rfl
  rw [e2] at h2
  exact h2
theorem ok_with_name (T : Txt K mg) : Cal P w K mg base CX0 1 "with_name" spWith := by
  refine T.d_with_name.ok sc_with_name (fun vs H Q E h => ?_) (fun f cdv A outer s H vs Q E hr h => ?_)
  · obtain ⟨v, r, i, rfl, _⟩ := h
    rfl
  obtain ⟨v, r, i, rfl, ⟨a, rfl, ha⟩, hz, q⟩ := h
  refine ⟨_, (pss_one (ps_ret (pe_callTy call_tuple_of (by rfl) T.n_tuple (by decide +kernel) (pa_cons (pe_callB cr_sortTup (by rfl) T.n_sorted (by decide +kernel) (pa_cons (pe_op (r := rCatA K) op_catA (pv 0) (pe_tup (pa_cons (pv 1) pa_nil))) pa_nil)) pa_nil)))), ?_⟩
  refine ⟨_, rfl, _, rfl, (by show 1 ≤ sizeLine; decide), fun p hp => ?_⟩
  have s1 : Same H (upd H p (.tup [nm i])) := same_new hp
  have fin : ∀ b H2, Same H H2 → H2 b = some (.tup ((r ++ [i]).map nm)) → rSortTup K [.ref b] H2 fun x H3 => tNil [some (.ref a), some (nm i)] H3 fun xs H4 => (fun vs H5 => ∃ p ys, vs = [V.ref p] ∧ ((SqL K H5 p ys ∧ ∀ l, H5 l = none → Q (.ref l) (upd H5 l (.tup ys))) ∨ (SqT K H5 p ys ∧ Q (.ref p) H5))) (x :: xs) H4 := by
    intro b H2 s2 hb
    refine ⟨b, _, rfl, tn_ints hb, fun ns' c hperm hsort hc => ?_⟩
    obtain ⟨q', rfl, hq'⟩ := ints_perm hperm
    have es : q' = srt (r ++ [i]) := srt_eq hq' (by
      refine List.Pairwise.imp ?_ (List.pairwise_map.mp hsort)
      intro a b h
      omega)
    subst es
    refine ⟨c, _, rfl, .inl ⟨.inl (.inl upd_same), fun l hl => ?_⟩⟩
    refine q _ _ (s2.trans ((same_new hc).trans (same_new hl))) ⟨l, rfl, ?_⟩
    rw [upd_same, List.map_map]
    rfl
  refine ⟨a, p, r.map nm, [nm i], rfl, rfl, .inl (.inl (s1 _ _ ha)), .inl (.inl upd_same), ?_, fun e => ?_, fun _ e => absurd e (by simp), fun hne _ c hc => ?_⟩
  · rw [List.length_map]
    exact sz_le (by show r.length + 1 ≤ _; omega)
  · have er : r = [] := List.map_eq_nil_iff.mp e
    subst er
    exact fin p _ s1 upd_same
  · refine fin c _ (s1.trans (same_new hc)) ?_
    rw [upd_same, List.map_append]
    rfl
end
end Ev

set_option maxRecDepth 100000
set_option maxHeartbeats 4000000
namespace Ev
open PySem PySem.Spec PyProof.Rows L2 EvM
theorem none_of {H H1 : Hp} {L : Addr} (s : Same H H1) (h : H1 L = none) : H L = none := by
  cases e : H L with
  | none => rfl
  | some u => rw [s _ _ e] at h; cases h
/-- a tuple and a tuple -/
theorem catV {K : PySem.W.Frag} {H : Hp} {a p : Addr} {xs ys : List V} {Q : VK} (ha : H a = some (.tup xs)) (hp : H p = some (.tup ys)) (hz : xs.length + ys.length ≤ 16777216)
    (q : ∀ H' c, Same H H' → H' c = some (.tup (xs ++ ys)) → Q (.ref c) H') : rCatA K (.ref a) (.ref p) H Q := by
  refine ⟨a, p, xs, ys, rfl, rfl, .inl (.inl ha), .inl (.inl hp), sz_le hz, fun e => ?_, fun _ e => ?_, fun _ _ c hc => ?_⟩
  · subst e
    exact q H p (fun _ _ z => z) hp
  · subst e
    exact q H a (fun _ _ z => z) (by rw [List.append_nil]; exact ha)
  · exact q _ c (same_new hc) upd_same
theorem flat_len {α β : Type} (g : α → List β) (m : Nat) : ∀ l : List α, (∀ a ∈ l, (g a).length ≤ m) → (l.flatMap g).length ≤ l.length * m
  | [], _ => by simp
  | a :: l, h => by
    have h1 := h a (by simp)
    have h2 := flat_len g m l fun b hb => h b (by simp [hb])
    rw [List.flatMap_cons, List.length_append, List.length_cons, Nat.add_mul, Nat.one_mul]
    omega
theorem free_len (n : Nat) (ps : Ps) (r : List Nat) : (free n ps r).length ≤ n := filter_len _ n
theorem ordsK_pow (n : Nat) (ps : Ps) : ∀ k, (ordsK n ps k).length ≤ n ^ k
  | 0 => by simp [ordsK]
  | k + 1 => by
    have h := flat_len (fun r => (free n ps r).map fun x => r ++ [x]) n (ordsK n ps k) fun r _ => by rw [List.length_map]; exact free_len n ps r
    have h2 := ordsK_pow n ps k
    have h3 := Nat.mul_le_mul_right n h2
    show ((ordsK n ps k).flatMap fun r => (free n ps r).map fun x => r ++ [x]).length ≤ n ^ k * n
    omega
theorem pow5 {n k : Nat} (hn : n ≤ 5) (hk : k ≤ 5) : n ^ k ≤ 3125 :=
  Nat.le_trans (Nat.pow_le_pow_left hn k) (Nat.pow_le_pow_right (by decide) hk)
theorem take_flat {α β : Type} (g : α → List β) {l : List α} {i : Nat} {a : α} (h : l[i]? = some a) : (l.take (i + 1)).flatMap g = (l.take i).flatMap g ++ g a := by
  rw [take_snoc h, List.flatMap_append]
  simp
section
variable {P : Program} {w : World} {K : PySem.W.Frag} {mg : Str → Option Value} {base : Heap} {ad : Ad}
def ext1r (n : Nat) (ps : Ps) (r : List Nat) : List (List Nat) := (free n ps r).map fun x => r ++ [x]
theorem lt_nil {H : Hp} {p : Addr} (h : H p = some (.lst [])) : Lt H p [] := ⟨[], h, .nil⟩
def spOrds (ad : Ad) : Sp := fun vs H Q _ => ∃ C x n ps, vs = [.ref x] ∧ (C = ad.CW ∨ C = ad.CR) ∧ IsWeb C H x n ps ∧ n ≤ 5 ∧ ps.length < 64 ∧ ∀ H' b, Same H H' → Lt H' b (ords n ps) → Q (.ref b) H'
theorem ok_all_orders (T : Txt K mg) (F : Cf K mg ad) : Cal P w K mg base CX0 2 "all_orders" (spOrds ad) := by
  refine T.d_all_orders.ok sc_all_orders (fun vs H Q E h => ?_) (fun f cdv A outer s H vs Q E hr h => ?_)
  · obtain ⟨C, x, n, ps, rfl, _⟩ := h
    rfl
  obtain ⟨C, x, n, ps, rfl, hC, hw, hn, hz, q⟩ := h
  obtain ⟨cl, na1, na2, na3, na4⟩ := clsOf F hC
  refine ⟨_, (pss_cons (ps_set (i := 1) sc_all_orders.nd rfl (Or.inl rfl) (pe_lst (pa_cons (pe_tup pa_nil) pa_nil)))
  (pss_cons (ps_for PassesOwn.never rfl (pi_range1 (by rfl) T.n_range (pa_cons (pe_fld (pv 0) rfl) pa_nil)) (pg_name (i := 2) sc_all_orders.nd rfl (Or.inl rfl))
  (pss_cons (ps_set (i := 3) sc_all_orders.nd rfl (Or.inl rfl) (pe_lst pa_nil))
  (pss_cons (ps_for PassesOwn.never rfl (pi_list (pv 1)) (pg_name (i := 4) sc_all_orders.nd rfl (Or.inr rfl))
  (pss_one (ps_expr (pe_bm PySem.F.plainAttrs_list PySem.F.slot_list_extend PySem.F.type_list_extend mt_extend (pv 3) (pa_cons (pe_lc (own := [("name", 5)]) rfl sc_all_orders.nd (pi_list (pe_fn (ok_free_names T F) hr (by decide) rfl (pa_cons (pv 0) (pa_cons (pv 4) pa_nil)))) (blkOk_by (N := ["web", "found", "turn", "later", "row", "name"]) (sc := defScope s_all_orders) (own := [("name", 5)]) (by decide +kernel)) (fun _ _ _ _ _ => (pg_name (i := 5) sc_all_orders.nd rfl (Or.inl rfl))) (fun _ _ _ _ _ => pts_nil) (fun _ _ _ _ _ => (pe_op (r := rCatA K) op_catA (pv 4) (pe_tup (pa_cons (pv 5) pa_nil))))) pa_nil)))))
  (pss_one (ps_set (i := 1) sc_all_orders.nd rfl (Or.inl rfl) (pv 3))))))
  (pss_one (ps_ret (pv 1))))), ?_⟩
  obtain ⟨r1, r2⟩ := rng_ok (n := n) (by omega)
  obtain ⟨dx, fs, hx, b0, l0, m0, rfl, hb0, hl0⟩ := id hw
  refine ⟨(by decide), fun p0 hp0 => ⟨(by show 1 ≤ sizeLine; decide), fun F0 hF0 => ?_⟩⟩
  have s0 : Same H (upd (upd H p0 (.tup [])) F0 (.lst [V.ref p0])) := (same_new hp0).trans (same_new hF0)
  have f0 : Lt (upd (upd H p0 (.tup [])) F0 (.lst [V.ref p0])) F0 (ordsK n ps 0) := lt_new hF0 (.cons (tn_new (r := [])) .nil)
  refine ⟨_, rfl, x, C, dx, _, _, rfl, s0 _ _ hx, cl, na1, lk_many, n, rfl, r1, r2, ?_⟩
  refine for_it walk_rng (fun k σ H' => (∃ (fa : Addr) (t l r : Option V), σ = [some (.ref x), some (.ref fa), t, l, r, none] ∧ Lt H' fa (ordsK n ps k)) ∧ Same H H') ⟨⟨F0, _, _, _, rfl, f0⟩, s0⟩ (fun _ _ _ _ _ => trivial) ?_ ?_
  · rintro k y σ G0 G hk ⟨⟨fa, t, l, r, rfl, hfa⟩, s1⟩ ⟨rfl, rfl⟩
    refine ⟨(by decide), fun L hL => ?_⟩
    obtain ⟨xs, hxs, hps⟩ := hfa
    have hxl : xs.length = (ordsK n ps k).length := Paired.length hps
    have h5 := Nat.le_trans (ordsK_pow n ps k) (pow5 hn (by omega))
    have h6 := Nat.le_trans (ordsK_pow n ps (k + 1)) (pow5 hn (by omega))
    have sL : Same G (upd G L (.lst [])) := same_new hL
    refine ⟨_, rfl, fa, rfl, ⟨xs, .inl (.inl (sL _ _ hxs))⟩, ?_⟩
    refine for_it (walk_listN hxl) (fun i σ H' => (∃ r : Option V, σ = [some (.ref x), some (.ref fa), some (nm k), some (.ref L), r, none]) ∧ Same G H' ∧ Lt H' L (((ordsK n ps k).take i).flatMap (ext1r n ps))) ⟨⟨_, rfl⟩, sL, lt_nil upd_same⟩ (fun i σ H' _ h => .inl (.inl (h.2.1 _ _ hxs))) ?_ ?_
    · rintro i y σ H30 H3 hi ⟨⟨r, rfl⟩, s3, d3⟩ ⟨rfl, hy⟩
      obtain ⟨rr, hrr, htn⟩ := Pd.get hps hy
      have htn3 := htn.tk (tk_of s3)
      have hlen : rr.length = k := ordsK_len (List.mem_of_getElem? hrr)
      obtain ⟨ys, hL3, hp3⟩ := id d3
      have tot := ordsK_pow n ps (k + 1)
      have hacc : ys.length + (free n ps rr).length ≤ 16777216 := by
        have e1 : ys.length = (((ordsK n ps k).take i).flatMap (ext1r n ps)).length := Paired.length hp3
        have e2 := flat_len (ext1r n ps) n ((ordsK n ps k).take i) fun r _ => by unfold ext1r; rw [List.length_map]; exact free_len n ps r
        have e3 := List.length_take_le i (ordsK n ps k)
        have e4 := free_len n ps rr
        have e5 : ((ordsK n ps k).take i).length * n ≤ 3125 * 5 := Nat.mul_le_mul (by rw [List.length_take]; omega) hn
        omega
      refine ⟨_, rfl, .inl ⟨rfl, _, .inl (.inl hL3)⟩, ?_⟩
      refine ⟨_, rfl, _, rfl, C, x, y, n, ps, rr, rfl, hC, (hw.same s1).same s3, htn3, by omega, hz, fun H4 fb s4 hfb => ⟨fb, rfl, ⟨_, .inl (.inl hfb)⟩, fun D hD => ?_⟩⟩
      have hfb' : Same G H4 := s3.trans s4
      refine lc_gen (free n ps rr) (fun _ => true) (fun z => rr ++ [z]) Tn (fun _ _ _ _ t h => h.tk t) (walk_listN (by rw [List.length_map])) (by have := free_len n ps rr; omega) hD (fun H' s' => .inl (.inl (s' _ _ hfb))) ?_ ?_
      · rintro j z x5 H50 H5 hj s5 ⟨rfl, hx5⟩ Kc Kn kc kn
        rw [List.getElem?_map, hj] at hx5
        cases hx5
        refine ⟨rfl, ?_⟩
        obtain ⟨ta, rfl, hta⟩ := (htn3.tk (tk_of s4)).tk (tk_of s5)
        refine ⟨_, rfl, _, rfl, (by show 1 ≤ sizeLine; decide), fun p hp => ?_⟩
        have sp : Same H5 (upd H5 p (.tup [nm z])) := same_new hp
        refine catV (sp _ _ hta) upd_same (by rw [List.length_map]; show rr.length + 1 ≤ _; omega) fun H6 c s6 hc => kc rfl _ _ (sp.trans s6) ⟨c, rfl, ?_⟩
        rw [hc, List.map_append]
        rfl
      · intro H6 zs s6 hzs hpz
        have hL6 := s6 _ _ (s4 _ _ hL3)
        rw [List.filter_eq_self.mpr (fun _ _ => rfl)] at hpz
        have hzl : zs.length = (free n ps rr).length := by rw [Paired.length hpz, List.length_map]
        refine ⟨L, D, ys, zs, rfl, rfl, hL6, hzs, sz_le (by omega), ⟨_, rfl⟩, ?_, ?_⟩
        · exact same_mut ((s3.trans s4).trans s6) hL
        · refine ⟨ys ++ zs, upd_same, ?_⟩
          rw [take_flat _ hrr]
          have t6 : TK H6 (upd H6 L (.lst (ys ++ zs))) := tk_lst hL6
          exact Pd.app (tns_tk (tns_tk hp3 (tk_of (s4.trans s6))) t6) (tns_tk hpz t6)
    · rintro σ H3 ⟨⟨r, rfl⟩, s3, d3⟩
      rw [List.take_length] at d3
      exact ⟨_, rfl, ⟨L, _, _, _, rfl, d3⟩, s1.trans s3⟩
  · rintro σ H3 ⟨⟨fa, t, l, r, rfl, hfa⟩, s3⟩
    exact ⟨_, rfl, q H3 fa s3 hfa⟩
end
end Ev

set_option maxRecDepth 100000
set_option maxHeartbeats 4000000
namespace Ev
open PySem PySem.Spec PyProof.Rows L2 EvM
section
variable {X : Cx}
/-! ### tuples whose object is known -/
def tTupF (t : TA) : TE := fun σ H Q => t σ H fun xs H1 => xs.length ≤ sizeLine ∧ ∀ p o, o.dict = none → H1 p = none → Q (.ref p) (upd H1 p (.frz o (.tup xs)))
theorem pe_tupF {x1} {es : List Expr} {t : TA} {pos : Pos} (h : PA X es t) : PE X (.Tuple es x1 pos) (tTupF t) := by
  refine ⟨fun pins s σ H Q I hq => ?_⟩
  refine wpAny_Tuple_spliced (thn (h.run pos pins s σ H _ I hq) fun us s1 ⟨xs, H1, I1, r, z, q⟩ => ⟨by rw [← r.length]; exact z, ?_⟩)
  have hf : H1 s1.heap.objs.size = none := I1.hok.fresh (Nat.le_refl _)
  refine ⟨.ref s1.heap.objs.size, upd H1 s1.heap.objs.size (.frz { cls := .type "tuple", data := .seq us.toArray } (.tup xs)), I1.laid (t' := s1.toks) (fun b u e => Heap.get?_push_of_some _ e) (Nat.le_refl _) ?_, rfl, q _ _ rfl hf⟩
  exact ⟨Heap.get?_push_size _ rfl, z, us, r, ⟨_, Heap.get?_push_size _ rfl, rfl, _, rfl⟩⟩
def rCatF (K : PySem.W.Frag) : R2 := fun x y H Q => ∃ a b xs ys, x = .ref a ∧ y = .ref b ∧ SqT K H a xs ∧ SqT K H b ys ∧ ys ≠ [] ∧ xs.length + ys.length ≤ sizeLine ∧
  (xs = [] → Q (.ref b) H) ∧ (xs ≠ [] → ∀ p o, o.dict = none → H p = none → Q (.ref p) (upd H p (.frz o (.tup (xs ++ ys)))))
theorem op_catF : OpR X (binaryOp .Add) (rCatF X.K) := by
  intro pins s σ H x y v u Q I rx ry h
  obtain ⟨a, b, xs, ys, rfl, rfl, ha, hb, hy, hz, q0, q2⟩ := h
  cases rx
  cases ry
  obtain ⟨its, r1, p1, _⟩ := I.tuple ha
  obtain ⟨its2, r2, p2, _⟩ := I.tuple hb
  by_cases hx : xs = []
  · subst hx
    cases r1
    exact cat_tup0 p1 p2 ⟨.ref b, H, I, rfl, q0 rfl⟩
  · refine HT.cat_tup p1 p2 (fun z => hx (r1.nil_iff.mp z)) (fun z => absurd (r2.nil_iff.mp z) hy) (fun z => ?_) (by rw [← r1.length, ← r2.length]; exact hz)
    refine ⟨.ref s.heap.objs.size, _, I.laid (t' := s.toks) (o := .frz { cls := .type "tuple", data := .seq (its ++ its2).toArray } (.tup (xs ++ ys))) (fun b ob q => Heap.get?_push_of_some _ q) (Nat.le_refl _) ?_, rfl, q2 hx _ _ rfl (I.hok.fresh (Nat.le_refl _))⟩
    exact ⟨Heap.get?_push_size _ rfl, by rw [List.length_append]; exact hz, _, r1.append r2, IsTup.new _ _⟩
/-! ### a method of such a tuple -/
def tBMT (r : V → List V → Hp → VK → Prop) (to : TE) (t : TA) : TE := fun σ H Q => to σ H fun x H1 => (∃ p o ys, x = V.ref p ∧ H1 p = some (.frz o (.tup ys)) ∧ o.dict = none) ∧ t σ H1 fun xs H2 => r x xs H2 Q
theorem pe_bmT {o e : Expr} {es : List Expr} {to : TE} {t : TA} {name : Str} {apos cpos : Pos} {id : String} {r : V → List V → Hp → VK → Prop}
    (pa : PlainAttrs "tuple") (slot : Slot "tuple" name id) (hty : typeOf (.builtin id) = pure (.type "method_descriptor")) (hm : MtR X id r) (ho : PE X o to) (ha : PA X (e :: es) t)
    (hbase : attributeBase o name X.env (eval o X.env) = eval o X.env := by rfl)
    (hfew : ((backTo cpos (starEach (e :: es) X.env)).all (fun x => !x.1) && (backToKw cpos (keywordEach [] X.env)).all (fun x => x.1.isSome)
      && decide ((e :: es).length + ([] : List Keyword).length + (if ([] : List Keyword).isEmpty then 0 else 1) < 30)) = true := by rfl)
    (hline : (apos.endLine == cpos.line) = true := by rfl) (hs : starEach (e :: es) X.env = (false, eval e X.env) :: starEach es X.env := by rfl) (hplain : (backTo cpos (starEach es X.env)).any (·.1) = false := by rfl) :
    PE X (.Call (.Attribute o name apos) (e :: es) [] cpos) (tBMT r to t) := by
  refine ⟨fun pins s σ H Q I h => ?_⟩
  refine wpAny_Call_method_late hbase hfew hline rfl (thn (ho.run pins s σ H _ I h) fun v s1 ⟨x, H1, I1, r1, ty, q1⟩ => ?_)
  have hh : s1.TypeIs v "tuple" ∧ ∀ a, v = .ref a → ∃ ob, s1.heap.get? a = some ob ∧ ob.dict = none := by
    obtain ⟨p, o, ys, rfl, hq, hd⟩ := ty
    cases r1
    obtain ⟨e1, _, its, rv, ob, ho, hc, _⟩ := I1.hok p _ hq
    rw [ho] at e1
    cases e1
    refine ⟨⟨_, ho, hc⟩, fun a e => ?_⟩
    cases e
    exact ⟨_, ho, hd⟩
  obtain ⟨h1, h2⟩ := hh
  refine ⟨"tuple", id, pa, slot, hty, h1, h2, ?_⟩
  have hA := ha.run cpos pins s1 σ H1 _ I1 q1
  rw [hs] at hA ⊢
  refine Calls.callWith_builtin (by show (false || (backTo cpos (starEach es X.env)).any (·.1)) = false; rw [hplain] <;> rfl) (Calls.evalArgs_plain ?_)
  exact thn hA fun us s2 ⟨vs, H2, I2, r2, q2⟩ => hm pins s2 σ H2 x vs v us Q I2 r1 r2 q2
def rTIdx (K : PySem.W.Frag) : V → List V → Hp → VK → Prop := fun x xs H Q => ∃ p, ∃ ys : List Int, ∃ z j, x = .ref p ∧ xs = [.int z] ∧ SqT K H p (ys.map V.int) ∧ ys[j]? = some z ∧ (∀ m, m < j → ys[m]? ≠ some z) ∧ Q (.int (j : Nat)) H
theorem tidx : MtR X "tuple.index" (rTIdx X.K) := mt_tindex
end
theorem catF {K : PySem.W.Frag} {H : Hp} {a p : Addr} {xs ys : List V} {o : Obj} {Q : VK} (ha : SqT K H a xs) (hp : H p = some (.frz o (.tup ys))) (hd : o.dict = none) (hy : ys ≠ []) (hz : xs.length + ys.length ≤ 16777216)
    (q : ∀ H' c o', Same H H' → H' c = some (.frz o' (.tup (xs ++ ys))) → o'.dict = none → Q (.ref c) H') : rCatF K (.ref a) (.ref p) H Q := by
  refine ⟨a, p, xs, ys, rfl, rfl, ha, .inl (.inr ⟨o, hp⟩), hy, sz_le hz, fun e => ?_, fun _ c o' d hc => q _ c o' (same_new hc) upd_same d⟩
  subst e
  exact q H p o (fun _ _ z => z) hp hd
/-! ### a dict whose keys are known tuples: its entries stand written -/
def EntX (P : Program) (w : World) (D : Addr) (xs : List (List Key × Addr × Value)) : Heap → Prop := fun h => xs.length ≤ sizeLine ∧ (D == sysModules) = false ∧
  ∃ o es ep, h.get? D = some o ∧ o.ExactDict ∧ o.data = .dict es ep ∧ es.toList = xs.map (entryOfKey (tupleKind (mixKind P w))) ∧ (xs.map (·.1)).Nodup
def dX (P : Program) (w : World) (D : Addr) (xs : List (List Key × Addr × Value)) : HO := .ext (EntX P w D xs)
def KeysR (H : Hp) (xs : List (List Key × Addr × Value)) : Prop := ∀ x ∈ xs, Rd H x.2.1 (.tup (x.1.map kV))
section
variable {P : Program} {w : World} {H : Hp} {h : Heap}
theorem dx_ok {D : Addr} {xs : List (List Key × Addr × Value)} (e : EntX P w D xs h) : ObjOk P w H h D (dX P w D xs) := by
  obtain ⟨z, hd, o, es, ep, h1, h2⟩ := id e
  exact ⟨e, ⟨o, h1⟩, fun g1 g2 ⟨z, hd, o, es, ep, h1, h2⟩ k => ⟨z, hd, o, es, ep, k _ h1, h2⟩⟩
theorem dx_empty (hb : sysModules < h.objs.size) : ObjOk P w H (h.push { cls := .type "dict", data := .dict #[] }) h.objs.size (dX P w h.objs.size []) :=
  dx_ok ⟨Nat.zero_le _, beq_eq_false_iff_ne.mpr (Ne.symm (Nat.ne_of_lt hb)), _, #[], 0, Heap.get?_push_size _ rfl, ⟨rfl, rfl, rfl⟩, rfl, rfl, List.nodup_nil⟩
theorem key_ofR {a : Addr} {ks : List Key} (ok : HOk P w H h) (e : Rd H a (.tup (ks.map kV))) : (tupleKind (mixKind P w)).is h ks a := by
  obtain ⟨_, its, r, o, h1, h2, n, h3⟩ := (show ObjOk P w H h a (.tup (ks.map kV)) from e.ok ok)
  exact ⟨o, its.toArray, n, h1, h2, h3, by simpa using items_are r⟩
theorem dx_of {D : Addr} {xs : List (List Key × Addr × Value)} (ok : HOk P w H h) (e : H D = some (dX P w D xs)) (hk : KeysR H xs) : xs.length ≤ sizeLine ∧ (D == sysModules) = false ∧ h.DictOfH (tupleKind (mixKind P w)) D xs := by
  obtain ⟨⟨z, hd, o, es, ep, h1, h2, h3, h4, h5⟩, _⟩ := ok D _ e
  exact ⟨z, hd, o, es, ep, h1, h2, h3, h4, fun x hx => key_ofR ok (hk x hx), h5⟩
theorem storedH_len (xs : List (List Key × Addr × Value)) (k : List Key) (a : Addr) (v : Value) : (storedH xs k a v).length ≤ xs.length + 1 := by
  unfold storedH
  split
  · rw [List.length_map]
    exact Nat.le_succ _
  · rw [List.length_append]
    exact Nat.le_refl _
end
theorem d_dictSetF {X : Cx} {pins : List (Addr × Obj)} {σ : L2.St} {H : Hp} {s : Shared} {E : Value → Shared → Prop} {D b : Addr} {xs : List (List Key × Addr × Value)} {k : List Key} {u r : Value} {Q : Unit → Shared → Prop} (hu : X.A.units + 1 < cLine) (I : L2.Inv X pins σ H s) (hD : H D = some (dX X.prog X.w D xs)) (hk : KeysR H xs)
    (hb : Rd H b (.tup (k.map kV))) (hz : xs.length < sizeLine) (ry : RelV (.ref b) u) (h : ∀ s', L2.Inv X pins σ (upd H D (dX X.prog X.w D (storedH xs k b r))) s' → Q () s') : wpAny (model X.prog X.w) X.A (dictSet D u r) Q E s := by
  cases (show u = Value.ref b from ry)
  obtain ⟨z, hd, dd⟩ := dx_of I.hok hD hk
  have hl := storedH_len xs k b r
  refine wpAny_dictSet_heap (hsz := z) (show X.A.units < cLine from Nat.lt_of_le_of_lt (Nat.le_add_right _ _) hu) (key_ofR I.hok hb) dd fun h' dd' hs => h _ ?_
  obtain ⟨q, es, ep, hq, h2, h3, h4, _, h5⟩ := dd'
  exact d_write I (by rw [hD]; exact True.intro) hs ⟨q, hq⟩ (dx_ok ⟨by omega, hd, q, es, ep, hq, h2, h3, h4, h5⟩)
section
variable {X : Cx}
/-- {k: v for target in iter if ..}, keys known tuples: D the new dict -/
def tDcF (P : Program) (w : World) (wi : TI) (g : TG) (tt : TT) (tk tv : TE) (vs : List Nat) : TE := fun σ H Q => wi σ H fun J H1 => ∀ D, H1 D = none → ∃ W : Nat → Nat → Hp → Prop, (∃ m, W 0 m (upd H1 D (dX P w D []))) ∧ ∀ i m H, W i m H →
  (J.stop i H ∧ Q (.ref D) H) ∨ (J.go i H ∧ ∃ Nx : Hp → Prop, (∀ H', Nx H' → ∃ m', m' < m ∧ W (i + 1) m' H') ∧ ∀ x H', J.yld i H x H' → g x (wipe σ vs) H' fun σ2 H2 => wipe σ2 vs = wipe σ vs ∧ tt σ2 H2 fun b H3 =>
    if b = true then tk σ2 H3 fun y H4 => tv σ2 H4 fun z H5 => ∃ xs k b, y = .ref b ∧ H5 D = some (dX P w D xs) ∧ KeysR H5 xs ∧ Rd H5 b (.tup (k.map kV)) ∧ xs.length < sizeLine ∧ (∀ u : Value, Nx (upd H5 D (dX P w D (storedH xs k b u)))) else Nx H3)
theorem dcF_core {pins : List (Addr × Obj)} {s : Shared} {σ : L2.St} {H : Hp} {Q : VK} {kx vx tg iter : Expr} {ifs : List Expr} {scope : Scope} {own : List (Str × Nat)} {pos pos' : Pos} {wi : TI} {g : TG} {tt : TT} {tk tv : TE} {use : Option (Value → Sem Unit)} {Qf : Value → Shared → Prop}
    (hu : X.A.units + 1 < cLine) (hc : X.calm = true) (hN : X.N.Nodup) (I : L2.Inv X pins σ H s) (hi : PI X tg iter wi) (ok : BlkOk X.N X.env.scope scope own)
    (hg : ∀ (s : Shared) (H : Hp) (C : Addr) (cl : List (Str × Addr)) (fp : List Addr), PG (X.blk s H scope (compEnvC scope cl C X.env) fp) tg g) (ht : ∀ (s : Shared) (H : Hp) (C : Addr) (cl : List (Str × Addr)) (fp : List Addr), PTs (X.blk s H scope (compEnvC scope cl C X.env) fp) ifs tt)
    (hk : ∀ (s : Shared) (H : Hp) (C : Addr) (cl : List (Str × Addr)) (fp : List Addr), PE (X.blk s H scope (compEnvC scope cl C X.env) fp) kx tk)
    (he : ∀ (s : Shared) (H : Hp) (C : Addr) (cl : List (Str × Addr)) (fp : List Addr), PE (X.blk s H scope (compEnvC scope cl C X.env) fp) vx tv) (hs : ∀ x, foldedSetIterable iter X.env x = pure x)
    (h : tDcF X.prog X.w wi g tt tk tv (own.map (·.2)) σ H Q)
    (hRR : ∀ D C s' m H', L2.Inv X pins σ H' s' → Q (.ref D) H' → s'.heap.Ns C m → FpOk X pins H' C → compPost (model X.prog X.w) X.A X.xe use Qf (.ref D) C (.ok .next) s') :
    wpAny (model X.prog X.w) X.A (comprehension (.DictComp kx vx [⟨tg, iter, ifs, 0⟩] scope pos) scope X.env pos' newDict false (eval iter X.env) use) Qf X.xe s := by
  have hfree : ∀ y ∈ scope.names, y.2 = .free → ∃ c, X.env.cells.lookup y.1 = some c := fun y hy e => by
    rcases ok.free y hy e with k | k
    · exact I.ok.has _ (.inl k)
    · exact I.ok.has _ (.inr k)
  refine wpAny_comprehension_free (use := use) rfl hs (closure_ok hfree) ok.kind (fun y hy e => by rw [ok.uniq y hy, e])
    (thn (hi.run pins s σ H _ I h) fun xv s1 hx => thn hx fun itv s2 h2 => ?_)
  obtain ⟨it, fp, tn, J, H2, e, I2, T, st2, f2, q⟩ := h2
  subst e
  refine wpAny_newObj_type (newEnv_comp ?_)
  generalize hD : s2.heap.objs.size = D
  have hDn : H2 D = none := I2.hok.fresh (Nat.le_of_eq hD)
  obtain ⟨W, ⟨m0, w0⟩, turn⟩ := q D hDn
  -- the new list
  generalize hs3 : ({ s2 with heap := s2.heap.push { cls := .type "dict", data := .dict #[] } } : Shared) = s3
  have I3 : L2.Inv X pins σ (upd H2 D (dX X.prog X.w D [])) s3 := by
    rw [← hs3]
    refine I2.laid (t' := s2.toks) (fun b o e => Heap.get?_push_of_some _ e) (Nat.le_of_eq hD) ?_
    rw [← hD]
    exact dx_empty I2.big
  have h3 : s3.heap = s2.heap.push { cls := .type "dict", data := .dict #[] } := by rw [← hs3]
  have sz : ∀ b ∈ fp, b < s2.heap.objs.size := fun b hb => by
    obtain ⟨o, e, _⟩ := T.obj _ _ st2 b hb
    exact Heap.lt_size e
  have f3 : ∀ b ∈ fp, FpOk X pins (upd H2 D (dX X.prog X.w D [])) b ∧ b < s3.heap.objs.size := fun b hb => by
    have hlt := sz b hb
    refine ⟨⟨?_, (f2 b hb).2⟩, by rw [h3, Heap.size_push]; exact Nat.lt_succ_of_lt hlt⟩
    rw [upd_ne (by rw [← hD]; exact Nat.ne_of_lt hlt)]
    exact (f2 b hb).1
  have st3 : tn 0 s3.heap := T.keep _ _ _ st2 fun b _ o e => by rw [h3]; exact Heap.get?_push_of_some _ e
  have I4 := block_start I3 ok hN f3
  have pg := hg s3 (upd H2 D (dX X.prog X.w D [])) s3.heap.objs.size (cellsFrom (s3.heap.objs.size + 1) scope.names (cloFrom X.env.cells scope.names [])) fp
  have pt := ht s3 (upd H2 D (dX X.prog X.w D [])) s3.heap.objs.size (cellsFrom (s3.heap.objs.size + 1) scope.names (cloFrom X.env.cells scope.names [])) fp
  have pk := hk s3 (upd H2 D (dX X.prog X.w D [])) s3.heap.objs.size (cellsFrom (s3.heap.objs.size + 1) scope.names (cloFrom X.env.cells scope.names [])) fp
  have pe := he s3 (upd H2 D (dX X.prog X.w D [])) s3.heap.objs.size (cellsFrom (s3.heap.objs.size + 1) scope.names (cloFrom X.env.cells scope.names [])) fp
  show codeAny _ _ (.compStart (.DictComp kx vx [⟨tg, iter, ifs, 0⟩] scope pos) 0 (.ref it) (.ref D) (compEnvC scope (cellsFrom (s3.heap.objs.size + 1) scope.names (cloFrom X.env.cells scope.names [])) s3.heap.objs.size X.env)) (compPost (model X.prog X.w) X.A X.xe use Qf (.ref D) s3.heap.objs.size) { s3 with heap := pushCells (s3.heap.push { cls := .type "dict", data := .dict #[] }) scope.names }
  have nfp : ∀ b ∈ fp, (upd H2 D (dX X.prog X.w D [])) b = none := fun b hb => (f3 b hb).1.1
  generalize hce : compEnvC scope (cellsFrom (s3.heap.objs.size + 1) scope.names (cloFrom X.env.cells scope.names [])) s3.heap.objs.size X.env = ce at I4 pg pt pk pe ⊢
  have cL : ce.locals = s3.heap.objs.size := by subst hce; rfl
  generalize hH3 : upd H2 D (dX X.prog X.w D []) = H3 at I3 I4 pg pt pk pe w0 nfp f3
  generalize hs4 : ({ s3 with heap := pushCells (s3.heap.push { cls := .type "dict", data := .dict #[] }) scope.names } : Shared) = s4 at I4 ⊢
  have st4 : tn 0 s4.heap := T.keep _ _ _ st3 fun b _ o e => by rw [← hs4]; exact pushCells_keeps _ _ _ _ (Heap.get?_push_of_some _ e)
  have stat : ∀ {σ' : L2.St} {H' : Hp} {s' : Shared}, L2.Inv (X.blk s3 H3 scope ce fp) [] σ' H' s' → (∀ b ∈ fp, H' b = none) → ∀ b ∈ fp, FpOk (X.blk s3 H3 scope ce fp) [] H' b := fun {σ' H' s'} I' hn b hb =>
    ⟨hn b hb, (I'.ok.exf b hb).1, I'.ok.exfs b hb, .inl hb, fun x c e => (I'.ok.exf b hb).2 x c e, fun p hp => absurd (show p ∈ ([] : List (Addr × Obj)) ++ [] from hp) (by simp)⟩
  have loop : codeAny (model X.prog X.w) X.A (.compLoop (.DictComp kx vx [⟨tg, iter, ifs, 0⟩] scope pos) 0 (.ref it) (.ref D) ce) (compPost (model X.prog X.w) X.A X.xe use Qf (.ref D) s3.heap.objs.size) s4 := by
    refine compLoop_anyD (fun n s' => ∃ i H', L2.Inv (X.blk s3 H3 scope ce fp) [] (wipe σ (own.map (·.2))) H' s' ∧ tn i s'.heap ∧ (∀ b ∈ fp, H' b = none) ∧ W i n H') ?_ m0 ⟨0, H3, I4, st4, nfp, w0⟩
    rintro n s5 ⟨i, H5, I5, st5, n5, w5⟩
    rcases turn i n H5 w5 with ⟨stop, qq⟩ | ⟨go, Nx, hNx, step⟩
    · have td := T.done (X.blk s3 H3 scope ce fp) rfl rfl rfl hc i [] s5 _ H5 (fun _ _ => False) I5 (stat I5 n5) st5 stop
      refine thnF td fun r s6 ⟨hr, I6⟩ => ?_
      subst hr
      -- back in the def's context
      have I7 : L2.Inv X pins σ H5 s6 := I3.call' (ch := fp) I6.os I6.base I6.hok I6.bare fun b hb => ⟨(f3 b hb).1.2.2.2.1, (f3 b hb).1.2.1, (f3 b hb).1.2.2.2.2.1, (f3 b hb).1.2.2.2.2.2⟩
      have nC : H5 s3.heap.objs.size = none := by
        have z : H5 ce.locals = none := I6.free
        rw [cL] at z
        exact z
      obtain ⟨m, hn, _⟩ := I6.loc
      have hn : s6.heap.Ns ce.locals m := hn
      rw [cL] at hn
      exact hRR D s3.heap.objs.size s6 m H5 I7 qq hn (I3.fpOk (Nat.le_refl _) nC)
    · have ti := T.item (X.blk s3 H3 scope ce fp) rfl rfl rfl hc i [] s5 _ H5 (fun _ _ => False) I5 (stat I5 n5) st5 go
      refine thnF ti fun r s6 ⟨u, hr, h6⟩ => ?_
      subst hr
      refine thnF h6 fun _ s7 ⟨x, H7, I7, r7, y7, st7, n7⟩ => ?_
      have I7' := I7.pinned (stat I7 n7) (T.obj _ _ st7)
      refine thnF (pg.run _ s7 _ H7 x u _ I7' r7 (step x H7 y7)) fun _ s8 ⟨σ8, H8, I8, hw8, q8⟩ => ?_
      refine thnF (pt.run _ s8 σ8 H8 _ I8 q8) fun b s9 ⟨H9, I9, q9⟩ => ?_
      -- the turn's end
      have fin : ∀ {s' : Shared} {H' : Hp}, L2.Inv (X.blk s3 H3 scope ce fp) ([] ++ pinsAt fp s7.heap) σ8 H' s' → Nx H' → ∃ m, m < n ∧ ∃ i H', L2.Inv (X.blk s3 H3 scope ce fp) [] (wipe σ (own.map (·.2))) H' s' ∧ tn i s'.heap ∧ (∀ b ∈ fp, H' b = none) ∧ W i m H' := fun {s' H'} I' nx => by
        obtain ⟨m', hm, w'⟩ := hNx H' nx
        have pin' : ∀ b ∈ fp, ∀ o, s7.heap.get? b = some o → s'.heap.get? b = some o ∧ H' b = none := fun b hb o e =>
          let z := I'.pin (b, o) (List.mem_append_right _ (List.mem_append_right _ (mem_pinsAt hb e)))
          ⟨z.1, z.2.1⟩
        have hl : (wipe σ (own.map (·.2))).length = σ8.length := by rw [← hw8, wipe_length]
        refine ⟨m', hm, i + 1, H', (I'.unpinned (pins := [])).weak hl (fun j v e => ?_), T.keep _ _ _ st7 fun b hb o e => (pin' b hb o e).1, fun b hb => ?_, w'⟩
        · rw [← hw8] at e
          exact (wipe_some e).1
        · obtain ⟨o, e, _⟩ := T.obj _ _ st7 b hb
          exact (pin' b hb o e).2
      cases b with
      | false =>
        simp only [Bool.false_eq_true, if_false] at q9 ⊢
        exact fin I9 q9
      | true =>
        simp only [if_true] at q9 ⊢
        refine thnF (pk.run _ s9 σ8 H9 _ I9 q9) fun z s10 ⟨yk, H10, I10, r10, q10⟩ => ?_
        refine thnF (pe.run _ s10 σ8 H10 _ I10 q10) fun z2 s11 ⟨yv, H11, I11, r11, xs, k, b, ek, hD11, hk11, hb11, hz11, nx⟩ => ?_
        subst ek
        exact d_dictSetF (X := X.blk s3 H3 scope ce fp) hu I11 hD11 hk11 hb11 hz11 r10 fun s12 I12 => fin I12 (nx z2)
  exact codeAny_compStart_dict loop (T.self X.A 0 _ _ _ st4 loop)
theorem pe_dcF {kx vx tg iter : Expr} {ifs : List Expr} {scope : Scope} {own : List (Str × Nat)} {pos : Pos} {wi : TI} {g : TG} {tt : TT} {tk tv : TE} (hu : X.A.units + 1 < cLine) (hc : X.calm = true) (hN : X.N.Nodup) (hi : PI X tg iter wi) (ok : BlkOk X.N X.env.scope scope own)
    (hg : ∀ (s : Shared) (H : Hp) (C : Addr) (cl : List (Str × Addr)) (fp : List Addr), PG (X.blk s H scope (compEnvC scope cl C X.env) fp) tg g) (ht : ∀ (s : Shared) (H : Hp) (C : Addr) (cl : List (Str × Addr)) (fp : List Addr), PTs (X.blk s H scope (compEnvC scope cl C X.env) fp) ifs tt)
    (hk : ∀ (s : Shared) (H : Hp) (C : Addr) (cl : List (Str × Addr)) (fp : List Addr), PE (X.blk s H scope (compEnvC scope cl C X.env) fp) kx tk)
    (he : ∀ (s : Shared) (H : Hp) (C : Addr) (cl : List (Str × Addr)) (fp : List Addr), PE (X.blk s H scope (compEnvC scope cl C X.env) fp) vx tv) (hs : ∀ x, foldedSetIterable iter X.env x = pure x := by intro _; rfl) :
    PE X (.DictComp kx vx [⟨tg, iter, ifs, 0⟩] scope pos) (tDcF X.prog X.w wi g tt tk tv (own.map (·.2))) := by
  refine ⟨fun pins s σ H Q I h => ?_⟩
  rw [arm_eval_DictComp]
  refine dcF_core hu hc hN I hi ok hg ht hk he hs h fun D C s' m H' I' q hn f => ⟨m, hn, fun h'' sb => ?_⟩
  obtain ⟨f0, f1, f2, f3, f4, f5⟩ := f
  exact ⟨.ref D, H', I'.turned (t' := s'.toks) (fun b o hb e => (sb.2 b hb).trans e) f0 f1 f3 f4 f5, rfl, q⟩
/-- len of such a dict -/
def rLenF (P : Program) (w : World) : List V → Hp → VK → Prop := fun vs H Q => ∃ (p : Addr) (xs : List (List Key × Addr × Value)), vs = [.ref p] ∧ H p = some (dX P w p xs) ∧ KeysR H xs ∧ Q (.int ((xs.length : Nat) : Int)) H
theorem call_len_dF : CallR X (.builtin "len") (rLenF X.prog X.w) := by
  intro pins s σ H xs us Q I r h
  obtain ⟨p, ys, rfl, hp, hk, q⟩ := h
  obtain ⟨u, rfl, rx⟩ := vals1 r
  obtain rfl : u = .ref p := rx
  obtain ⟨z, hd, dd⟩ := dx_of I.hok hp hk
  refine call_len_dictH hd dd (by rw [sizeLine_eq] at z; omega) ?_
  exact ⟨.int ((ys.length : Nat) : Int), H, I.tok _, ⟨_, rfl⟩, q⟩
end
/-- the dict at D has these keys -/
def Dx (P : Program) (w : World) (H : Hp) (D : Addr) (ks : List (List Nat)) : Prop := ∃ xs : List (List Key × Addr × Value), H D = some (dX P w D xs) ∧ xs.map (·.1) = ks.map ky ∧ KeysR H xs
theorem Dx.same {P : Program} {w : World} {H H' : Hp} {D : Addr} {ks : List (List Nat)} (h : Dx P w H D ks) (s : Same H H') : Dx P w H' D ks := by
  obtain ⟨xs, h1, h2, h3⟩ := h
  exact ⟨xs, s _ _ h1, h2, fun x hx => Rd.same (h3 x hx) s⟩
theorem rd_ne {P : Program} {w : World} {H : Hp} {D q : Addr} {xs : List (List Key × Addr × Value)} {ys : List V} {o : HO} (h : H D = some (dX P w D xs)) (r : Rd H q (.tup ys)) : Rd (upd H D o) q (.tup ys) := by
  have ne : q ≠ D := fun e => by
    subst e
    rcases r with r | ⟨_, r⟩ <;> rw [h] at r <;> cases r
  rcases r with r | ⟨ob, r⟩
  · exact .inl (by rw [upd_ne ne]; exact r)
  · exact .inr ⟨ob, by rw [upd_ne ne]; exact r⟩
theorem keys_stored (xs : List (List Key × Addr × Value)) (ks : List (List Nat)) (h : xs.map (·.1) = ks.map ky) (r : List Nat) (a : Addr) (v : Value) : (storedH xs (ky r) a v).map (·.1) = (addK ks r).map ky := by
  have hm : (atKey xs (ky r)).isSome = decide (r ∈ ks) := by
    unfold atKey
    rw [Option.isSome_map, Bool.eq_iff_iff, List.find?_isSome, decide_eq_true_eq]
    constructor
    · rintro ⟨x, hx, e⟩
      have hx2 : x.1 ∈ ks.map ky := by rw [← h]; exact List.mem_map_of_mem hx
      obtain ⟨q, hq, e2⟩ := List.mem_map.mp hx2
      have : q = r := ky_inj (e2.trans (of_decide_eq_true e))
      exact this ▸ hq
    · intro hr
      have : ky r ∈ xs.map (·.1) := by rw [h]; exact List.mem_map_of_mem hr
      obtain ⟨x, hx, e⟩ := List.mem_map.mp this
      exact ⟨x, hx, decide_eq_true e⟩
  unfold storedH addK
  rw [hm]
  by_cases c : r ∈ ks
  · rw [if_pos (decide_eq_true c), if_pos c, List.map_map, ← h]
    refine List.map_congr_left fun x _ => ?_
    show (putAt (ky r) v x).1 = x.1
    unfold putAt
    split <;> rfl
  · rw [if_neg (by simp [c]), if_neg c, List.map_append, List.map_append, h]
    rfl
section
variable {P : Program} {w : World} {J : It} {G : Hp → Prop} {Y : Nat → Hp → V → Hp → Prop} {g : TG} {tt : TT} {tk tv : TE} {vs : List Nat} {σ : L2.St} {H1 : Hp} {D : Addr} {Qd : Hp → Prop}
/-- {row: v ..} over rows -/
theorem dcF_gen (as : List (List Nat)) (wk : Walk J as.length G Y) (hz : as.length ≤ 16000000) (hD : H1 D = none) (hG : ∀ H', Same H1 H' → G H')
    (turn : ∀ (i : Nat) (a : List Nat) (x : V) (H H' : Hp), as[i]? = some a → Same H1 H → Y i H x H' → ∀ (K : V → V → Hp → Prop) (Kn : Hp → Prop), (∀ y z H5, Same H H5 → Tr H5 y a → K y z H5) →
      g x (wipe σ vs) H' fun σ2 H2 => wipe σ2 vs = wipe σ vs ∧ tt σ2 H2 fun b H3 => if b = true then tk σ2 H3 fun y H4 => tv σ2 H4 fun z H5 => K y z H5 else Kn H3)
    (done : ∀ H', Same H1 H' → Dx P w H' D (ded as) → Qd H') :
    ∃ W : Nat → Nat → Hp → Prop, (∃ m, W 0 m (upd H1 D (dX P w D []))) ∧ ∀ i m H, W i m H →
      (J.stop i H ∧ Qd H) ∨ (J.go i H ∧ ∃ Nx : Hp → Prop, (∀ H', Nx H' → ∃ m', m' < m ∧ W (i + 1) m' H') ∧ ∀ x H', J.yld i H x H' → g x (wipe σ vs) H' fun σ2 H2 => wipe σ2 vs = wipe σ vs ∧ tt σ2 H2 fun b H3 =>
        if b = true then tk σ2 H3 fun y H4 => tv σ2 H4 fun z H5 => ∃ xs k b, y = .ref b ∧ H5 D = some (dX P w D xs) ∧ KeysR H5 xs ∧ Rd H5 b (.tup (k.map kV)) ∧ xs.length < sizeLine ∧ (∀ u : Value, Nx (upd H5 D (dX P w D (storedH xs k b u)))) else Nx H3) := by
  refine ⟨fun i m H => m = as.length - i ∧ i ≤ as.length ∧ Same H1 H ∧ Dx P w H D (ded (as.take i)), ⟨as.length, by simp, Nat.zero_le _, same_new hD, [], upd_same, rfl, fun x hx => by cases hx⟩, ?_⟩
  rintro i m H ⟨rfl, hi, s, eD⟩
  have q := hG H s
  by_cases hlt : i < as.length
  · have hai : as[i]? = some as[i] := List.getElem?_eq_getElem hlt
    refine .inr ⟨wk.goes i H hlt q, fun H' => Same H1 H' ∧ Dx P w H' D (ded (as.take (i + 1))), fun H' p' => ⟨as.length - (i + 1), by omega, rfl, hlt, p'⟩, fun x H' y => ?_⟩
    refine turn i as[i] x H H' hai s (wk.yields i H x H' hlt q y) _ _ (fun y z H5 s5 ht => ?_)
    obtain ⟨xs, e5, k5, r5⟩ := eD.same s5
    obtain ⟨b, rfl, hb⟩ := ht
    have hl := ded_len (as.take i)
    have h3 := List.length_take_le i as
    have hxl : xs.length = (ded (as.take i)).length := by
      have := congrArg List.length k5
      rwa [List.length_map, List.length_map] at this
    have hb' : Rd H5 b (.tup ((ky as[i]).map kV)) := by rw [ky_map]; exact hb
    refine ⟨xs, ky as[i], b, rfl, e5, r5, hb', sz_lt (by omega), fun u => ⟨same_mut (s.trans s5) hD, storedH xs (ky as[i]) b u, upd_same, ?_, fun x hx => ?_⟩⟩
    · rw [keys_stored xs _ k5, take_snoc hai]
      unfold ded
      rw [List.foldl_append]
      rfl
    · rcases mem_storedH hx with ⟨y, hy, e1, e2⟩ | ⟨e1, e2⟩
      · rw [e1, e2]
        exact rd_ne e5 (r5 y hy)
      · rw [e1, e2]
        exact rd_ne e5 hb'
  · have e : i = as.length := by omega
    subst e
    rw [List.take_length] at eD
    exact .inl ⟨wk.stops H q, done H s eD⟩
end
/-! ### known objects are kept -/
def FK (H H' : Hp) : Prop := ∀ b o u, H b = some (.frz o u) → H' b = some (.frz o u)
theorem FK.trans {H H1 H2 : Hp} (a : FK H H1) (b : FK H1 H2) : FK H H2 := fun c o u h => b c o u (a c o u h)
theorem fk_of {H H' : Hp} (s : Same H H') : FK H H' := fun b o u h => s b _ h
theorem fk_lst {H : Hp} {a : Addr} {o : HO} {xs : List V} (h : H a = some (.lst xs)) : FK H (upd H a o) := fun b ob u e => by
  rw [upd_ne (fun z => by subst z; rw [h] at e; cases e)]
  exact e
theorem Tf.fk {H H' : Hp} {v : V} {r : List Nat} (h : Tf H v r) (t : FK H H') : Tf H' v r := by
  obtain ⟨a, o, e, h, d⟩ := h
  exact ⟨a, o, e, t _ _ _ h, d⟩
theorem tfs_fk {H H' : Hp} {xs : List V} {rs : List (List Nat)} (h : Paired (Tf H) xs rs) (t : FK H H') : Paired (Tf H') xs rs := L2.Paired.mapP h fun _ _ q => q.fk t
theorem lf'_new {H : Hp} {p : Addr} {ys : List V} {rs : List (List Nat)} (hf : H p = none) (h : Paired (Tf H) ys rs) : Lf' (upd H p (.lst ys)) p rs := ⟨ys, upd_same, tfs_same h (same_new hf)⟩
section
variable {α β : Type} {J : It} {G : Hp → Prop} {Y : Nat → Hp → V → Hp → Prop} {g : TG} {tt : TT} {te tk tv : TE} {vs : List Nat} {σ : L2.St} {H1 : Hp} {D : Addr} {Qd : Hp → Prop}
theorem lc_genF (as : List α) (p : α → Bool) (h : α → β) (R : Hp → V → β → Prop) (hR : ∀ H H' v b, FK H H' → R H v b → R H' v b) (w : Walk J as.length G Y) (hz : as.length ≤ 16777216) (hD : H1 D = none) (hG : ∀ H', Same H1 H' → G H')
    (turn : ∀ (i : Nat) (a : α) (x : V) (H H' : Hp), as[i]? = some a → Same H1 H → Y i H x H' → ∀ (K : V → Hp → Prop) (Kn : Hp → Prop), (p a = true → ∀ y H5, Same H H5 → R H5 y (h a) → K y H5) → (p a = false → ∀ H5, Same H H5 → Kn H5) →
      g x (wipe σ vs) H' fun σ2 H2 => wipe σ2 vs = wipe σ vs ∧ tt σ2 H2 fun b H3 => if b = true then te σ2 H3 K else Kn H3)
    (done : ∀ H' ys, Same H1 H' → H' D = some (.lst ys) → Paired (R H') ys ((as.filter p).map h) → Qd H') :
    ∃ W : Nat → Nat → Hp → Prop, (∃ m, W 0 m (upd H1 D (.lst []))) ∧ ∀ i m H, W i m H →
      (J.stop i H ∧ Qd H) ∨ (J.go i H ∧ ∃ Nx : Hp → Prop, (∀ H', Nx H' → ∃ m', m' < m ∧ W (i + 1) m' H') ∧ ∀ x H', J.yld i H x H' → g x (wipe σ vs) H' fun σ2 H2 => wipe σ2 vs = wipe σ vs ∧ tt σ2 H2 fun b H3 =>
        if b = true then te σ2 H3 fun y H4 => ∃ acc, H4 D = some (.lst acc) ∧ acc.length < sizeLine ∧ Nx (upd H4 D (.lst (acc ++ [y]))) else Nx H3) := by
  refine lc_it w (fun i H => Same H1 H ∧ ∃ ys, H D = some (.lst ys) ∧ Paired (R H) ys (((as.take i).filter p).map h)) ⟨same_new hD, [], upd_same, .nil⟩ (fun i H _ q => hG H q.1) ?_ ?_
  · rintro i x H H' hi ⟨s, ys, eD, pr⟩ hy
    have hai : as[i]? = some as[i] := List.getElem?_eq_getElem hi
    refine turn i as[i] x H H' hai s hy _ _ (fun hp y H5 s5 r => ?_) (fun hp H5 s5 => ?_)
    · have e5 := s5 _ _ eD
      have hl : ys.length ≤ i := by
        rw [pr.length, List.length_map]
        have := List.length_filter_le p (as.take i)
        have := List.length_take_le i as
        omega
      refine ⟨ys, e5, sz_lt (by omega), same_mut (s.trans s5) hD, ys ++ [y], upd_same, ?_⟩
      rw [take_snoc hai, List.filter_append, List.map_append, List.filter_cons, if_pos hp]
      have t : FK H5 (upd H5 D (.lst (ys ++ [y]))) := fk_lst e5
      exact Pd.snoc (L2.Paired.mapP pr fun _ _ q => hR _ _ _ _ ((fk_of s5).trans t) q) (hR _ _ _ _ t r)
    · refine ⟨s.trans s5, ys, s5 _ _ eD, ?_⟩
      rw [take_snoc hai, List.filter_append, List.filter_cons, if_neg (by rw [hp]; decide)]
      show Paired (R H5) ys ((((as.take i).filter p) ++ []).map h)
      rw [List.append_nil]
      exact L2.Paired.mapP pr fun _ _ q => hR _ _ _ _ (fk_of s5) q
  · rintro H ⟨s, ys, eD, pr⟩
    rw [List.take_length] at pr
    exact done H ys s eD pr
end
end Ev

set_option maxRecDepth 100000
set_option maxHeartbeats 4000000
namespace Ev
open PySem PySem.Spec PyProof.Rows L2 EvM
theorem not_all {ps : Ps} {x : Nat} {r : List Nat} : ((ps.filter fun p => (snd2 p == x) && !r.contains (fst2 p)).length = 0) ↔ (aheadOf ps x).all (fun y => r.contains y) = true := by
  rw [List.length_eq_zero_iff, List.filter_eq_nil_iff, List.all_eq_true]
  unfold aheadOf
  constructor
  · intro h y hy
    obtain ⟨p, hp, rfl⟩ := List.mem_map.mp hy
    obtain ⟨hp, hs⟩ := List.mem_filter.mp hp
    have := h p hp
    rw [hs] at this
    simpa using this
  · intro h p hp hc
    rw [Bool.and_eq_true] at hc
    have := h (fst2 p) (List.mem_map.mpr ⟨p, List.mem_filter.mpr ⟨hp, hc.1⟩, rfl⟩)
    rw [this] at hc
    cases hc.2
section
variable {P : Program} {w : World} {K : PySem.W.Frag} {mg : Str → Option Value} {base : Heap} {ad : Ad}
def spLFree : Sp := fun vs H Q _ => ∃ b v n ps r, vs = [.ref b, .int ((n : Nat) : Int), v] ∧ Tt H b ps ∧ Pr n ps ∧ Tr H v r ∧ n ≤ 8 ∧ ps.length < 64 ∧ ∀ H' c, Same H H' → H' c = some (.lst ((free n ps r).map nm)) → Q (.ref c) H'
theorem ok_l_free (T : Txt K mg) : Cal P w K mg base CX0 1 "_law_free" spLFree := by
  refine T.d_l_free.ok sc_l_free (fun vs H Q E h => ?_) (fun f cdv A outer s H vs Q E hr h => ?_)
  · obtain ⟨b, v, n, ps, r, rfl, _⟩ := h
    rfl
  obtain ⟨b, v, n, ps, r, rfl, ⟨xs, hb, hp⟩, hpr, ⟨a, rfl, ha⟩, hn, hz, q⟩ := h
  refine ⟨_, (pss_cons (ps_set (i := 3) sc_l_free.nd rfl (Or.inl rfl) (pe_lst pa_nil))
  (pss_cons (ps_for PassesOwn.never rfl (pi_range1 (by rfl) T.n_range (pa_cons (pv 1) pa_nil)) (pg_name (i := 4) sc_l_free.nd rfl (Or.inr rfl))
  (pss_one (ps_if (PW.pt (pw_and (pt_cmpR (r := rIn K true) op_notIn_seq (pv 4) (pv 2) rfl) (pw_and1 (pt_cmpR op_eq (pe_callB call_len_seq (by rfl) T.n_len (by decide +kernel) (pa_cons (pe_lc (own := [("_law_one", 5), ("_law_other", 6)]) rfl sc_l_free.nd (pi_tup (pv 0)) (blkOk_by (N := ["_law_befores", "_law_many", "_law_row", "_law_found", "_law_name", "_law_one", "_law_other"]) (sc := defScope s_l_free) (own := [("_law_one", 5), ("_law_other", 6)]) (by decide +kernel)) (fun _ _ _ _ _ => (pg_tup2 (K := K) (n := 2) rfl (pgs_cons (pg_name (i := 5) sc_l_free.nd rfl (Or.inl rfl)) (pgs_cons (pg_name (i := 6) sc_l_free.nd rfl (Or.inl rfl)) pgs_nil)))) (fun _ _ _ _ _ => (pts_one (PW.pt (pw_and (pt_cmpR op_eq (pv 6) (pv 4) (nomark _)) (pw_and1 (pt_cmpR (r := rIn K true) op_notIn_seq (pv 5) (pv 2) rfl)))))) (fun _ _ _ _ _ => (pv 5))) pa_nil)) pe_int (nomark _))))) (pss_one (ps_expr (pe_bm PySem.F.plainAttrs_list PySem.F.slot_list_append PySem.F.type_list_append mt_append (pv 3) (pa_cons (pv 4) pa_nil)))) pss_nil)))
  (pss_one (ps_ret (pv 3))))), ?_⟩
  obtain ⟨r1, r2⟩ := rng_ok (n := n) (by omega)
  have hxl : xs.length = ps.length := Paired.length hp
  refine ⟨(by decide), fun D hD => ?_⟩
  have s0 : Same H (upd H D (.lst [])) := same_new hD
  refine ⟨_, rfl, n, rfl, r1, r2, ?_⟩
  refine for_it walk_rng (fun i σ H' => (∃ t : Option V, σ = [some (.ref b), some (.int (n : Int)), some (.ref a), some (.ref D), t, none, none]) ∧ Same H H' ∧ H' D = some (.lst (((List.range i).filter fun y => !r.contains y && (aheadOf ps y).all fun z => r.contains z).map nm))) ⟨⟨_, rfl⟩, s0, upd_same⟩ (fun _ _ _ _ _ => trivial) ?_ ?_
  · rintro i y σ H30 H3 hi ⟨⟨t, rfl⟩, s3, d3⟩ ⟨rfl, rfl⟩
    have ha3 := Rd.same ha s3
    have hb3 := s3 _ _ hb
    have stay : ∀ {c : Bool} {H' : Hp}, (!r.contains i && (aheadOf ps i).all fun z => r.contains z) = c → c = false → H' D = some (.lst (((List.range i).filter fun y => !r.contains y && (aheadOf ps y).all fun z => r.contains z).map nm)) → H' D = some (.lst (((List.range (i + 1)).filter fun y => !r.contains y && (aheadOf ps y).all fun z => r.contains z).map nm)) := by
      rintro c H' hc rfl h
      rw [filter_snoc, hc]
      simpa using h
    refine ⟨_, rfl, _, rfl, a, _, rfl, .inr (.inl ha3), nm_flat i, nms_flat r, _, rfl, ?_⟩
    rw [inV_nm]
    cases c : r.contains i with
    | true => exact iteF ⟨⟨_, rfl⟩, s3, stay (c := false) (by rw [c]; rfl) rfl d3⟩
    | false =>
      refine iteT ?_
      refine ⟨_, rfl, b, rfl, ⟨xs, .inl (.inl hb3)⟩, fun E3 hE3 => ?_⟩
      refine lc_gen ps (fun p => (snd2 p == i) && !r.contains (fst2 p)) (fun _ => ()) (fun _ _ _ => True) (fun _ _ _ _ _ h => h) (walk_tupN hxl) (by omega) hE3 (fun H' s' => .inl (.inl (s' _ _ hb3))) ?_ ?_
      · rintro k p x4 H40 H4 hk s4 ⟨rfl, hx4⟩ Kc Kn kc kn
        obtain ⟨p', hp', htn⟩ := Pd.get hp hx4
        rw [hk] at hp'
        cases hp'
        obtain ⟨i1, j1, rfl, b1, c1⟩ := hpr p (List.mem_of_getElem? hk)
        obtain ⟨t2, rfl, ht2⟩ := htn.tk (tk_of (s3.trans s4))
        refine ⟨t2, [nm i1, nm j1], rfl, .inl (.inl ht2), rfl, _, _, rfl, _, _, rfl, rfl, rfl, ?_⟩
        refine ⟨_, rfl, _, rfl, rfl, _, rfl, ?_⟩
        refine ite2 (fun c2 => ?_) (fun c2 => kn ?_ _ fun _ _ z => z)
        · have e := nm_inj (of_decide_eq_true c2)
          subst e
          refine ⟨_, rfl, _, rfl, a, _, rfl, .inr (.inl (Rd.same ha3 s4)), nm_flat i1, nms_flat r, _, rfl, ?_⟩
          rw [inV_nm]
          refine ite2 (fun c3 => ⟨_, rfl, kc ?_ _ _ (fun _ _ z => z) trivial⟩) (fun c3 => kn ?_ _ fun _ _ z => z)
          · show ((j1 == j1) && !r.contains i1) = true
            rw [beq_self_eq_true, Bool.true_and]
            exact c3
          · show ((j1 == j1) && !r.contains i1) = false
            rw [beq_self_eq_true, Bool.true_and]
            exact Bool.eq_false_iff.mpr c3
        · show ((j1 == i) && !r.contains i1) = false
          rw [beq_eq_false_iff_ne.mpr fun z => c2 (decide_eq_true (by rw [z])), Bool.false_and]
      · intro H5 ys s5 hys hpr5
        have hyl := Paired.length hpr5
        rw [List.length_map] at hyl
        refine ⟨E3, ys, rfl, .inl (.inl (.inl hys)), rfl, _, rfl, ?_⟩
        have d5 := s5 _ _ d3
        have e0 : decide (V.int ((ys.length : Nat) : Int) = V.int 0) = (aheadOf ps i).all fun z => r.contains z := by
          rw [hyl]
          refine (int_eq (b := 0)).trans ?_
          rw [Bool.eq_iff_iff, decide_eq_true_eq]
          exact not_all
        rw [e0]
        cases c2 : (aheadOf ps i).all fun z => r.contains z with
        | false => exact iteF ⟨⟨_, rfl⟩, s3.trans s5, stay (c := false) (by rw [c, c2]; rfl) rfl d5⟩
        | true =>
          refine iteT ?_
          refine ⟨_, rfl, .inl ⟨rfl, _, .inl (.inl d5)⟩, _, rfl, D, _, _, rfl, rfl, d5, ?_, ⟨_, rfl⟩, same_mut (s3.trans s5) hD, ?_⟩
          · rw [List.length_map]
            have := filter_len (fun y => !r.contains y && (aheadOf ps y).all fun z => r.contains z) i
            exact sz_lt (by omega)
          · rw [upd_same, filter_snoc, c, c2, List.map_append]
            rfl
  · rintro σ H3 ⟨⟨t, rfl⟩, s3, d3⟩
    exact ⟨_, rfl, q H3 D s3 d3⟩
def spLOrds : Sp := fun vs H Q _ => ∃ b n ps, vs = [.ref b, .int ((n : Nat) : Int)] ∧ Tt H b ps ∧ Pr n ps ∧ n ≤ 5 ∧ ps.length < 64 ∧ ∀ H' c, Same H H' → Lf' H' c (ords n ps) → Q (.ref c) H'
theorem ok_l_orders (T : Txt K mg) : Cal P w K mg base CX0 2 "_law_orders" spLOrds := by
  refine T.d_l_orders.ok sc_l_orders (fun vs H Q E h => ?_) (fun f cdv A outer s H vs Q E hr h => ?_)
  · obtain ⟨b, n, ps, rfl, _⟩ := h
    rfl
  obtain ⟨b, n, ps, rfl, hb, hpr, hn, hz, q⟩ := h
  refine ⟨_, (pss_cons (ps_set (i := 2) sc_l_orders.nd rfl (Or.inl rfl) (pe_lst (pa_cons (pe_tupF pa_nil) pa_nil)))
  (pss_cons (ps_for PassesOwn.never rfl (pi_range1 (by rfl) T.n_range (pa_cons (pv 1) pa_nil)) (pg_name (i := 3) sc_l_orders.nd rfl (Or.inl rfl))
  (pss_cons (ps_set (i := 4) sc_l_orders.nd rfl (Or.inl rfl) (pe_lst pa_nil))
  (pss_cons (ps_for PassesOwn.never rfl (pi_list (pv 2)) (pg_name (i := 5) sc_l_orders.nd rfl (Or.inr rfl))
  (pss_one (ps_set (i := 4) sc_l_orders.nd rfl (Or.inl rfl) (pe_op op_cat (pv 4) (pe_lc (own := [("_law_name", 6)]) rfl sc_l_orders.nd (pi_list (pe_fn (ok_l_free T) hr (by decide) rfl (pa_cons (pv 0) (pa_cons (pv 1) (pa_cons (pv 5) pa_nil))))) (blkOk_by (N := ["_law_befores", "_law_many", "_law_found", "_law_turn", "_law_longer", "_law_row", "_law_name"]) (sc := defScope s_l_orders) (own := [("_law_name", 6)]) (by decide +kernel)) (fun _ _ _ _ _ => (pg_name (i := 6) sc_l_orders.nd rfl (Or.inl rfl))) (fun _ _ _ _ _ => pts_nil) (fun _ _ _ _ _ => (pe_op (r := rCatF K) op_catF (pv 5) (pe_tupF (pa_cons (pv 6) pa_nil)))))))))
  (pss_one (ps_set (i := 2) sc_l_orders.nd rfl (Or.inl rfl) (pv 4))))))
  (pss_one (ps_ret (pv 2))))), ?_⟩
  obtain ⟨r1, r2⟩ := rng_ok (n := n) (by omega)
  refine ⟨(by decide), fun p0 o0 d0 hp0 => ⟨(by show 1 ≤ sizeLine; decide), fun F0 hF0 => ?_⟩⟩
  have s0 : Same H (upd (upd H p0 (.frz o0 (.tup []))) F0 (.lst [V.ref p0])) := (same_new hp0).trans (same_new hF0)
  have f0 : Lf' (upd (upd H p0 (.frz o0 (.tup []))) F0 (.lst [V.ref p0])) F0 (ordsK n ps 0) := lf'_new hF0 (.cons ⟨p0, o0, rfl, upd_same, d0⟩ .nil)
  refine ⟨_, rfl, n, rfl, r1, r2, ?_⟩
  refine for_it walk_rng (fun k σ H' => (∃ (fa : Addr) (t l r : Option V), σ = [some (.ref b), some (.int (n : Int)), some (.ref fa), t, l, r, none] ∧ Lf' H' fa (ordsK n ps k)) ∧ Same H H') ⟨⟨F0, _, _, _, rfl, f0⟩, s0⟩ (fun _ _ _ _ _ => trivial) ?_ ?_
  · rintro k y σ G0 G hk ⟨⟨fa, t, l, r, rfl, hfa⟩, s1⟩ ⟨rfl, rfl⟩
    refine ⟨(by decide), fun L hL => ?_⟩
    obtain ⟨xs, hxs, hps⟩ := hfa
    have hxl : xs.length = (ordsK n ps k).length := Paired.length hps
    have h5 := Nat.le_trans (ordsK_pow n ps k) (pow5 hn (by omega))
    have sL : Same G (upd G L (.lst [])) := same_new hL
    refine ⟨_, rfl, fa, rfl, ⟨xs, .inl (.inl (sL _ _ hxs))⟩, ?_⟩
    refine for_it (walk_listN hxl) (fun i σ H' => (∃ (r : Option V) (La : Addr), σ = [some (.ref b), some (.int (n : Int)), some (.ref fa), some (nm k), some (.ref La), r, none] ∧ Lf' H' La (((ordsK n ps k).take i).flatMap (ext1r n ps))) ∧ Same G H') ⟨⟨_, L, rfl, [], upd_same, .nil⟩, sL⟩ (fun i σ H' _ h => .inl (.inl (h.2 _ _ hxs))) ?_ ?_
    · rintro i y σ H30 H3 hi ⟨⟨r, La, rfl, d3⟩, s3⟩ ⟨rfl, hy⟩
      obtain ⟨rr, hrr, htn⟩ := Pd.get hps hy
      have htn3 := htn.same s3
      have hlen : rr.length = k := ordsK_len (List.mem_of_getElem? hrr)
      obtain ⟨ys, hL3, hp3⟩ := id d3
      have hacc : ys.length + (free n ps rr).length ≤ 16777216 := by
        have e1 : ys.length = (((ordsK n ps k).take i).flatMap (ext1r n ps)).length := Paired.length hp3
        have e2 := flat_len (ext1r n ps) n ((ordsK n ps k).take i) fun r _ => by unfold ext1r; rw [List.length_map]; exact free_len n ps r
        have e3 := List.length_take_le i (ordsK n ps k)
        have e4 := free_len n ps rr
        have e5 : ((ordsK n ps k).take i).length * n ≤ 3125 * 5 := Nat.mul_le_mul (by rw [List.length_take]; omega) hn
        omega
      refine ⟨_, rfl, _, rfl, _, rfl, _, rfl, b, y, n, ps, rr, rfl, (hb.same s1).same s3, hpr, htn3.r, by omega, hz, fun H4 fb s4 hfb => ⟨fb, rfl, ⟨_, .inl (.inl hfb)⟩, fun D hD => ?_⟩⟩
      refine lc_genF (free n ps rr) (fun _ => true) (fun z => rr ++ [z]) Tf (fun _ _ _ _ t h => h.fk t) (walk_listN (by rw [List.length_map])) (by have := free_len n ps rr; omega) hD (fun H' s' => .inl (.inl (s' _ _ hfb))) ?_ ?_
      · rintro j z x5 H50 H5 hj s5 ⟨rfl, hx5⟩ Kc Kn kc kn
        rw [List.getElem?_map, hj] at hx5
        cases hx5
        refine ⟨rfl, ?_⟩
        obtain ⟨ta, rfl, hta⟩ := ((htn3.same s4).same s5).r
        refine ⟨_, rfl, _, rfl, (by show 1 ≤ sizeLine; decide), fun p op dp hp => ?_⟩
        have sp : Same H5 (upd H5 p (.frz op (.tup [nm z]))) := same_new hp
        refine catF (.inl (Rd.same hta sp)) upd_same dp (by simp) (by rw [List.length_map]; show rr.length + 1 ≤ _; omega) fun H6 c oc s6 hc dc => kc rfl _ _ (sp.trans s6) ⟨c, oc, rfl, ?_, dc⟩
        rw [hc, List.map_append]
        rfl
      · intro H6 zs s6 hzs hpz
        have hL6 := s6 _ _ (s4 _ _ hL3)
        rw [List.filter_eq_self.mpr (fun _ _ => rfl)] at hpz
        have hzl : zs.length = (free n ps rr).length := by rw [Paired.length hpz, List.length_map]
        refine ⟨La, D, ys, zs, rfl, rfl, hL6, hzs, sz_le (by omega), fun c hc => ⟨⟨_, c, rfl, ?_⟩, ((s3.trans s4).trans s6).trans (same_new hc)⟩⟩
        rw [take_flat _ hrr]
        exact lf'_new hc (Pd.app (tfs_same hp3 (s4.trans s6)) hpz)
    · rintro σ H3 ⟨⟨r, La, rfl, d3⟩, s3⟩
      rw [List.take_length] at d3
      exact ⟨_, rfl, ⟨La, _, _, _, rfl, d3⟩, s1.trans s3⟩
  · rintro σ H3 ⟨⟨fa, t, l, r, rfl, hfa⟩, s3⟩
    exact ⟨_, rfl, q H3 fa s3 hfa⟩
end
end Ev

set_option maxRecDepth 100000
set_option maxHeartbeats 4000000
namespace Ev
open PySem PySem.Spec PyProof.Rows L2 EvM
/-- sorted, the tuples' length told late -/
def rSortX (K : PySem.W.Frag) : List V → Hp → VK → Prop := fun vs H Q => ∃ d, 1 ≤ d ∧ rSortU K d 64 vs H Q
theorem cr_sortX {X : Cx} : CallR X (.builtin "sorted") (rSortX X.K) := by
  intro pins s σ H vs us Q I r h
  obtain ⟨d, hd, h⟩ := h
  exact cr_sortT hd pins s σ H vs us Q I r h
theorem ded_snoc (l : List (List Nat)) (a : List Nat) : ded (l ++ [a]) = addK (ded l) a := by
  unfold ded
  rw [List.foldl_append]
  rfl
def nxt (n : Nat) (ps : Ps) (l : List Nat) : List (List Nat) := (free n ps l).map fun x => srt (l ++ [x])
theorem nxt_len (n : Nat) (ps : Ps) (l : List Nat) : (nxt n ps l).length ≤ n := by
  unfold nxt
  rw [List.length_map]
  exact free_len n ps l
section
variable {P : Program} {w : World} {K : PySem.W.Frag} {mg : Str → Option Value} {base : Heap} {ad : Ad}
def spLots (ad : Ad) : Sp := fun vs H Q _ => ∃ C x n ps, vs = [.ref x] ∧ (C = ad.CW ∨ C = ad.CR) ∧ IsWeb C H x n ps ∧ n ≤ 5 ∧ ps.length < 64 ∧ ∀ H' b rs, Same H H' → Lt H' b rs → LotsOk n ps rs → rs.length ≤ 1000 → Q (.ref b) H'
theorem ok_lots_of (T : Txt K mg) (F : Cf K mg ad) : Cal P w K mg base CX0 2 "lots_of" (spLots ad) := by
  refine T.d_lots_of.ok sc_lots_of (fun vs H Q E h => ?_) (fun f cdv A outer s H vs Q E hr h => ?_)
  · obtain ⟨C, x, n, ps, rfl, _⟩ := h
    rfl
  obtain ⟨C, x, n, ps, rfl, hC, hw, hn, hz, q⟩ := h
  obtain ⟨cl, na1, na2, na3, na4⟩ := clsOf F hC
  refine ⟨_, (pss_cons (ps_set (i := 1) sc_lots_of.nd rfl (Or.inl rfl) (pe_lst (pa_cons (pe_tup pa_nil) pa_nil)))
  (pss_cons (ps_set (i := 2) sc_lots_of.nd rfl (Or.inl rfl) (pe_lst (pa_cons (pe_tup pa_nil) pa_nil)))
  (pss_cons (ps_for PassesOwn.never rfl (pi_range1 (by rfl) T.n_range (pa_cons (pe_fld (pv 0) rfl) pa_nil)) (pg_name (i := 3) sc_lots_of.nd rfl (Or.inl rfl))
  (pss_cons (ps_set (i := 4) sc_lots_of.nd rfl (Or.inl rfl) pe_dnewT)
  (pss_cons (ps_for PassesOwn.never rfl (pi_list (pv 2)) (pg_name (i := 5) sc_lots_of.nd rfl (Or.inl rfl))
  (pss_one (ps_for PassesOwn.never rfl (pi_list (pe_fn (ok_free_names T F) hr (by decide) rfl (pa_cons (pv 0) (pa_cons (pv 5) pa_nil)))) (pg_name (i := 6) sc_lots_of.nd rfl (Or.inl rfl))
  (pss_one (ps_dput (hu_of hr) (pv 4) (pe_fn (ok_with_name T) hr (by decide) rfl (pa_cons (pv 5) (pa_cons (pv 6) pa_nil))) pe_bl rfl)))))
  (pss_cons (ps_set (i := 2) sc_lots_of.nd rfl (Or.inl rfl) (pe_callB cr_sortX (by rfl) T.n_sorted (by decide +kernel) (pa_cons (pe_callTy (call_list_dT rfl) (by rfl) T.n_list (by decide +kernel) (pa_cons (pv 4) pa_nil)) pa_nil)))
  (pss_one (ps_expr (pe_bm PySem.F.plainAttrs_list PySem.F.slot_list_extend PySem.F.type_list_extend mt_extend (pv 1) (pa_cons (pv 2) pa_nil))))))))
  (pss_one (ps_ret (pv 1)))))), ?_⟩
  obtain ⟨r1, r2⟩ := rng_ok (n := n) (by omega)
  obtain ⟨dx, fs, hx, b0, l0, m0, rfl, hb0, hl0⟩ := id hw
  refine ⟨(by decide), fun p0 hp0 => ⟨(by show 1 ≤ sizeLine; decide), fun F0 hF0 => ?_⟩⟩
  refine ⟨(by decide), fun p1 hp1 => ⟨(by show 1 ≤ sizeLine; decide), fun L0 hL0 => ?_⟩⟩
  have s0 : Same H (upd (upd H p0 (.tup [])) F0 (.lst [V.ref p0])) := (same_new hp0).trans (same_new hF0)
  have hFn : H F0 = none := none_of (same_new hp0) hF0
  have f0 : Lt (upd (upd H p0 (.tup [])) F0 (.lst [V.ref p0])) F0 [[]] := lt_new hF0 (.cons (tn_new (r := [])) .nil)
  generalize upd (upd H p0 (.tup [])) F0 (.lst [V.ref p0]) = G0 at s0 f0 hp1 hL0 ⊢
  have s1 : Same G0 (upd (upd G0 p1 (.tup [])) L0 (.lst [V.ref p1])) := (same_new hp1).trans (same_new hL0)
  have f1 : Lt (upd (upd G0 p1 (.tup [])) L0 (.lst [V.ref p1])) L0 [[]] := lt_new hL0 (.cons (tn_new (r := [])) .nil)
  have hne : F0 ≠ L0 := fun e => by
    obtain ⟨_, e1, _⟩ := f0
    have := same_new (o := .tup []) hp1 _ _ e1
    rw [e, hL0] at this
    cases this
  refine ⟨_, rfl, x, C, dx, _, _, rfl, s1 _ _ (s0 _ _ hx), cl, na1, lk_many, n, rfl, r1, r2, ?_⟩
  refine for_it walk_rng (fun t σ H' => (∃ (la : Addr) (A L : List (List Nat)) (o3 o4 o5 o6 : Option V), σ = [some (.ref x), some (.ref F0), some (.ref la), o3, o4, o5, o6] ∧ Lots n ps t A L ∧ Lt H' F0 (A ++ L) ∧ Lt H' la L ∧ F0 ≠ la ∧ (A ++ L).length ≤ 64 * (t + 1)) ∧ Same H H')
    ⟨⟨L0, [], [[]], _, _, _, _, rfl, lots_start n ps, f0.same s1, f1, hne, by simp⟩, s0.trans s1⟩ (fun _ _ _ _ _ => trivial) ?_ ?_
  · rintro t y σ G9 G ht ⟨⟨la, AA, LL, o3, o4, o5, o6, rfl, hlots, hF, hla, hFla, hsz⟩, sG⟩ ⟨rfl, rfl⟩
    intro D hD
    have sD : Same G (upd G D (.dT [])) := same_new hD
    obtain ⟨xs, hxs, hps⟩ := hla
    have hxl : xs.length = LL.length := Paired.length hps
    have hLL : LL.length < 64 := lots_few hn hlots.nd fun l hl => hlots.lot l (List.mem_append_right _ hl)
    refine ⟨_, rfl, la, rfl, ⟨xs, .inl (.inl (sD _ _ hxs))⟩, ?_⟩
    refine for_it (walk_listN hxl) (fun i σ H' => (∃ (o5 o6 : Option V), σ = [some (.ref x), some (.ref F0), some (.ref la), some (nm t), some (.ref D), o5, o6]) ∧ Same G H' ∧ Dk H' D (ded ((LL.take i).flatMap (nxt n ps)))) ⟨⟨_, _, rfl⟩, sD, upd_same⟩ (fun i σ H' _ h => .inl (.inl (h.2.1 _ _ hxs))) ?_ ?_
    · rintro i y σ H30 H3 hi ⟨⟨o5, o6, rfl⟩, s3, d3⟩ ⟨rfl, hy⟩
      obtain ⟨l, hl, htn⟩ := Pd.get hps hy
      have htn3 := htn.tk (tk_of s3)
      have hlot := hlots.lot l (List.mem_append_right _ (List.mem_of_getElem? hl))
      have hll := hlot.le
      have e3 := List.length_take_le i LL
      have e2 := flat_len (nxt n ps) 5 (LL.take i) fun r _ => Nat.le_trans (nxt_len n ps r) hn
      refine ⟨_, rfl, _, rfl, C, x, y, n, ps, l, rfl, hC, (hw.same sG).same s3, htn3, by omega, hz, fun H4 fb s4 hfb => ⟨fb, rfl, ⟨_, .inl (.inl hfb)⟩, ?_⟩⟩
      have hfl := free_len n ps l
      refine for_it (walk_listN (n := (free n ps l).length) (by rw [List.length_map])) (fun j σ H' => (∃ (o6 : Option V), σ = [some (.ref x), some (.ref F0), some (.ref la), some (nm t), some (.ref D), some y, o6]) ∧ Same G H' ∧ Dk H' D (ded ((LL.take i).flatMap (nxt n ps) ++ (nxt n ps l).take j)) ∧ H' fb = some (.lst ((free n ps l).map nm)))
        ⟨⟨_, rfl⟩, s3.trans s4, (by rw [List.take_zero, List.append_nil]; exact s4 _ _ d3), hfb⟩ (fun j σ H' _ h => .inl (.inl h.2.2.2)) ?_ ?_
      · rintro j z σ H50 H5 hj ⟨⟨o6, rfl⟩, s5, d5, hfb5⟩ ⟨rfl, hz5⟩
        rw [List.getElem?_map] at hz5
        obtain ⟨zn, hzn, rfl⟩ := Option.map_eq_some_iff.mp hz5
        refine ⟨_, rfl, _, rfl, _, rfl, y, l, zn, rfl, htn.tk (tk_of s5), by omega, fun H6 yy s6 hyy => ?_⟩
        have d6 : Dk H6 D _ := s6 _ _ d5
        have hdl := ded_len ((LL.take i).flatMap (nxt n ps) ++ (nxt n ps l).take j)
        have e4 := List.length_take_le j (nxt n ps l)
        have e5 := nxt_len n ps l
        rw [List.length_append] at hdl
        have e6 : (LL.take i).length * 5 ≤ 64 * 5 := Nat.mul_le_mul_right 5 (by omega)
        have hDfb : fb ≠ D := fun e => by
          rw [e] at hfb5
          rw [show H5 D = some (.dT (dE (onD (ded ((LL.take i).flatMap (nxt n ps) ++ (nxt n ps l).take j))))) from d5] at hfb5
          cases hfb5
        refine ⟨D, _, rfl, d6.put hyy (by omega), ⟨_, rfl⟩, same_mut (s5.trans s6) hD, ?_, ?_⟩
        · have ej : (nxt n ps l)[j]? = some (srt (l ++ [zn])) := by
            unfold nxt
            rw [List.getElem?_map, hzn]
            rfl
          rw [take_snoc ej, ← List.append_assoc, ded_snoc]
          exact upd_same
        · rw [upd_ne hDfb]
          exact s6 _ _ hfb5
      · rintro σ H5 ⟨⟨o6, rfl⟩, s5, d5, _⟩
        refine ⟨⟨_, _, rfl⟩, s5, ?_⟩
        rw [take_flat _ hl]
        rw [List.take_of_length_le (show (nxt n ps l).length ≤ (free n ps l).length by unfold nxt; rw [List.length_map]; exact Nat.le_refl _)] at d5
        exact d5
    · rintro σ H3 ⟨⟨o5, o6, rfl⟩, s3, d3⟩
      rw [List.take_length] at d3
      have mem : ∀ q, q ∈ ded (LL.flatMap (nxt n ps)) ↔ ∃ l ∈ LL, ∃ x ∈ free n ps l, q = srt (l ++ [x]) := fun q => by
        rw [mem_ded, List.mem_flatMap]
        unfold nxt
        constructor
        · rintro ⟨l, hl, hq⟩
          obtain ⟨z, hz, e⟩ := List.mem_map.mp hq
          exact ⟨l, hl, z, hz, e.symm⟩
        · rintro ⟨l, hl, z, hz, e⟩
          exact ⟨l, hl, List.mem_map.mpr ⟨z, hz, e.symm⟩⟩
      have step0 := hlots.step (ded_nodup (LL.flatMap (nxt n ps))) mem
      have few : (ded (LL.flatMap (nxt n ps))).length < 64 := lots_few hn (ded_nodup _) fun l hl => step0.lot l (List.mem_append_right _ hl)
      refine ⟨_, rfl, D, _, rfl, .inl d3, fun l1 bs hl1 hk => ?_⟩
      have hk2 : Paired (Tn H3) (bs.map V.ref) (ded (LL.flatMap (nxt n ps))) := keys_tns (v := fun _ => V.bl true) hk
      have sl : Same H3 (upd H3 l1 (.lst (bs.map V.ref))) := same_new hl1
      dsimp only [tNil]
      refine ⟨t + 1, by omega, sortU_tns (n := 64) (.inl (.inl upd_same)) (tns_tk hk2 (tk_of sl)) (by omega) (fun k hk' => ⟨step0.len k hk', fun z hz' => by
        have := (step0.lot k (List.mem_append_right _ hk')).lt z hz'
        omega⟩) few fun ys ks' p hf h1 h2 _ => ?_⟩
      have sp : Same (upd H3 l1 (.lst (bs.map V.ref))) (upd (upd H3 l1 (.lst (bs.map V.ref))) p (.lst ys)) := same_new hf
      have step1 := hlots.step (L' := ks') (h2.nodup_iff.mpr (ded_nodup _)) fun q => (h2.mem_iff).trans (mem q)
      have few1 : ks'.length < 64 := by rw [h2.length_eq]; exact few
      have ltp := lt_new hf h1
      have hF3 := ((hF.same s3).same sl).same sp
      have sAll := s3.trans (sl.trans sp)
      obtain ⟨zs, hzs, hpz⟩ := hF3
      have hFp : F0 ≠ p := fun e => by
        obtain ⟨ws, hws, _⟩ := hF
        have h9 := sl _ _ (s3 _ _ hws)
        rw [e, hf] at h9
        cases h9
      refine ⟨_, rfl, .inl ⟨rfl, _, .inl (.inl hzs)⟩, _, rfl, F0, p, zs, ys, rfl, rfl, hzs, upd_same, ?_, ⟨p, AA ++ LL, ks', _, _, _, _, rfl, step1, ?_, ?_, hFp, ?_⟩, same_mut (sG.trans sAll) hFn⟩
      · have e1 := Paired.length hpz
        have e2 := Paired.length h1
        exact sz_le (by omega)
      · refine ⟨zs ++ ys, upd_same, ?_⟩
        have t6 : TK (upd (upd H3 l1 (.lst (bs.map V.ref))) p (.lst ys)) (upd (upd (upd H3 l1 (.lst (bs.map V.ref))) p (.lst ys)) F0 (.lst (zs ++ ys))) := tk_lst hzs
        exact Pd.app (tns_tk hpz t6) (tns_tk (tns_tk h1 (tk_of sp)) t6)
      · refine ⟨ys, by rw [upd_ne (Ne.symm hFp)]; exact upd_same, ?_⟩
        exact tns_tk (tns_tk h1 (tk_of sp)) (tk_lst hzs)
      · rw [List.length_append]
        omega
  · rintro σ H3 ⟨⟨la, AA, LL, o3, o4, o5, o6, rfl, hlots, hF, hla, hFla, hsz⟩, sG⟩
    exact ⟨_, rfl, q H3 F0 _ sG hF hlots.ok (by omega)⟩
end
end Ev

set_option maxRecDepth 100000
set_option maxHeartbeats 4000000
namespace Ev
open PySem PySem.Spec PyProof.Rows L2 EvM
/-- what rests has found: each lot's number; the full lot, and those of S -/
structure Rst (n : Nat) (ps : Ps) (S : List Nat → Prop) (d : List (List Nat × V)) : Prop where
  val : ∀ k v, valV d k = some v → Lot n k ∧ v = V.int ((cnt n ps (n - k.length) k : Nat) : Int)
  full : valV d (List.range n) ≠ none
  has : ∀ k, S k → valV d k ≠ none
theorem rgV_nm (n : Nat) : rgV 0 (n : Int) = (List.range n).map nm := by
  unfold rgV
  apply List.ext_getElem
  · simp
  · intro i h1 h2
    simp [nm]
theorem sum_cast (l : List Nat) : (l.map fun x : Nat => (x : Int)).sum = ((l.sum : Nat) : Int) := by
  induction l with
  | nil => rfl
  | cons a l ih =>
    rw [List.map_cons, List.sum_cons, List.sum_cons, ih]
    omega
theorem tn_get {H : Hp} {D : Addr} {d : List (List Nat × V)} {y : V} {r : List Nat} (h : H D = some (.dT (dE d))) (t : Tn H y r) : DGet H D y (valV d r) := by
  obtain ⟨b, rfl, hb⟩ := t
  rw [← dE_val]
  exact .t h (by rw [ky_map]; exact hb)
theorem tn_put {H : Hp} {D : Addr} {d : List (List Nat × V)} {y v : V} {r : List Nat} (h : H D = some (.dT (dE d))) (t : Tn H y r) (hz : d.length < 16777216) : DPut H D y v (upd H D (.dT (dE (putK d r v)))) := by
  obtain ⟨b, rfl, hb⟩ := t
  rw [← dE_put]
  exact .t h (by rw [ky_map]; exact hb) (by unfold dE; rw [List.length_map]; exact sz_lt hz)
section
variable {P : Program} {w : World} {K : PySem.W.Frag} {mg : Str → Option Value} {base : Heap} {ad : Ad}
def spRests (ad : Ad) : Sp := fun vs H Q _ => ∃ C x n ps, vs = [.ref x] ∧ (C = ad.CW ∨ C = ad.CR) ∧ IsWeb C H x n ps ∧ n ≤ 5 ∧ ps.length < 64 ∧ ∀ H' D d, Same H H' → H' D = some (.dT (dE d)) → valV d [] = some (.int (((ords n ps).length : Nat) : Int)) → Q (.ref D) H'
theorem ok_rests (T : Txt K mg) (F : Cf K mg ad) : Cal P w K mg base CX0 3 "rests" (spRests ad) := by
  refine T.d_rests.ok sc_rests (fun vs H Q E h => ?_) (fun f cdv A outer s H vs Q E hr h => ?_)
  · obtain ⟨C, x, n, ps, rfl, _⟩ := h
    rfl
  obtain ⟨C, x, n, ps, rfl, hC, hw, hn, hz, q⟩ := h
  obtain ⟨cl, na1, na2, na3, na4⟩ := clsOf F hC
  refine ⟨_, (pss_cons (ps_set (i := 1) sc_rests.nd rfl (Or.inr rfl) (pe_dispT (hu_of hr) (pe_tupRg rfl (by rfl) T.n_tuple (prg_1 (by rfl) T.n_range (pe_fld (pv 0) rfl))) pe_int))
  (pss_cons (ps_for PassesOwn.never rfl (pi_reversed (by rfl) T.n_reversed (pa_cons (pe_fn (ok_lots_of T F) hr (by decide) rfl (pa_cons (pv 0) pa_nil)) pa_nil)) (pg_name (i := 2) sc_rests.nd rfl (Or.inr rfl))
  (pss_one (ps_if (pt_cmp (pc_dnotin (hu_of hr) (pv 2) (pv 1))) (pss_one (ps_dput (hu_of hr) (pv 1) (pv 2) (pe_callB (cr_sum rfl) (by rfl) T.n_sum (by decide +kernel) (pa_cons (pe_lc (own := [("name", 3)]) rfl sc_rests.nd (pi_list (pe_fn (ok_free_names T F) hr (by decide) rfl (pa_cons (pv 0) (pa_cons (pv 2) pa_nil)))) (blkOk_by (N := ["web", "found", "lot", "name"]) (sc := defScope s_rests) (own := [("name", 3)]) (by decide +kernel)) (fun _ _ _ _ _ => (pg_name (i := 3) sc_rests.nd rfl (Or.inl rfl))) (fun _ _ _ _ _ => pts_nil) (fun _ _ _ _ _ => (pe_dget (hu_of hr) (pv 1) (pe_fn (ok_with_name T) hr (by decide) rfl (pa_cons (pv 2) (pa_cons (pv 3) pa_nil))) (fun _ _ => rfl)))) pa_nil)) rfl)) pss_nil)))
  (pss_one (ps_ret (pv 1))))), ?_⟩
  obtain ⟨dx, fs, hx, b0, l0, m0, rfl, hb0, hl0⟩ := id hw
  intro D hD
  have sD : Same H (upd H D (.dT [])) := same_new hD
  refine ⟨_, rfl, x, C, dx, _, _, rfl, sD _ _ hx, cl, na1, lk_many, n, rfl, ⟨by omega, by omega, by omega, by omega, by omega⟩, fun b hb => ?_⟩
  have sb : Same (upd H D (.dT [])) (upd (upd H D (.dT [])) b (.tup (rgV 0 n))) := same_new hb
  refine ⟨b, ky (List.range n), rfl, (by rw [ky_map, ← rgV_nm]; exact upd_same), sb _ _ upd_same, ?_⟩
  have s1 : Same H (upd (upd (upd H D (.dT [])) b (.tup (rgV 0 n))) D (.dT [(ky (List.range n), V.int 1)])) := same_mut (sD.trans sb) hD
  have d1 : (upd (upd (upd H D (.dT [])) b (.tup (rgV 0 n))) D (.dT [(ky (List.range n), V.int 1)])) D = some (.dT (dE [(List.range n, V.int 1)])) := upd_same
  generalize upd (upd (upd H D (.dT [])) b (.tup (rgV 0 n))) D (.dT [(ky (List.range n), V.int 1)]) = G1 at s1 d1 ⊢
  refine ⟨_, rfl, C, x, n, ps, rfl, hC, hw.same s1, hn, hz, fun G2 lb rs s2 hlb hok hrl => ?_⟩
  obtain ⟨xs, hxs, hps⟩ := hlb
  have hxl : xs.length = rs.length := Paired.length hps
  have lot_full : Lot n (List.range n) := ⟨List.pairwise_lt_range, fun z hz => List.mem_range.mp hz⟩
  have start : Rst n ps (fun k => ∃ j, xs.length - 0 ≤ j ∧ rs[j]? = some k) [(List.range n, V.int 1)] := by
    refine ⟨fun k v hv => ?_, ?_, ?_⟩
    · by_cases e : List.range n = k
      · rw [valV_pos (p := (List.range n, V.int 1)) e] at hv
        cases hv
        subst e
        refine ⟨lot_full, ?_⟩
        rw [List.length_range, Nat.sub_self]
        rfl
      · rw [valV_neg (p := (List.range n, V.int 1)) e, valV_nil] at hv
        cases hv
    · rw [valV_pos (p := (List.range n, V.int 1)) rfl]
      simp
    · rintro k ⟨j, hj, e⟩
      have := (List.getElem?_eq_some_iff.mp e).1
      omega
  refine ⟨lb, xs, rfl, .inl (.inl hxs), ?_⟩
  refine for_it walk_rev (fun i σ H' => (∃ (o2 : Option V) (d : List (List Nat × V)), σ = [some (.ref x), some (.ref D), o2, none] ∧ H' D = some (.dT (dE d)) ∧ d.length ≤ i + 1 ∧ Rst n ps (fun k => ∃ j, xs.length - i ≤ j ∧ rs[j]? = some k) d) ∧ Same H H' ∧ H' lb = some (.lst xs) ∧ Paired (Tn H') xs rs)
    ⟨⟨_, _, rfl, s2 _ _ d1, by simp, start⟩, s1.trans s2, hxs, hps⟩ (fun i σ H' _ h => .inl (.inl h.2.2.1)) ?_ ?_
  · rintro i y σ H30 H3 hi ⟨⟨o2, d, rfl, hd, hdl, R⟩, s3, hx3, hp3⟩ ⟨rfl, hy⟩
    obtain ⟨l, hl, htn⟩ := Pd.get hp3 hy
    have hlot := hok.lot l (List.mem_of_getElem? hl)
    have hle := hlot.le
    have hlbD : lb ≠ D := fun e => by rw [e, hd] at hx3; cases hx3
    have more : ∀ {d' : List (List Nat × V)}, Rst n ps (fun k => ∃ j, xs.length - i ≤ j ∧ rs[j]? = some k) d' → valV d' l ≠ none → Rst n ps (fun k => ∃ j, xs.length - (i + 1) ≤ j ∧ rs[j]? = some k) d' := fun {d'} R' h' => by
      refine ⟨R'.val, R'.full, ?_⟩
      rintro k ⟨j, hj, e⟩
      by_cases c : xs.length - i ≤ j
      · exact R'.has k ⟨j, c, e⟩
      · have ej : j = xs.length - 1 - i := by omega
        rw [ej, hl] at e
        cases e
        exact h'
    refine ⟨_, rfl, _, rfl, D, _, rfl, tn_get hd htn, _, rfl, ?_⟩
    refine ite2 (fun c => ?_) (fun c => ?_)
    · have hno : valV d l = none := by
        cases e : valV d l with
        | none => rfl
        | some v => rw [e] at c; cases c
      have hlt : l.length < n := by
        rcases Nat.lt_or_ge l.length n with h | h
        · exact h
        · have := hlot.full (by omega)
          rw [this] at hno
          exact absurd hno R.full
      refine ⟨_, rfl, _, rfl, C, x, y, n, ps, l, rfl, hC, hw.same s3, htn, by omega, hz, fun H4 fb s4 hfb => ⟨fb, rfl, ⟨_, .inl (.inl hfb)⟩, fun E hE => ?_⟩⟩
      have hd4 := s4 _ _ hd
      refine lc_gen (free n ps l) (fun _ => true) (fun z => cnt n ps (n - l.length - 1) (srt (l ++ [z]))) (fun _ v b => v = .int ((b : Nat) : Int)) (fun _ _ _ _ _ h => h) (walk_listN (by rw [List.length_map])) (by have := free_len n ps l; omega) hE (fun H' s' => .inl (.inl (s' _ _ hfb))) ?_ ?_
      · rintro j z x5 H50 H5 hj s5 ⟨rfl, hx5⟩ Kc Kn kc kn
        rw [List.getElem?_map, hj] at hx5
        cases hx5
        refine ⟨rfl, ?_⟩
        refine ⟨_, rfl, _, rfl, _, rfl, y, l, z, rfl, (htn.tk (tk_of s4)).tk (tk_of s5), by omega, fun H6 yy s6 hyy => ?_⟩
        have hzf := List.mem_of_getElem? hj
        obtain ⟨jj, hjj, ejj⟩ := hok.next _ l hl z hzf
        have hh := R.has _ ⟨jj, by omega, ejj⟩
        obtain ⟨lw1, lw2⟩ := lot_with hlot hzf
        cases ev : valV d (srt (l ++ [z])) with
        | none => exact absurd ev hh
        | some v =>
          obtain ⟨_, hv⟩ := R.val _ _ ev
          have g := tn_get (s6 _ _ (s5 _ _ hd4)) hyy
          rw [ev] at g
          refine ⟨D, v, rfl, g, kc rfl _ _ s6 ?_⟩
          rw [hv, lw2, Nat.sub_sub]
      · intro H6 zs s6 hzs hpz
        have ez := Pd.eq_map (f := fun b : Nat => V.int (b : Int)) hpz
        subst ez
        rw [List.filter_eq_self.mpr (fun _ _ => rfl)] at hzs
        refine ⟨E, ((free n ps l).map fun z => cnt n ps (n - l.length - 1) (srt (l ++ [z]))).map (fun x : Nat => (x : Int)), rfl, .inl (.inl (by rw [hzs, List.map_map, List.map_map, List.map_map]; rfl)), _, rfl, _, rfl, D, _, rfl, tn_put (s6 _ _ hd4) ((htn.tk (tk_of s4)).tk (tk_of s6)) (by omega), ?_⟩
        rw [sum_cast, ← show cnt n ps (n - l.length) l = ((free n ps l).map fun z => cnt n ps (n - l.length - 1) (srt (l ++ [z]))).sum by
          rw [show n - l.length = (n - l.length - 1) + 1 by omega]
          rfl]
        have R2 : Rst n ps (fun k => ∃ j, xs.length - i ≤ j ∧ rs[j]? = some k) (putK d l (V.int ((cnt n ps (n - l.length) l : Nat) : Int))) := by
          refine ⟨fun k v hv => ?_, ?_, fun k hk => ?_⟩
          · rw [valV_put] at hv
            by_cases e : k = l
            · rw [if_pos e] at hv
              cases hv
              subst e
              exact ⟨hlot, rfl⟩
            · rw [if_neg e] at hv
              exact R.val k v hv
          · rw [valV_put]
            by_cases e : List.range n = l
            · rw [if_pos e]
              simp
            · rw [if_neg e]
              exact R.full
          · rw [valV_put]
            by_cases e : k = l
            · rw [if_pos e]
              simp
            · rw [if_neg e]
              exact R.has k hk
        have hpl := length_putK d l (V.int ((cnt n ps (n - l.length) l : Nat) : Int))
        refine ⟨⟨_, _, rfl, upd_same, by omega, more R2 (by rw [valV_put, if_pos rfl]; simp)⟩, same_mut ((s3.trans s4).trans s6) hD, ?_, ?_⟩
        · rw [upd_ne hlbD]
          exact s6 _ _ (s4 _ _ hx3)
        · exact tns_tk (tns_tk hp3 (tk_of (s4.trans s6))) (tk_dT (s6 _ _ hd4))
    · have hyes : valV d l ≠ none := fun e => by
        rw [e] at c
        exact c rfl
      exact ⟨⟨_, _, rfl, hd, by omega, more R hyes⟩, s3, hx3, hp3⟩
  · rintro σ H3 ⟨⟨o2, d, rfl, hd, hdl, R⟩, s3, hx3, hp3⟩
    refine ⟨_, rfl, q H3 D d s3 hd ?_⟩
    have h0 := R.has [] ⟨0, by omega, hok.first⟩
    cases ev : valV d [] with
    | none => exact absurd ev h0
    | some v =>
      obtain ⟨_, hv⟩ := R.val _ _ ev
      rw [hv, ords_cnt]
      rfl
def spCount (ad : Ad) : Sp := fun vs H Q _ => ∃ C x n ps, vs = [.ref x] ∧ (C = ad.CW ∨ C = ad.CR) ∧ IsWeb C H x n ps ∧ n ≤ 5 ∧ ps.length < 64 ∧ ∀ H', Same H H' → Q (.int (((ords n ps).length : Nat) : Int)) H'
theorem ok_count (T : Txt K mg) (F : Cf K mg ad) : Cal P w K mg base CX0 4 "count" (spCount ad) := by
  refine T.d_count.ok sc_count (fun vs H Q E h => ?_) (fun f cdv A outer s H vs Q E hr h => ?_)
  · obtain ⟨C, x, n, ps, rfl, _⟩ := h
    rfl
  obtain ⟨C, x, n, ps, rfl, hC, hw, hn, hz, q⟩ := h
  refine ⟨_, (pss_one (ps_ret (pe_dget (hu_of hr) (pe_fn (ok_rests T F) hr (by decide) rfl (pa_cons (pv 0) pa_nil)) (pe_tup pa_nil) (fun _ _ => rfl)))), ?_⟩
  refine ⟨_, rfl, C, x, n, ps, rfl, hC, hw, hn, hz, fun H1 D d s1 hd hv => ⟨(by decide), fun p hp => ?_⟩⟩
  have g := tn_get (same_new (o := .tup []) hp _ _ hd) (tn_new (r := []))
  rw [hv] at g
  exact ⟨D, _, rfl, g, q _ (s1.trans (same_new hp))⟩
end
end Ev

set_option maxRecDepth 100000
set_option maxHeartbeats 4000000
namespace Ev
open PySem PySem.Spec PyProof.Rows L2 EvM
/-! ### for x in a list or a tuple -/
def iSeq (K : PySem.W.Frag) (tl : TE) : TI := fun σ H R => tl σ H fun x H1 => ∃ a xs, x = .ref a ∧ ((SqL K H1 a xs ∧ R (Itl K a) H1) ∨ (SqT K H1 a xs ∧ R (Itt K a) H1))
theorem pi_seq {X : Cx} {tg l : Expr} {tl : TE} (hl : PE X l tl) : PI X tg l (iSeq X.K tl) := by
  refine ⟨fun pins s σ H R I h => ?_⟩
  refine thn (hl.run pins s σ H _ I h) fun v s1 ⟨x, H1, I1, r1, q1⟩ => ?_
  obtain ⟨a, xs, e, q⟩ := q1
  subst e
  cases r1
  have low : ∀ b ∈ [s1.heap.objs.size], FpOk X pins H1 b := fun b hb => by
    have e : b = s1.heap.objs.size := by simpa using hb
    subst e
    exact I1.fpOk (Nat.le_refl _) (I1.hok.fresh (Nat.le_refl _))
  rcases q with ⟨hq, q⟩ | ⟨hq, q⟩
  · obtain ⟨its, rv, p, hz⟩ := I1.list hq
    refine wpAny_pyIter_list p.isList ?_
    exact ⟨s1.heap.objs.size, [s1.heap.objs.size], _, _, H1, rfl, I1.kept (t' := s1.toks) fun b o e => Heap.get?_push_of_some _ e, turn_list a _, ⟨_, Heap.get?_push_size _ rfl, rfl, rfl⟩, low, q⟩
  · obtain ⟨its, rv, p, hz⟩ := I1.tuple hq
    refine wpAny_pyIter_tuple (show s1.heap.IsTuple a its.toArray from p) ?_
    exact ⟨s1.heap.objs.size, [s1.heap.objs.size], _, _, H1, rfl, I1.kept (t' := s1.toks) fun b o e => Heap.get?_push_of_some _ e, turn_tuple a _, ⟨_, Heap.get?_push_size _ rfl, rfl, rfl⟩, low, q⟩
/-! ### things -/
abbrev Th := Option (List (Option (List (Option Int))))
def ThD (K : PySem.W.Frag) (H : Hp) (v : V) : Th → Prop
  | some rows => ∃ a xs, v = .ref a ∧ (H a = some (.lst xs) ∨ Rd H a (.tup xs)) ∧ Paired (RwD K H) xs rows
  | none => ∃ t, t ≠ Bt.tuple ∧ t ≠ Bt.list ∧ IsB K H v t
theorem thd_same {K : PySem.W.Frag} {H H' : Hp} {v : V} {o : Th} (h : ThD K H v o) (s : Same H H') : ThD K H' v o := by
  cases o with
  | some os =>
    obtain ⟨a, xs, e, ha, hp⟩ := h
    exact ⟨a, xs, e, ha.imp (s _ _) (fun h => Rd.same h s), L2.Paired.mapP hp fun _ _ q => rwd_same q s⟩
  | none =>
    obtain ⟨t, h1, h2, ht⟩ := h
    exact ⟨t, h1, h2, isb_same ht s⟩
theorem thd_isb {K : PySem.W.Frag} {H : Hp} {v : V} {o : Th} (h : ThD K H v o) : ∃ t, IsB K H v t ∧ (t.is .list || t.is .tuple) = o.isSome := by
  cases o with
  | some os =>
    obtain ⟨a, xs, rfl, ha | ha, _⟩ := h
    · exact ⟨.list, isb_lst ha, rfl⟩
    · exact ⟨.tuple, isb_tupR ha, rfl⟩
  | none =>
    obtain ⟨t, h1, h2, ht⟩ := h
    exact ⟨t, ht, by cases t <;> first | rfl | exact absurd rfl h1 | exact absurd rfl h2⟩
def rowOk (n : Nat) (r : Option (List (Option Int))) : Bool := areNames (n : Int) r && decide ((r.getD []).length = n)
def areRows : Th → Bool
  | some (some os :: rest) => decide ((some os :: rest).length ≤ 1000) && (decide (1 ≤ os.length) && decide (os.length ≤ 8)) && (some os :: rest).all (rowOk os.length)
  | _ => false
theorem areRows_some (os : List (Option Int)) (rest : List (Option (List (Option Int)))) : areRows (some (some os :: rest)) = (decide ((some os :: rest).length ≤ 1000) && (decide (1 ≤ os.length) && decide (os.length ≤ 8)) && (some os :: rest).all (rowOk os.length)) := rfl
def sizesOk (th : Th) : Prop := ∀ rows, th = some rows → rows.length < 4000 ∧ ∀ os, some os ∈ rows → os.length < 4000
section
variable {P : Program} {w : World} {K : PySem.W.Frag} {mg : Str → Option Value} {base : Heap} {ad : Ad}
def spRows (K : PySem.W.Frag) : Sp := fun vs H Q _ => ∃ v th, vs = [v] ∧ ThD K H v th ∧ sizesOk th ∧ ∀ H', Same H H' → Q (.bl (areRows th)) H'
theorem seq_of {H : Hp} {a : Addr} {xs : List V} (h : H a = some (.lst xs) ∨ Rd H a (.tup xs)) : SqL K H a xs ∨ SqT K H a xs := h.elim (fun h => .inl (.inl (.inl h))) fun h => .inr (.inl h)
theorem at0 {α : Type} {x : α} {xs : List α} : atI (x :: xs) (0 : Int) = some x := atI_nat (j := 0) rfl
theorem ix0 {H : Hp} {a : Addr} {x : V} {xs : List V} {Q : VK} (h : H a = some (.lst (x :: xs)) ∨ Rd H a (.tup (x :: xs))) (q : Q x H) : rIx K (.ref a) (.int 0) H Q := by
  rcases h with h | h
  · exact .inl ⟨a, _, 0, x, rfl, rfl, .inl (.inl h), at0, q⟩
  · exact .inr (.inl ⟨a, _, 0, x, rfl, rfl, .inl h, at0, q⟩)
theorem ok_are_rows (T : Txt K mg) : Cal P w K mg base CX0 4 "are_rows" (spRows K) := by
  refine T.d_are_rows.ok sc_are_rows (fun vs H Q E h => ?_) (fun f cdv A outer s H vs Q E hr h => ?_)
  · obtain ⟨v, th, rfl, _⟩ := h
    rfl
  obtain ⟨v, th, rfl, hth, hsz, q⟩ := h
  refine ⟨_, (pss_cons (ps_if (PW.pt (pw_or (pt_not (pt_val (pe_fn (ok_is_listed T) hr (by decide) rfl (pa_cons (pv 0) pa_nil)))) (pw_or (pt_not (pt_chain op_le op_le pe_int (pe_callB call_len_seq (by rfl) T.n_len (by decide +kernel) (pa_cons (pv 0) pa_nil)) (pe_gl (v := .int 1000) rfl T.g_MOST_ROWS))) (pw_or1 (pt_not (pt_val (pe_callB call_isi (by rfl) T.n_isinstance (by decide +kernel) (pa_cons (pe_ix (r := rIx K) ix_seq (pv 0) pe_int (fun _ _ => rfl)) (pa_cons (pe_ty "tuple" (by rfl) T.n_tuple (by decide +kernel)) pa_nil))))))))) (pss_one (ps_ret pe_bl)) pss_nil)
  (pss_cons (ps_set (i := 1) sc_are_rows.nd rfl (Or.inr rfl) (pe_callB call_len_seq (by rfl) T.n_len (by decide +kernel) (pa_cons (pe_ix (r := rIx K) ix_seq (pv 0) pe_int (fun _ _ => rfl)) pa_nil)))
  (pss_cons (ps_if (pt_not (pt_chain op_le op_le pe_int (pv 1) (pe_gl (v := .int 8) rfl T.g_MOST_NAMES))) (pss_one (ps_ret pe_bl)) pss_nil)
  (pss_one (ps_ret (pe_callB (cr_all rfl) (by rfl) T.n_all (by decide +kernel) (pa_cons (pe_lc (own := [("row", 2)]) rfl sc_are_rows.nd (pi_seq (pv 0)) (blkOk_by (N := ["thing", "many", "row"]) (sc := defScope s_are_rows) (own := [("row", 2)]) (by decide +kernel)) (fun _ _ _ _ _ => (pg_name (i := 2) sc_are_rows.nd rfl (Or.inl rfl))) (fun _ _ _ _ _ => pts_nil) (fun _ _ _ _ _ => (pe_and (pe_fn (ok_are_names T) hr (by decide) rfl (pa_cons (pv 1) (pa_cons (pv 2) pa_nil))) (pe_one (pe_cmpR op_eq (pe_callB (r := rLenQ K) lenK (by rfl) T.n_len (by decide +kernel) (pa_cons (pv 2) pa_nil)) (pv 1) (nomark _)))))) pa_nil))))))), ?_⟩
  obtain ⟨t, hb, ht⟩ := thd_isb hth
  refine ⟨_, rfl, v, t, rfl, hb, fun H1 s1 => ⟨_, rfl, ?_⟩⟩
  rw [ht]
  have no : areRows th = false → Q (.bl false) H1 := fun e => e ▸ q _ s1
  cases th with
  | none => exact iteT (iteT (no rfl))
  | some rows =>
    refine iteF ?_
    obtain ⟨hr1, hr2⟩ := hsz rows rfl
    obtain ⟨a, xs, rfl, ha, hp⟩ := hth
    have ha1 : H1 a = some (.lst xs) ∨ Rd H1 a (.tup xs) := ha.imp (s1 a (.lst xs)) fun h => Rd.same h s1
    have hp1 : Paired (RwD K H1) xs rows := L2.Paired.mapP hp fun _ _ q => rwd_same q s1
    have hxl : xs.length = rows.length := Paired.length hp
    refine ⟨_, rfl, a, xs, rfl, seq_of ha1, 1, (xs.length : Int), rfl, rfl, _, rfl, ?_⟩
    cases rows with
    | nil =>
      have e0 : xs.length = 0 := hxl
      rw [decide_eq_false (by omega)]
      exact iteF ⟨_, rfl, iteT (iteT (no rfl))⟩
    | cons r0 rest =>
      cases xs with
      | nil => cases hxl
      | cons x0 xs =>
        rw [decide_eq_true (show (1 : Int) ≤ ((x0 :: xs).length : Nat) by rw [List.length_cons]; omega)]
        refine iteT ⟨_, 1000, rfl, rfl, _, rfl, ?_⟩
        cases hp1 with
        | cons hx0 hp1 =>
          have hpp : Paired (RwD K H1) (x0 :: xs) (r0 :: rest) := .cons hx0 hp1
          by_cases c1 : (r0 :: rest).length ≤ 1000
          case neg =>
            rw [decide_eq_false (by rw [hxl]; omega)]
            refine iteT (iteT (no ?_))
            cases r0 with
            | none => rfl
            | some os =>
              rw [areRows_some, decide_eq_false c1]
              rfl
          case pos =>
            rw [decide_eq_true (show (((x0 :: xs).length : Nat) : Int) ≤ 1000 by rw [hxl]; omega)]
            refine iteF ?_
            obtain ⟨t0, hb0, ht0⟩ := rwd_isb hx0
            refine ⟨_, rfl, ix0 ha1 ⟨_, _, _, _, _, rfl, .ty _, hb0, bt_kit t0 .tuple, _, rfl, ?_⟩⟩
            rw [ht0]
            cases r0 with
            | none => exact iteT (no rfl)
            | some os =>
              refine iteF ?_
              obtain ⟨a0, ys, rfl, ha0, hpo⟩ := hx0
              have hyl : ys.length = os.length := Paired.length hpo
              have hos := hr2 os (by simp)
              refine ⟨_, rfl, ix0 ha1 ⟨a0, ys, rfl, .inr (.inl ha0), ?_⟩⟩
              rw [hyl]
              refine ⟨_, rfl, 1, _, rfl, rfl, _, rfl, ?_⟩
              have sz : areRows (some (some os :: rest)) = ((decide (1 ≤ os.length) && decide (os.length ≤ 8)) && (some os :: rest).all (rowOk os.length)) := by
                rw [areRows_some, decide_eq_true c1, Bool.true_and]
              by_cases c2 : 1 ≤ os.length
              case neg =>
                rw [decide_eq_false (by omega)]
                refine iteF ⟨_, rfl, iteT (no ?_)⟩
                rw [sz, decide_eq_false c2]
                rfl
              case pos =>
                rw [decide_eq_true (show (1 : Int) ≤ (os.length : Nat) by omega)]
                refine iteT ⟨_, 8, rfl, rfl, _, rfl, ?_⟩
                by_cases c3 : os.length ≤ 8
                case neg =>
                  rw [decide_eq_false (by omega)]
                  refine iteT (no ?_)
                  rw [sz, decide_eq_false c3, Bool.and_false]
                  rfl
                case pos =>
                  rw [decide_eq_true (show ((os.length : Nat) : Int) ≤ 8 by omega)]
                  refine iteF ?_
                  have sz2 : areRows (some (some os :: rest)) = (some os :: rest).all (rowOk os.length) := by
                    rw [sz, decide_eq_true c2, decide_eq_true c3]
                    rfl
                  have main : ∀ (J : It) (G : Hp → Prop) (D : Addr), Walk J (some os :: rest).length G (YAt (V.ref a0 :: xs)) → H1 D = none → (∀ H', Same H1 H' → G H') → _ := fun J G D w hD hG =>
                    lc_gen (vs := [2]) (σ := [some (.ref a), some (.int (os.length : Nat)), none]) (g := gName 2) (tt := fun _ H Q => Q true H) (te := tAndV (tCall (spNames K) [] E0 (tCons (tVar 1) (tCons (tVar 2) tNil))) (tOp rEq (tCB (rLenQ K) (tCons (tVar 2) tNil)) (tVar 1)))
                      (Qd := fun H' => rAll K [.ref D] H' Q) (some os :: rest) (fun _ => true) (rowOk os.length) (fun _ v b => v = .bl b) (fun _ _ _ _ _ h => h) w (by omega) hD hG (by
                      rintro i r x H20 H2 hi s2 ⟨rfl, hx⟩ Kc Kn kc kn
                      refine ⟨rfl, ?_⟩
                      obtain ⟨r', hr', hrd⟩ := Pd.get hpp hx
                      rw [hi] at hr'
                      cases hr'
                      have hrd2 := rwd_same hrd s2
                      refine ⟨_, rfl, _, rfl, _, x, r, rfl, hrd2, fun os' e => hr2 os' (by rw [← e]; exact List.mem_of_getElem? hi), fun H3 s3 => ⟨_, rfl, ?_⟩⟩
                      cases c4 : areNames ((os.length : Nat) : Int) r with
                      | false =>
                        refine iteF (kc rfl _ _ s3 ?_)
                        unfold rowOk
                        rw [c4, Bool.false_and]
                      | true =>
                        refine iteT ?_
                        cases r with
                        | none => cases c4
                        | some q1 =>
                          obtain ⟨a1, zs, rfl, ha1', hp1'⟩ := rwd_same hrd2 s3
                          have hzl : zs.length = q1.length := Paired.length hp1'
                          refine ⟨_, rfl, a1, zs, rfl, .inr (.inl ha1'), _, rfl, rfl, kc rfl _ _ s3 ?_⟩
                          unfold rowOk
                          rw [c4, Bool.true_and, int_eq, hzl]
                          rfl) (by
                      intro H2 zs s2 hzs hpz
                      have ez := Pd.eq_map (f := V.bl) hpz
                      subst ez
                      refine ⟨D, _, rfl, .inl (.inl hzs), ?_⟩
                      rw [all_map]
                      have q2 := q _ (s1.trans s2)
                      rw [sz2] at q2
                      exact q2)
                  rcases ha1 with ha1 | ha1
                  · exact ⟨_, rfl, a, _, rfl, .inl ⟨.inl (.inl ha1), fun D hD => main _ _ D (walk_listN hxl) hD fun H' s' => .inl (.inl (s' _ _ ha1))⟩⟩
                  · exact ⟨_, rfl, a, _, rfl, .inr ⟨.inl ha1, fun D hD => main _ _ D (walk_tupN hxl) hD fun H' s' => .inl (Rd.same ha1 s')⟩⟩
end
end Ev

set_option maxRecDepth 100000
set_option maxHeartbeats 4000000
namespace Ev
open PySem PySem.Spec PyProof.Rows L2 EvM
section
variable {P : Program} {w : World} {K : PySem.W.Frag} {mg : Str → Option Value} {base : Heap} {ad : Ad}
theorem ok_l_are_rows (T : Txt K mg) : Cal P w K mg base CX0 3 "_law_are_rows" (spRows K) := by
  refine T.d_l_are_rows.ok sc_l_are_rows (fun vs H Q E h => ?_) (fun f cdv A outer s H vs Q E hr h => ?_)
  · obtain ⟨v, th, rfl, _⟩ := h
    rfl
  obtain ⟨v, th, rfl, hth, hsz, q⟩ := h
  refine ⟨_, (pss_cons (ps_if (PW.pt (pw_or (pt_not (pt_val (pe_callB call_isiT (by rfl) T.n_isinstance (by decide +kernel) (pa_cons (pv 0) (pa_cons (pe_tup (pa_cons (pe_ty "list" (by rfl) T.n_list (by decide +kernel)) (pa_cons (pe_ty "tuple" (by rfl) T.n_tuple (by decide +kernel)) pa_nil))) pa_nil))))) (pw_or (pt_cmpR op_lt (pe_callB call_len_seq (by rfl) T.n_len (by decide +kernel) (pa_cons (pv 0) pa_nil)) pe_int (nomark _)) (pw_or1 (pt_cmpR op_gt (pe_callB call_len_seq (by rfl) T.n_len (by decide +kernel) (pa_cons (pv 0) pa_nil)) pe_int (nomark _)))))) (pss_one (ps_ret pe_bl)) pss_nil)
  (pss_cons (ps_if (PW.pt (pw_or (pt_not (pt_val (pe_callB call_isi (by rfl) T.n_isinstance (by decide +kernel) (pa_cons (pe_ix (r := rIx K) ix_seq (pv 0) pe_int (fun _ _ => rfl)) (pa_cons (pe_ty "tuple" (by rfl) T.n_tuple (by decide +kernel)) pa_nil))))) (pw_or (pt_cmpR op_lt (pe_callB call_len_seq (by rfl) T.n_len (by decide +kernel) (pa_cons (pe_ix (r := rIx K) ix_seq (pv 0) pe_int (fun _ _ => rfl)) pa_nil)) pe_int (nomark _)) (pw_or1 (pt_cmpR op_gt (pe_callB call_len_seq (by rfl) T.n_len (by decide +kernel) (pa_cons (pe_ix (r := rIx K) ix_seq (pv 0) pe_int (fun _ _ => rfl)) pa_nil)) pe_int (nomark _)))))) (pss_one (ps_ret pe_bl)) pss_nil)
  (pss_cons (ps_set (i := 1) sc_l_are_rows.nd rfl (Or.inr rfl) (pe_callB call_len_seq (by rfl) T.n_len (by decide +kernel) (pa_cons (pe_ix (r := rIx K) ix_seq (pv 0) pe_int (fun _ _ => rfl)) pa_nil)))
  (pss_one (ps_ret (pe_cmpR op_eq (pe_callB call_len_seq (by rfl) T.n_len (by decide +kernel) (pa_cons (pe_lc (own := [("_law_row", 2)]) rfl sc_l_are_rows.nd (pi_seq (pv 0)) (blkOk_by (N := ["_law_thing", "_law_many", "_law_row"]) (sc := defScope s_l_are_rows) (own := [("_law_row", 2)]) (by decide +kernel)) (fun _ _ _ _ _ => (pg_name (i := 2) sc_l_are_rows.nd rfl (Or.inl rfl))) (fun _ _ _ _ _ => (pts_one (PW.pt (pw_or (pt_not (pt_val (pe_fn (ok_l_are_names T) hr (by decide) rfl (pa_cons (pv 1) (pa_cons (pv 2) pa_nil))))) (pw_or1 (pt_cmpR op_ne (pe_callB (r := rLenQ K) lenK (by rfl) T.n_len (by decide +kernel) (pa_cons (pv 2) pa_nil)) (pv 1) (nomark _))))))) (fun _ _ _ _ _ => (pv 2))) pa_nil)) pe_int (nomark _))))))), ?_⟩
  obtain ⟨t, hb, ht⟩ := thd_isb hth
  refine ⟨_, rfl, (by show 2 ≤ sizeLine; decide), fun p hp => ?_⟩
  have s1 : Same H (upd H p (.tup [.ty "list", .ty "tuple"])) := same_new hp
  refine ⟨v, p, _, .type t.nm, [.type "list", .type "tuple"], _, rfl, upd_same, .cons (.ty _) (.cons (.ty _) .nil), isb_same hb s1, bt_any t, _, rfl, ?_⟩
  generalize upd H p (.tup [.ty "list", .ty "tuple"]) = H1 at s1 ⊢
  rw [ht]
  have no : areRows th = false → Q (.bl false) H1 := fun e => e ▸ q _ s1
  cases th with
  | none => exact iteT (iteT (no rfl))
  | some rows =>
    refine iteF ?_
    obtain ⟨hr1, hr2⟩ := hsz rows rfl
    obtain ⟨a, xs, rfl, ha, hp⟩ := hth
    have ha1 : H1 a = some (.lst xs) ∨ Rd H1 a (.tup xs) := ha.imp (s1 a (.lst xs)) fun h => Rd.same h s1
    have hp1 : Paired (RwD K H1) xs rows := L2.Paired.mapP hp fun _ _ q => rwd_same q s1
    have hxl : xs.length = rows.length := Paired.length hp
    refine ⟨_, rfl, a, xs, rfl, seq_of ha1, _, 1, rfl, rfl, _, rfl, ?_⟩
    cases rows with
    | nil =>
      have e0 : xs.length = 0 := hxl
      rw [decide_eq_true (by omega)]
      exact iteT (iteT (no rfl))
    | cons r0 rest =>
      cases xs with
      | nil => cases hxl
      | cons x0 xs =>
        rw [decide_eq_false (show ¬ (((x0 :: xs).length : Nat) : Int) < 1 by rw [List.length_cons]; omega)]
        refine iteF ⟨_, rfl, a, _, rfl, seq_of ha1, _, 1000, rfl, rfl, _, rfl, ?_⟩
        cases hp1 with
        | cons hx0 hp1 =>
          have hpp : Paired (RwD K H1) (x0 :: xs) (r0 :: rest) := .cons hx0 hp1
          by_cases c1 : (r0 :: rest).length ≤ 1000
          case neg =>
            rw [decide_eq_true (show (1000 : Int) < (((x0 :: xs).length : Nat) : Int) by rw [hxl]; omega)]
            refine iteT (no ?_)
            cases r0 with
            | none => rfl
            | some os =>
              rw [areRows_some, decide_eq_false c1]
              rfl
          case pos =>
            rw [decide_eq_false (show ¬ (1000 : Int) < (((x0 :: xs).length : Nat) : Int) by rw [hxl]; omega)]
            refine iteF ?_
            obtain ⟨t0, hb0, ht0⟩ := rwd_isb hx0
            refine ⟨_, rfl, ix0 ha1 ⟨_, _, _, _, _, rfl, .ty _, hb0, bt_kit t0 .tuple, _, rfl, ?_⟩⟩
            rw [ht0]
            cases r0 with
            | none => exact iteT (iteT (no rfl))
            | some os =>
              refine iteF ?_
              obtain ⟨a0, ys, rfl, ha0, hpo⟩ := hx0
              have hyl : ys.length = os.length := Paired.length hpo
              have hos := hr2 os (by simp)
              have sz : areRows (some (some os :: rest)) = ((decide (1 ≤ os.length) && decide (os.length ≤ 8)) && (some os :: rest).all (rowOk os.length)) := by
                rw [areRows_some, decide_eq_true c1, Bool.true_and]
              refine ⟨_, rfl, ix0 ha1 ⟨a0, ys, rfl, .inr (.inl ha0), _, 1, rfl, rfl, _, rfl, ?_⟩⟩
              rw [hyl]
              by_cases c2 : 1 ≤ os.length
              case neg =>
                rw [decide_eq_true (by omega)]
                refine iteT (iteT (no ?_))
                rw [sz, decide_eq_false c2]
                rfl
              case pos =>
                rw [decide_eq_false (show ¬ ((os.length : Nat) : Int) < 1 by omega)]
                refine iteF ⟨_, rfl, ix0 ha1 ⟨a0, ys, rfl, .inr (.inl ha0), _, 8, rfl, rfl, _, rfl, ?_⟩⟩
                rw [hyl]
                by_cases c3 : os.length ≤ 8
                case neg =>
                  rw [decide_eq_true (by omega)]
                  refine iteT (no ?_)
                  rw [sz, decide_eq_false c3, Bool.and_false]
                  rfl
                case pos =>
                  rw [decide_eq_false (show ¬ (8 : Int) < ((os.length : Nat) : Int) by omega)]
                  refine iteF ?_
                  have sz2 : areRows (some (some os :: rest)) = (some os :: rest).all (rowOk os.length) := by
                    rw [sz, decide_eq_true c2, decide_eq_true c3]
                    rfl
                  refine ⟨_, rfl, ix0 ha1 ⟨a0, ys, rfl, .inr (.inl ha0), ?_⟩⟩
                  rw [hyl]
                  have main : ∀ (J : It) (G : Hp → Prop) (D : Addr), Walk J (some os :: rest).length G (YAt (V.ref a0 :: xs)) → H1 D = none → (∀ H', Same H1 H' → G H') → _ := fun J G D w hD hG =>
                    lc_gen (vs := [2]) (σ := [some (.ref a), some (.int (os.length : Nat)), none]) (g := gName 2) (tt := tOr (tNot (tB (tCall (spNames K) [] E0 (tCons (tVar 1) (tCons (tVar 2) tNil))))) (tTest (tOp rNe (tCB (rLenQ K) (tCons (tVar 2) tNil)) (tVar 1)))) (te := tVar 2)
                      (Qd := fun H' => ∃ p ys, [V.ref D] = [V.ref p] ∧ (SqL K H' p ys ∨ SqT K H' p ys) ∧ scal (.int (ys.length : Nat)) (.int 0) = true ∧ Q (.bl (decide (V.int (ys.length : Nat) = V.int 0))) H') (some os :: rest) (fun r => !rowOk os.length r) (fun _ => ()) (fun _ _ _ => True) (fun _ _ _ _ _ h => h) w (by omega) hD hG (by
                      rintro i r x H20 H2 hi s2 ⟨rfl, hx⟩ Kc Kn kc kn
                      refine ⟨rfl, ?_⟩
                      obtain ⟨r', hr', hrd⟩ := Pd.get hpp hx
                      rw [hi] at hr'
                      cases hr'
                      have hrd2 := rwd_same hrd s2
                      refine ⟨_, rfl, _, rfl, _, x, r, rfl, hrd2, fun os' e => hr2 os' (by rw [← e]; exact List.mem_of_getElem? hi), fun H3 s3 => ⟨_, rfl, ?_⟩⟩
                      cases c4 : areNames ((os.length : Nat) : Int) r with
                      | false =>
                        refine iteT ⟨_, rfl, kc ?_ _ _ s3 trivial⟩
                        unfold rowOk
                        rw [c4, Bool.false_and]
                        rfl
                      | true =>
                        refine iteF ?_
                        cases r with
                        | none => cases c4
                        | some q1 =>
                          obtain ⟨a1, zs, rfl, ha1', hp1'⟩ := rwd_same hrd2 s3
                          have hzl : zs.length = q1.length := Paired.length hp1'
                          refine ⟨_, rfl, a1, zs, rfl, .inr (.inl ha1'), _, rfl, rfl, _, rfl, ?_⟩
                          rw [int_eq, hzl]
                          have er : rowOk os.length (some q1) = decide (q1.length = os.length) := by
                            unfold rowOk
                            rw [c4, Bool.true_and]
                            rfl
                          cases c5 : decide (q1.length = os.length) with
                          | true => exact kn (by rw [er, c5]; rfl) _ s3
                          | false => exact ⟨_, rfl, kc (by rw [er, c5]; rfl) _ _ s3 trivial⟩) (by
                      intro H2 zs s2 hzs hpz
                      have hl := Paired.length hpz
                      rw [List.length_map] at hl
                      refine ⟨D, zs, rfl, .inl (.inl (.inl hzs)), rfl, ?_⟩
                      have q2 := q _ (s1.trans s2)
                      rw [sz2] at q2
                      have e0 : decide (V.int ((zs.length : Nat) : Int) = V.int 0) = (some os :: rest).all (rowOk os.length) := by
                        rw [hl]
                        refine (int_eq (b := 0)).trans ?_
                        rw [Bool.eq_iff_iff, decide_eq_true_eq]
                        exact all_none _ _
                      rw [e0]
                      exact q2)
                  rcases ha1 with ha1 | ha1
                  · exact ⟨_, rfl, a, _, rfl, .inl ⟨.inl (.inl ha1), fun D hD => main _ _ D (walk_listN hxl) hD fun H' s' => .inl (.inl (s' _ _ ha1))⟩⟩
                  · exact ⟨_, rfl, a, _, rfl, .inr ⟨.inl ha1, fun D hD => main _ _ D (walk_tupN hxl) hD fun H' s' => .inl (Rd.same ha1 s')⟩⟩
end
end Ev

set_option maxRecDepth 100000
set_option maxHeartbeats 4000000
namespace Ev
open PySem PySem.Spec PyProof.Rows L2 EvM
section
variable {P : Program} {w : World} {K : PySem.W.Frag} {mg : Str → Option Value} {base : Heap} {ad : Ad} {X : Cx}
theorem Def.okX {x : Str} {st : Stmt} {N ps : List Str} {k : Nat} {sp : Sp} (D : Def K mg x st ps) (S : FnScope N ps (defScope st)) (len : ∀ vs H Q E, sp vs H Q E → vs.length = ps.length)
    (hbody : ∀ (f : Addr) (cdv : Value) (A : Around) (outer : List Env) (s : Shared) (H : Hp) (vs : List V) (Q : VK) (E : XK), Room k (A.deeper (envOfC x (defScope st) s.heap.objs.size f cdv)) → sp vs H Q E →
      ∃ t, PSs (cxOf (L2.CX P w) P w K mg base N x (defScope st) f cdv A outer s H E) (defBody st) t ∧ t { nx := fun _ H' => Q .non H', rt := Q } (start N vs) H) : Cal P w K mg base (L2.CX P w) (k + 1) x sp := by
  obtain ⟨f, fd, F, b, m⟩ := D.ex
  exact ⟨f, fd, ps, F.okX S len fun cdv A outer s H vs Q E hr h => hbody f cdv A outer s H vs Q E hr h, b, F.kp, m⟩
/-- a def that may raise is called -/
theorem pe_fnX {k j : Nat} {x : Str} {sp : Sp} {p pos : Pos} {e : Expr} {es : List Expr} {t : TA} {E : XK} (c : Cal X.prog X.w X.K X.mg X.base (L2.CX X.prog X.w) k x sp) (hr : Room j X.A) (hk : k ≤ j) (hg : Gl X x) (hx : Passes (L2.CX X.prog X.w) X E) (ha : PA X (e :: es) t)
    (hdb : (x == ("__debug__" : Str)) = false := by decide) (he : starEach (e :: es) X.env = (false, eval e X.env) :: starEach es X.env := by rfl) (hpl : (backTo pos (starEach es X.env)).any (·.1) = false := by rfl) :
    PE X (.Call (.Name x p) (e :: es) [] pos) (tCall sp [] E t) := by
  obtain ⟨f, fd, ps, F, b, kp, m⟩ := c.ex
  exact pe_call F (hr.mono hk) hg m kp b .nil hx ha hdb he hpl
/-! ### the errors -/
def spCheck (K : PySem.W.Frag) (ad : Ad) : Sp := fun vs H Q E => ∃ v th, vs = [v] ∧ ThD K H v th ∧ sizesOk th ∧ (areRows th = true → ∀ H', Same H H' → Q .non H') ∧ (areRows th = false → ∀ H', Same H H' → E (.ref ad.CN) none H')
theorem ok_check_rows (T : Txt K mg) (F : Cf K mg ad) : Cal P w K mg base (L2.CX P w) 5 "check_rows" (spCheck K ad) := by
  refine T.d_check_rows.okX sc_check_rows (fun vs H Q E h => ?_) (fun f cdv A outer s H vs Q E hr h => ?_)
  · obtain ⟨v, th, rfl, _⟩ := h
    rfl
  obtain ⟨v, th, rfl, hth, hsz, q1, q2⟩ := h
  refine ⟨_, (pss_one (ps_if (pt_not (pt_val (pe_fn (ok_are_rows T) hr (by decide) rfl (pa_cons (pv 0) pa_nil)))) (pss_one (ps_raise rfl (takes_of rfl rfl rfl rfl) (pmk_own0 PySem.F.excBase_ValueError F.xN F.mN F.pN (raises_own F.bN F.tN) rfl))) pss_nil)), ?_⟩
  refine ⟨_, rfl, v, th, rfl, hth, hsz, fun H1 s1 => ⟨_, rfl, ?_⟩⟩
  cases c : areRows th with
  | true => exact iteF (q1 c _ s1)
  | false => exact iteT (q2 c _ s1)
def spTM (K : PySem.W.Frag) (ad : Ad) : Sp := fun vs H Q _ => ∃ a v, vs = [.ref a, v] ∧ H a = some (exo a ad.CT none) ∧ ∀ dx, H dx = none → dx ≠ a → Q .non (upd (upd H dx (exd dx [(("most" : Str), v)])) a (exo a ad.CT (some dx)))
theorem ok_TooMany_init (T : Txt K mg) (F : Cf K mg ad) : ∃ fd, FnOk P w K mg base CX0 1 ad.fT fd ["self", "most"] (spTM K ad) ∧ Binds K fd ["self", "most"] [] := by
  refine F.dT.ok sc_TooMany_init (fun vs H Q E h => ?_) (fun cdv A outer s H vs Q E hr h => ?_)
  · obtain ⟨a, v, rfl, _⟩ := h
    rfl
  obtain ⟨a, v, rfl, ha, q⟩ := h
  refine ⟨_, (pss_one (ps_ost (pv 0) (pv 1) rfl)), ?_⟩
  exact ⟨_, rfl, _, rfl, a, ad.CT, rfl, F.oT, F.nT, .inl ⟨ha, fun dx h1 h2 => q dx h1 h2⟩⟩
def spCheckMany (ad : Ad) : Sp := fun vs H Q E => ∃ n m : Int, vs = [.int n, .int m] ∧ (n ≤ m → Q .non H) ∧ (m < n → ∀ H' d, Same H H' → H' d = some (.xd [(("most" : Str), .int m)]) → E (.ref ad.CT) (some d) H')
theorem ok_check_many (T : Txt K mg) (F : Cf K mg ad) : Cal P w K mg base (L2.CX P w) 3 "check_many" (spCheckMany ad) := by
  obtain ⟨fdT, GT, bT⟩ := ok_TooMany_init (P := P) (w := w) (base := base) T F
  refine T.d_check_many.okX sc_check_many (fun vs H Q E h => ?_) (fun f cdv A outer s H vs Q E hr h => ?_)
  · obtain ⟨n, m, rfl, _⟩ := h
    rfl
  obtain ⟨n, m, rfl, q1, q2⟩ := h
  refine ⟨_, (pss_one (ps_if (pt_cmpR op_gt (pv 0) (pv 1) (nomark _)) (pss_one (ps_raise rfl (takes_of rfl rfl rfl rfl) (pmk_oex F.oT F.iT F.tT GT (hr.mono (by decide)) bT .nil pass0 rfl F.mT (pa_cons (pv 1) pa_nil)))) pss_nil)), ?_⟩
  refine ⟨_, rfl, _, rfl, n, m, rfl, rfl, _, rfl, ite2 (fun c => ?_) (fun c => ?_)⟩
  · have c := of_decide_eq_true c
    refine ⟨_, rfl, (by show 1 ≤ 1000; decide), fun a ha => ⟨a, .int m, rfl, upd_same, fun dx h1 h2 => ⟨rfl, dx, [(("most" : Str), .int m)], upd_same, ?_, ?_, ?_⟩⟩⟩
    · rw [upd_ne h2, upd_same]
    · rw [upd_ne h2] at h1
      exact h1
    · refine q2 c _ dx (fun b u hb => ?_) upd_same
      have hba : b ≠ a := fun z => by rw [z, ha] at hb; cases hb
      have hbd : b ≠ dx := fun z => by
        rw [upd_ne h2] at h1
        rw [z, h1] at hb
        cases hb
      rw [upd_ne hbd, del_ne hba, upd_ne hba, upd_ne hbd, upd_ne hba]
      exact hb
  · have c : ¬ m < n := fun z => c (decide_eq_true z)
    exact q1 (by omega)
end
/-! ### slices -/
theorem sIx0 {n : Nat} (k : Nat) : HT.sIx n 0 (some (k : Int)) = min k n := HT.sIx_nat n 0 k
theorem cutV_drop (xs : List V) (k : Nat) : cutV xs (some (k : Int)) none = xs.drop k := by
  unfold cutV
  rw [HT.sIx_nat, HT.sIx_none, List.take_of_length_le (by rw [List.length_drop]; exact Nat.le_refl _)]
  by_cases c : k ≤ xs.length
  · rw [Nat.min_eq_left c]
  · rw [Nat.min_eq_right (by omega), List.drop_length, List.drop_of_length_le (by omega)]
theorem cutV_take (xs : List V) (k : Nat) : cutV xs none (some (k : Int)) = xs.take k := by
  unfold cutV
  rw [HT.sIx_nat, HT.sIx_none, Nat.sub_zero, List.drop_zero]
  by_cases c : k ≤ xs.length
  · rw [Nat.min_eq_left c]
  · rw [Nat.min_eq_right (by omega), List.take_length, List.take_of_length_le (by omega)]
theorem slT_from {K : PySem.W.Frag} {H : Hp} {a : Addr} {xs : List V} {k : Nat} {Q : VK} (h : H a = some (.tup xs)) (q : ∀ H' c, Same H H' → H' c = some (.tup (xs.drop k)) → Q (.ref c) H') : rSlA K (.ref a) (some (k : Int)) none H Q := by
  refine ⟨a, xs, rfl, .inl (.inl h), fun hw => ?_, fun _ p hp => ?_⟩
  · rw [HT.sIx_nat] at hw
    have e : xs.drop k = xs := by
      by_cases c : k ≤ xs.length
      · have : k = 0 := by omega
        rw [this, List.drop_zero]
      · have : xs = [] := List.length_eq_zero_iff.mp (by omega)
        rw [this, List.drop_nil]
    exact q H a (fun _ _ z => z) (by rw [e]; exact h)
  · refine q _ p (same_new hp) ?_
    rw [upd_same, cutV_drop]
end Ev

set_option maxRecDepth 100000
set_option maxHeartbeats 4000000
namespace Ev
open PySem PySem.Spec PyProof.Rows L2 EvM
/-! ### y = {k: v for ..}, y a plain local name, keys tuples -/
section
variable {X : Cx}
theorem ps_setDcT {i : Nat} {y : Str} {py : Pos} {kx vx tg iter : Expr} {ifs : List Expr} {scope : Scope} {own : List (Str × Nat)} {pos spos : Pos} {wi : TI} {g : TG} {tt : TT} {tk tv : TE} (hu : X.A.units + 1 < cLine) (hc : X.calm = true) (hN : X.N.Nodup) (hy : X.N[i]? = some y) (hyl : X.env.scope.names.lookup y = some .local)
    (hsw : swapsWith (.DictComp kx vx [⟨tg, iter, ifs, 0⟩] scope pos) (some (.Name y py)) spos.line X.env = pure true) (hi : PI X tg iter wi) (ok : BlkOk X.N X.env.scope scope own)
    (hg : ∀ (s : Shared) (H : Hp) (C : Addr) (cl : List (Str × Addr)) (fp : List Addr), PG (X.blk s H scope (compEnvC scope cl C X.env) fp) tg g) (ht : ∀ (s : Shared) (H : Hp) (C : Addr) (cl : List (Str × Addr)) (fp : List Addr), PTs (X.blk s H scope (compEnvC scope cl C X.env) fp) ifs tt)
    (hk : ∀ (s : Shared) (H : Hp) (C : Addr) (cl : List (Str × Addr)) (fp : List Addr), PE (X.blk s H scope (compEnvC scope cl C X.env) fp) kx tk)
    (he : ∀ (s : Shared) (H : Hp) (C : Addr) (cl : List (Str × Addr)) (fp : List Addr), PE (X.blk s H scope (compEnvC scope cl C X.env) fp) vx tv) (hs : ∀ x, foldedSetIterable iter X.env x = pure x := by intro _; rfl) :
    PS X (.Assign [.Name y py] (.DictComp kx vx [⟨tg, iter, ifs, 0⟩] scope pos) spos) (tAsg (tDcT wi g tt tk tv (own.map (·.2))) (gName i)) := by
  refine ⟨fun pins s σ H D I h => ?_⟩
  rw [exec_Assign_Name_used _ _ _ _ hsw]
  refine wpAny_bind (wpAny_standAt (wpAny_bind ?_))
  show wpAny _ X.A (do let _ ← comprehension (.DictComp kx vx [⟨tg, iter, ifs, 0⟩] scope pos) scope X.env (firstIterPos [⟨tg, iter, ifs, 0⟩] pos) newDict false (eval iter X.env) (some (assign (.Name y py) X.env))) _ _ s
  have h : tDcT wi g tt tk tv (own.map (·.2)) σ H (fun x H1 => gName i x σ H1 D.nx) := h
  refine wpAny_bind (thn (dcT_core (Qf := fun _ s' => SP X pins D .next s') hu hc hN I hi ok hg ht hk he hs h fun L C s' m H' I' q hn f => ?_) fun _ s' hq => wpAny_pure (wpAny_pure hq))
  show wpAny _ _ (assign (.Name y py) X.env (.ref L)) _ _ _
  refine wpAny_assign_Name (store_ok2 (v := V.ref L) I' hN hy (.inl hyl) rfl (fun s2 I2 ⟨a, sb, ha⟩ => ?_) (.inr hyl))
  obtain ⟨f0, f1, f2, f3, f4, f5⟩ := f
  have haC : C ≠ a := by
    rcases ha with z | z
    · rw [z]; exact f1
    · exact fun e => f4 y a z e.symm
  refine ⟨m, hn.sameBut sb haC, fun h3 sb3 => ?_⟩
  exact ⟨_, H', I2.turned (t' := s2.toks) (fun b o hb e => (sb3.2 b hb).trans e) f0 f1 f3 f4 f5, q⟩
theorem sw_trueD {kx vx : Expr} {gs : List Comprehension} {scope : Scope} {pos py : Pos} {y : Str} {l : Nat} {env : Env} (hk : env.scope.kind = .function) (hy : env.scope.names.lookup y = some .local) (hl : (py.line == pos.line) = true)
    (ha : (scope.names.any fun (n, k) => n == y && (k == .local || k == .cell)) = false) : swapsWith (.DictComp kx vx gs scope pos) (some (.Name y py)) l env = pure true := by
  have ky : env.kindOf y = some .local := hy
  have hb : env.blockKind = .function := by unfold Env.blockKind; rw [hk]; rfl
  unfold swapsWith
  simp only [hb, ky, ha, Expr.pos, hl]
  rfl
end
theorem slT_from' {K : PySem.W.Frag} {H : Hp} {a : Addr} {xs : List V} {j : Int} {k : Nat} {Q : VK} (hj : j = (k : Int)) (h : H a = some (.tup xs)) (q : ∀ H' c, Same H H' → H' c = some (.tup (xs.drop k)) → Q (.ref c) H') : rSlA K (.ref a) (some j) none H Q := by
  subst hj
  exact slT_from h q
theorem slT_tail {K : PySem.W.Frag} {H : Hp} {a : Addr} {xs : List V} {j : Int} {k : Nat} {Q : VK} (hj : j = (k : Int)) (h : SqT K H a xs) (hk : 1 ≤ k) (hx : 1 ≤ xs.length) (q : ∀ H' c, Same H H' → H' c = some (.tup (xs.drop k)) → Q (.ref c) H') : rSlA K (.ref a) (some j) none H Q := by
  subst hj
  refine ⟨a, xs, rfl, h, fun hw => ?_, fun _ p hp => ?_⟩
  · rw [HT.sIx_nat] at hw
    omega
  · refine q _ p (same_new hp) ?_
    rw [upd_same, cutV_drop]
theorem seq_tail {K : PySem.W.Frag} {H : Hp} {a : Addr} {x : V} {xs : List V} {Z : VK} (ha : H a = some (.lst (x :: xs)) ∨ Rd H a (.tup (x :: xs)))
    (h : ∀ (H4 : Hp) (c : Addr), Same H H4 → (H4 c = some (.lst xs) ∨ H4 c = some (.tup xs)) → Z (.ref c) H4) : rSlL K (.ref a) (some 1) none H Z ∨ rSlA K (.ref a) (some 1) none H Z := by
  rcases ha with ha | ha
  · refine .inl ⟨a, _, rfl, .inl (.inl ha), fun c hc => ?_⟩
    have e : cutV (x :: xs) (some (1 : Int)) none = xs := cutV_drop (x :: xs) 1
    rw [e]
    exact h _ c (same_new hc) (.inl upd_same)
  · exact .inr (slT_tail (k := 1) rfl (.inl ha) (Nat.le_refl _) (by rw [List.length_cons]; omega) fun H4 c s4 hc => h _ c s4 (.inr hc))
theorem noPart {σ : L2.St} {H : Hp} {Q : Option Int → Hp → Prop} (h : Q none H) : tNoPart σ H Q := h
/-! ### the pairs of one row -/
def row1 (r : List Nat) (p : Nat) : Ps := (r.drop (p + 1)).map fun y => [r.getD p 0, y]
def pre (r : List Nat) (p : Nat) : Ps := (List.range p).flatMap (row1 r)
theorem pre_snoc (r : List Nat) (p : Nat) : pre r (p + 1) = pre r p ++ row1 r p := by
  unfold pre
  rw [range_snoc, List.flatMap_append]
  simp
theorem pre_len (r : List Nat) (p : Nat) : (pre r p).length ≤ p * r.length := by
  have := flat_len (row1 r) r.length (List.range p) fun a _ => by
    unfold row1
    rw [List.length_map, List.length_drop]
    omega
  rwa [List.length_range] at this
theorem mem_pre {n : Nat} {r : List Nat} (h : Perm n r) {q : List Nat} : q ∈ pre r n ↔ ∃ i j, q = [i, j] ∧ i < n ∧ j < n ∧ r.idxOf i < r.idxOf j := by
  unfold pre row1
  rw [List.mem_flatMap]
  constructor
  · rintro ⟨p, hp, hq⟩
    rw [List.mem_range] at hp
    obtain ⟨y, hy, rfl⟩ := List.mem_map.mp hq
    obtain ⟨k, hk⟩ := List.mem_iff_getElem?.mp hy
    rw [List.getElem?_drop] at hk
    obtain ⟨hlt, hk⟩ := List.getElem?_eq_some_iff.mp hk
    rw [h.len] at hlt
    have ey : y = r.getD (p + 1 + k) 0 := by
      rw [getD_at (by rw [h.len]; exact hlt)]
      exact hk.symm
    refine ⟨_, _, rfl, h.getD_lt hp, by rw [ey]; exact h.getD_lt hlt, ?_⟩
    rw [h.idx_getD hp, ey, h.idx_getD hlt]
    omega
  · rintro ⟨i, j, rfl, hi, hj, hij⟩
    refine ⟨r.idxOf i, List.mem_range.mpr (h.idx_lt hi), List.mem_map.mpr ⟨j, ?_, by rw [h.getD_idx hi]⟩⟩
    refine List.mem_iff_getElem?.mpr ⟨r.idxOf j - (r.idxOf i + 1), ?_⟩
    rw [List.getElem?_drop, show r.idxOf i + 1 + (r.idxOf j - (r.idxOf i + 1)) = r.idxOf j by omega]
    have hl : r.idxOf j < r.length := by rw [h.len]; exact h.idx_lt hj
    rw [List.getElem?_eq_getElem hl, ← getD_at hl 0, h.getD_idx hj]
def good (r : List Nat) (q : List Nat) : Bool := decide (r.idxOf (fst2 q) < r.idxOf (snd2 q))
/-- the dict of places -/
theorem zip_val (r : List Nat) (x : Nat) (hx : x ∈ r) : ∀ k : Nat, valV ((r.zipIdx k).map fun a => ((Sum.inl (a.1 : Int) : Key), V.int ((a.2 : Nat) : Int))) (Sum.inl (x : Int)) = some (V.int (((k + r.idxOf x : Nat)) : Int)) := by
  induction r with
  | nil => simp at hx
  | cons a r ih =>
    intro k
    rw [List.zipIdx_cons, List.map_cons]
    by_cases e : a = x
    · subst e
      rw [valV_pos (p := ((Sum.inl (a : Int) : Key), V.int ((k : Nat) : Int))) rfl, List.idxOf_cons_self]
      rfl
    · have ne : ¬ (Sum.inl (a : Int) : Key) = Sum.inl (x : Int) := fun z => by
        injection z with z
        exact e (by omega)
      have hx2 : x ∈ r := (List.mem_cons.mp hx).resolve_left fun z => e z.symm
      rw [valV_neg (p := ((Sum.inl (a : Int) : Key), V.int ((k : Nat) : Int))) ne, ih hx2 (k + 1), List.idxOf_cons, beq_eq_false_iff_ne.mpr e, cond_false]
      rw [show k + 1 + List.idxOf x r = k + (List.idxOf x r + 1) by omega]
section
variable {P : Program} {w : World} {K : PySem.W.Frag} {mg : Str → Option Value} {base : Heap} {ad : Ad}
def spCommon (ad : Ad) : Sp := fun vs H Q _ => ∃ a rows n, vs = [.ref a] ∧ LTt H a rows ∧ (∀ r ∈ rows, Perm n r) ∧ rows ≠ [] ∧ n ≤ 5 ∧ rows.length < 4000 ∧ ∀ H' x, Same H H' → IsWeb ad.CR H' x n (common n rows) → Q (.ref x) H'
theorem ok_common_of (T : Txt K mg) (F : Cf K mg ad) : Cal P w K mg base CX0 5 "common_of" (spCommon ad) := by
  refine T.d_common_of.ok sc_common_of (fun vs H Q E h => ?_) (fun f cdv A outer s H vs Q E hr h => ?_)
  · obtain ⟨a, rows, n, rfl, _⟩ := h
    rfl
  obtain ⟨a, rows, n, rfl, ⟨xs, ha, hp⟩, hperm, hne, hn, hz, q⟩ := h
  refine ⟨_, (pss_cons (ps_set (i := 1) sc_common_of.nd rfl (Or.inl rfl) (pe_callB call_len_seq (by rfl) T.n_len (by decide +kernel) (pa_cons (pe_ix (r := rIx K) ix_seq (pv 0) pe_int (fun _ _ => rfl)) pa_nil)))
  (pss_cons (ps_set (i := 2) sc_common_of.nd rfl (Or.inl rfl) pe_dnewT)
  (pss_cons (ps_for PassesOwn.never rfl (pi_enumT (by rfl) T.n_enumerate (pa_cons (pe_ix (r := rIx K) ix_seq (pv 0) pe_int (fun _ _ => rfl)) pa_nil)) (pg_tup2 (K := K) (n := 2) rfl (pgs_cons (pg_name (i := 3) sc_common_of.nd rfl (Or.inl rfl)) (pgs_cons (pg_name (i := 4) sc_common_of.nd rfl (Or.inl rfl)) pgs_nil)))
  (pss_one (ps_for PassesOwn.never rfl (pi_tup (pe_slice sl_tupA (pe_ix (r := rIx K) ix_seq (pv 0) pe_int (fun _ _ => rfl)) (po_some (pe_op op_add (pv 3) pe_int)) po_none)) (pg_name (i := 5) sc_common_of.nd rfl (Or.inl rfl))
  (pss_one (ps_dput (hu_of hr) (pv 2) (pe_tup (pa_cons (pv 4) (pa_cons (pv 5) pa_nil))) pe_bl rfl)))))
  (pss_cons (ps_for PassesOwn.never rfl (pi_seq (pe_slice (sl_list.or sl_tupA) (pv 0) (po_some pe_int) po_none)) (pg_name (i := 6) sc_common_of.nd rfl (Or.inl rfl))
  (pss_cons (ps_set (i := 7) sc_common_of.nd rfl (Or.inr rfl) (pe_dc (own := [("place", 3), ("name", 8)]) rfl sc_common_of.nd (pi_enumT (by rfl) T.n_enumerate (pa_cons (pv 6) pa_nil)) (blkOk_by (N := ["rows", "many", "kept", "place", "one", "other", "row", "places", "name", "pair"]) (sc := defScope s_common_of) (own := [("place", 3), ("name", 8)]) (by decide +kernel)) (fun _ _ _ _ _ => (pg_tup2 (K := K) (n := 2) rfl (pgs_cons (pg_name (i := 3) sc_common_of.nd rfl (Or.inl rfl)) (pgs_cons (pg_name (i := 8) sc_common_of.nd rfl (Or.inl rfl)) pgs_nil)))) (fun _ _ _ _ _ => pts_nil) (fun _ _ _ _ _ => (pv 8)) (fun _ _ _ _ _ => (pv 3))))
  (pss_one (ps_lock (ps_setDcT (i := 2) (own := [("pair", 9)]) (hu_of hr) rfl sc_common_of.nd rfl rfl (sw_trueD rfl rfl rfl (by decide +kernel)) (pi_keys (pv 2)) (blkOk_by (N := ["rows", "many", "kept", "place", "one", "other", "row", "places", "name", "pair"]) (sc := defScope s_common_of) (own := [("pair", 9)]) (by decide +kernel)) (fun _ _ _ _ _ => (pg_name (i := 9) sc_common_of.nd rfl (Or.inl rfl))) (fun _ _ _ _ _ => (pts_one (pt_cmpR op_lt (pe_dget (hu_of hr) (pv 7) (pe_ix (r := rIxT K) ix_tup (pv 9) pe_int (fun _ _ => rfl)) (fun _ _ => rfl)) (pe_dget (hu_of hr) (pv 7) (pe_ix (r := rIxT K) ix_tup (pv 9) pe_int (fun _ _ => rfl)) (fun _ _ => rfl)) (nomark _)))) (fun _ _ _ _ _ => (pv 9)) (fun _ _ _ _ _ => pe_bl))))))
  (pss_one (ps_ret (pe_fn (ok_raw_web T F) hr (by decide) rfl (pa_cons (pv 1) (pa_cons (pe_callTy (call_list_dT rfl) (by rfl) T.n_list (by decide +kernel) (pa_cons (pv 2) pa_nil)) pa_nil))))))))), ?_⟩
  obtain ⟨r0, rest, rfl⟩ : ∃ r0 rest, rows = r0 :: rest := by
    cases rows with
    | nil => exact absurd rfl hne
    | cons r0 rest => exact ⟨r0, rest, rfl⟩
  have P0 := hperm r0 (by simp)
  cases hp with
  | @cons x0 _ xs _ hx0 hp =>
  obtain ⟨a0, rfl, ha0⟩ := hx0
  refine ⟨_, rfl, ix0 ha ⟨a0, _, rfl, .inr (.inl ha0), ?_⟩⟩
  rw [List.length_map, P0.len]
  intro D hD
  have sD : Same H (upd H D (.dT [])) := same_new hD
  have haD := ha.imp (sD a (.lst (V.ref a0 :: xs))) (fun h => Rd.same h sD)
  refine ⟨_, rfl, ix0 haD ⟨a0, _, rfl, .inl (Rd.same ha0 sD), ?_⟩⟩
  have wl : Walk (Iet K a0) n (fun H => SqT K H a0 (r0.map nm)) (YPair (fun i => some (.int (i : Nat))) (fun i => (r0.map nm)[i]?)) := by
    have := walk_enumT (K := K) (a := a0) (xs := r0.map nm)
    rwa [List.length_map, P0.len] at this
  refine for_it wl (fun p σ H' => (∃ o3 o4 o5 : Option V, σ = [some (.ref a), some (.int (n : Int)), some (.ref D), o3, o4, o5, none, none, none, none]) ∧ Same H H' ∧ Dk H' D (ded (pre r0 p))) ⟨⟨_, _, _, rfl⟩, sD, upd_same⟩ (fun i σ H' _ h => .inl (Rd.same ha0 h.2.1)) ?_ ?_
  · rintro p y σ H3 H4 hp1 ⟨⟨o3, o4, o5, rfl⟩, s3, d3⟩ ⟨T1, x1, y1, rfl, hT1, rfl, e1, e2⟩
    cases e1
    have e2 : (r0.map nm)[p]? = some y1 := e2
    rw [List.getElem?_map] at e2
    obtain ⟨one, hone, rfl⟩ := Option.map_eq_some_iff.mp e2
    have s4 : Same H3 (upd H3 T1 (.tup [.int ((p : Nat) : Int), nm one])) := same_new hT1
    refine ⟨T1, _, rfl, .inl (.inl upd_same), rfl, _, _, rfl, _, _, rfl, rfl, ?_⟩
    have sH4 := s3.trans s4
    have d4 : Dk (upd H3 T1 (.tup [.int ((p : Nat) : Int), nm one])) D (ded (pre r0 p)) := s4 _ _ d3
    generalize upd H3 T1 (.tup [.int ((p : Nat) : Int), nm one]) = G at sH4 d4 ⊢
    have haG := ha.imp (sH4 a (.lst (V.ref a0 :: xs))) (fun h => Rd.same h sH4)
    refine ⟨_, rfl, ix0 haG ⟨_, rfl, p, 1, rfl, rfl, _, rfl, noPart (slT_tail (k := p + 1) rfl (.inl (Rd.same ha0 sH4)) (by omega) (by rw [List.length_map, P0.len]; omega) fun G2 c s5 hc => ?_)⟩⟩
    rw [← List.map_drop] at hc
    refine ⟨c, rfl, ⟨_, .inl (.inl hc)⟩, ?_⟩
    refine for_it (walk_tupN (n := (r0.drop (p + 1)).length) (by rw [List.length_map])) (fun j σ H' => (∃ o5 : Option V, σ = [some (.ref a), some (.int (n : Int)), some (.ref D), some (.int ((p : Nat) : Int)), some (nm one), o5, none, none, none, none]) ∧ Same H H' ∧ Dk H' D (ded (pre r0 p ++ (row1 r0 p).take j)) ∧ H' c = some (.tup ((r0.drop (p + 1)).map nm)))
      ⟨⟨_, rfl⟩, sH4.trans s5, (by rw [List.take_zero, List.append_nil]; exact s5 _ _ d4), hc⟩ (fun j σ H' _ h => .inl (.inl h.2.2.2)) ?_ ?_
    · rintro j y σ H60 H6 hj ⟨⟨o5, rfl⟩, s6, d6, hc6⟩ ⟨rfl, hy6⟩
      rw [List.getElem?_map] at hy6
      obtain ⟨yn, hyn, rfl⟩ := Option.map_eq_some_iff.mp hy6
      refine ⟨_, rfl, _, rfl, _, rfl, (by show 2 ≤ sizeLine; decide), fun p3 hp3 => ?_⟩
      have s7 : Same H6 (upd H6 p3 (.tup [nm one, nm yn])) := same_new hp3
      have d7 : Dk (upd H6 p3 (.tup [nm one, nm yn])) D _ := s7 _ _ d6
      have hcD : c ≠ D := fun e => by
        rw [e] at hc6
        rw [show H6 D = _ from d6] at hc6
        cases hc6
      have hdl := ded_len (pre r0 p ++ (row1 r0 p).take j)
      rw [List.length_append] at hdl
      have e4 := pre_len r0 p
      have e5 : ((row1 r0 p).take j).length ≤ (row1 r0 p).length := by
        rw [List.length_take]
        exact Nat.min_le_right _ _
      have e6 : (row1 r0 p).length ≤ r0.length := by
        unfold row1
        rw [List.length_map, List.length_drop]
        omega
      have e7 : p * r0.length ≤ 5 * 5 := Nat.mul_le_mul (by omega) (by rw [P0.len]; exact hn)
      have e8 := P0.len
      refine ⟨D, _, rfl, d7.put (tn_new (r := [one, yn])) (by omega), ⟨_, rfl⟩, same_mut (s6.trans s7) hD, ?_, ?_⟩
      · have ej : (row1 r0 p)[j]? = some [one, yn] := by
          unfold row1
          rw [List.getElem?_map, hyn, List.getD_eq_getElem?_getD, hone]
          rfl
        rw [take_snoc ej, ← List.append_assoc, ded_snoc]
        exact upd_same
      · rw [upd_ne hcD]
        exact s7 _ _ hc6
    · rintro σ H6 ⟨⟨o5, rfl⟩, s6, d6, _⟩
      refine ⟨⟨_, _, _, rfl⟩, s6, ?_⟩
      rw [List.take_of_length_le (by unfold row1; rw [List.length_map]; exact Nat.le_refl _)] at d6
      rw [pre_snoc]
      exact d6
  rintro σ H3 ⟨⟨o3, o4, o5, rfl⟩, s3, d3⟩
  -- the other rows
  have ha3 := ha.imp (s3 a (.lst (V.ref a0 :: xs))) (fun h => Rd.same h s3)
  have hxl : xs.length = rest.length := Paired.length hp
  have body : ∀ (H4 : Hp) (J : It) (G : Hp → Prop), Same H3 H4 → Walk J rest.length G (YAt xs) → (∀ H', Same H4 H' → G H') → ∀ (tb : TS) (D0 : Ends),
      (∀ (i : Nat) (row : List Nat) (x : V) (H5 : Hp) (D5 : Addr) (ks : Ps) (o3 o4 o5 o6 o7 : Option V), rest[i]? = some row → Tr H5 x row → Same H3 H5 → Dk H5 D5 ks → ks.Nodup → (∀ q, q ∈ ks ↔ q ∈ pre r0 n ∧ ∀ r ∈ rest.take i, good r q = true) →
        ∀ (N : L2.St → Hp → Prop), (∀ H6 D6 ks' o7', Same H5 H6 → Dk H6 D6 ks' → ks'.Nodup → (∀ q, q ∈ ks' ↔ q ∈ ks ∧ good row q = true) → N [some (.ref a), some (.int (n : Int)), some (.ref D6), o3, o4, o5, some x, o7', none, none] H6) →
          tb { D0 with nx := N, ct := N, bk := D0.nx } [some (.ref a), some (.int (n : Int)), some (.ref D5), o3, o4, o5, some x, o7, none, none] H5) →
      (∀ (H5 : Hp) (D5 : Addr) (ks : Ps) (o3 o4 o5 o6 o7 : Option V), Same H3 H5 → Dk H5 D5 ks → ks.Nodup → (∀ q, q ∈ ks ↔ q ∈ pre r0 n ∧ ∀ r ∈ rest, good r q = true) → D0.nx [some (.ref a), some (.int (n : Int)), some (.ref D5), o3, o4, o5, o6, o7, none, none] H5) →
      ∃ W : Nat → Nat → L2.St → Hp → Prop, (∃ m, W 0 m [some (.ref a), some (.int (n : Int)), some (.ref D), o3, o4, o5, none, none, none, none] H4) ∧ ∀ i m σ H, W i m σ H →
        (J.stop i H ∧ D0.nx σ H) ∨ (J.go i H ∧ ∃ N : L2.St → Hp → Prop, (∀ σ' H', N σ' H' → ∃ m', m' < m ∧ W (i + 1) m' σ' H') ∧ ∀ x H', J.yld i H x H' → gName 6 x σ H' fun σ2 H2 => tb { D0 with nx := N, ct := N, bk := D0.nx } σ2 H2) := by
    intro H4 J G s4 wk hG tb D0 turn fin
    refine for_it wk (fun i σ H' => (∃ (D5 : Addr) (ks : Ps) (o3 o4 o5 o6 o7 : Option V), σ = [some (.ref a), some (.int (n : Int)), some (.ref D5), o3, o4, o5, o6, o7, none, none] ∧ Dk H' D5 ks ∧ ks.Nodup ∧ ∀ q, q ∈ ks ↔ q ∈ pre r0 n ∧ ∀ r ∈ rest.take i, good r q = true) ∧ Same H4 H')
      ⟨⟨D, ded (pre r0 n), _, _, _, _, _, rfl, s4 _ _ d3, ded_nodup _, fun q => by rw [mem_ded]; simp⟩, fun _ _ z => z⟩ (fun i σ H' _ h => hG _ h.2) ?_ ?_
    · rintro i y σ H50 H5 hi ⟨⟨D5, ks, o3, o4, o5, o6, o7, rfl, dk5, nd5, mem5⟩, s5⟩ ⟨rfl, hy⟩
      obtain ⟨row, hrow, htn⟩ := Pd.get hp hy
      refine turn i row y H5 D5 ks o3 o4 o5 o6 o7 hrow (htn.same (s3.trans (s4.trans s5))) (s4.trans s5) dk5 nd5 mem5 _ fun H6 D6 ks' o7' s6 dk6 nd6 mem6 => ⟨⟨D6, ks', _, _, _, _, _, rfl, dk6, nd6, fun q => ?_⟩, s5.trans s6⟩
      rw [mem6, mem5, take_snoc hrow]
      constructor
      · rintro ⟨⟨h1, h2⟩, h3⟩
        exact ⟨h1, fun r hr => (List.mem_append.mp hr).elim (h2 r) fun h => by rw [List.mem_singleton.mp h]; exact h3⟩
      · rintro ⟨h1, h2⟩
        exact ⟨⟨h1, fun r hr => h2 r (List.mem_append_left _ hr)⟩, h2 row (List.mem_append_right _ (List.mem_singleton_self _))⟩
    · rintro σ H5 ⟨⟨D5, ks, o3, o4, o5, o6, o7, rfl, dk5, nd5, mem5⟩, s5⟩
      rw [List.take_length] at mem5
      exact fin H5 D5 ks o3 o4 o5 o6 o7 (s4.trans s5) dk5 nd5 mem5
  refine ⟨_, rfl, _, rfl, noPart (seq_tail ha3 fun H4 c s4 hc => ?_)⟩
  refine ⟨c, xs, rfl, hc.elim (fun hc => .inl ⟨.inl (.inl hc), body H4 _ _ s4 (walk_listN hxl) (fun H' s' => .inl (.inl (s' _ _ hc))) _ _ ?t1 ?f1⟩) (fun hc => .inr ⟨.inl (.inl hc), body H4 _ _ s4 (walk_tupN hxl) (fun H' s' => .inl (.inl (s' _ _ hc))) _ _ ?t2 ?f2⟩)⟩
  case t1 | t2 =>
    intro i row x H5 D5 ks o3 o4 o5 o6 o7 hrow htn s5 dk5 nd5 mem5 N hN
    have Prow := hperm row (List.mem_cons_of_mem _ (List.mem_of_getElem? hrow))
    obtain ⟨ar, rfl, har⟩ := htn
    refine ⟨_, rfl, ar, row.map nm, rfl, .inl har, fun L hL => ?_⟩
    have wr : Walk (Iet K ar) row.zipIdx.length (fun H => SqT K H ar (row.map nm)) (YPair (fun i => some (.int (i : Nat))) (fun i => (row.map nm)[i]?)) := by
      have := walk_enumT (K := K) (a := ar) (xs := row.map nm)
      rw [List.length_zipIdx]
      rwa [List.length_map] at this
    refine dc_gen row.zipIdx (fun _ => true) (fun a => (a.1 : Int)) (fun a => V.int ((a.2 : Nat) : Int)) wr (by rw [List.length_zipIdx, Prow.len]; omega) hL (fun H' s' => .inl (Rd.same har s')) ?_ ?_
    · rintro j zp z H6 H7 hj s6 ⟨T1, x1, y1, rfl, hT1, rfl, e1, e2⟩ Kc Kn kc kn
      cases e1
      rw [List.getElem?_zipIdx] at hj
      have e2 : (row.map nm)[j]? = some y1 := e2
      rw [List.getElem?_map] at e2
      obtain ⟨one, hone, rfl⟩ := Option.map_eq_some_iff.mp e2
      rw [hone] at hj
      cases hj
      refine ⟨T1, _, rfl, .inl (.inl upd_same), rfl, _, _, rfl, _, _, rfl, rfl, rfl, ?_⟩
      refine ⟨_, rfl, _, rfl, ?_⟩
      have := kc rfl _ (same_new (o := .tup [.int ((j : Nat) : Int), nm one]) hT1)
      rwa [Nat.zero_add] at this
    · intro H6 s6 hL6
      have knd : (row.zipIdx.map fun a => (Sum.inl (a.1 : Int) : Key)).Nodup := by
        have e : (row.zipIdx.map fun a => (Sum.inl (a.1 : Int) : Key)) = row.map fun x : Nat => (Sum.inl (x : Int) : Key) := by
          conv => rhs; rw [← List.zipIdx_map_fst 0 row]
          rw [List.map_map]
          rfl
        rw [e]
        exact List.pairwise_map.mpr (Prow.nd.imp fun {a b} hab z => hab (by injection z with z; omega))
      have ek := fold_put (fun a : Nat × Nat => (Sum.inl (a.1 : Int) : Key)) (fun a => V.int ((a.2 : Nat) : Int)) row.zipIdx [] (by simpa using knd)
      rw [List.filter_eq_self.mpr (fun _ _ => rfl), ek, List.nil_append] at hL6
      have dk6 : Dk H6 D5 ks := s6 _ _ dk5
      refine ⟨D5, .dT (dE (onD ks)), dk6, (by exact True.intro), fun od => ?_⟩
      have hLD : L ≠ D5 := fun e => by
        rw [e] at hL6
        rw [show H6 D5 = _ from dk6] at hL6
        cases hL6
      have hf6 : (upd H6 D5 (.frz od (.dT (dE (onD ks))))) D5 = some (.frz od (.dT (dE (onD ks)))) := upd_same
      have hL7 : (upd H6 D5 (.frz od (.dT (dE (onD ks))))) L = some (.dK (row.zipIdx.map fun a => ((Sum.inl (a.1 : Int) : Key), V.int ((a.2 : Nat) : Int)))) := by
        rw [upd_ne hLD]
        exact hL6
      refine ⟨_, rfl, D5, od, rfl, .inr ⟨_, hf6, fun D6 hD6 => ?_⟩⟩
      have wk : Walk (Itkt D5 od (dE (onD ks))) ks.length (fun H => H D5 = some (.frz od (.dT (dE (onD ks))))) (fun i H x H' => H' = H ∧ ∃ (k : List Key) (v : V) (q : Addr), (dE (onD ks))[i]? = some (k, v) ∧ x = .ref q ∧ H q = some (.tup (k.map kV))) := by
        have := walk_keysT (d := D5) (o := od) (kvs := dE (onD ks))
        rwa [onD_len] at this
      have hklen : ks.length ≤ 25 := by
        have sub : ks ⊆ prs n := fun q hq => by
          obtain ⟨i, j, e, h1, h2, _⟩ := (mem_pre P0).mp ((mem5 q).mp hq).1
          exact mem_prs.mpr ⟨i, j, e, h1, h2⟩
        have h1 := List.Nodup.length_le_of_subset nd5 sub
        have h2 : (prs n).length ≤ n * n := by
          have := flat_len (fun i => (List.range n).map fun j => [i, j]) n (List.range n) fun a _ => by rw [List.length_map, List.length_range]; exact Nat.le_refl _
          rwa [List.length_range] at this
        have h3 : n * n ≤ 5 * 5 := Nat.mul_le_mul hn hn
        omega
      refine dcT_gen ks (good row) id wk (by omega) hD6 (fun H' s' => s' _ _ hf6) ?_ ?_
      · rintro j kq z H80 H8 hj s8 ⟨rfl, kk, vv, qa, e1, rfl, hqa⟩ Kc Kn kc kn
        have e1 : (ky kq, V.bl true) = (kk, vv) := by
          unfold dE onD at e1
          rw [List.getElem?_map, List.getElem?_map, hj] at e1
          exact Option.some.inj e1
        cases e1
        rw [ky_map] at hqa
        obtain ⟨i1, j1, rfl, b1, c1, _⟩ := (mem_pre P0).mp ((mem5 kq).mp (List.mem_of_getElem? hj)).1
        refine ⟨rfl, ?_⟩
        have hL8 := s8 _ _ hL7
        have g1 := DGet.k (k := Sum.inl (i1 : Int)) hL8
        rw [zip_val row i1 (Prow.mem b1) 0] at g1
        have g2 := DGet.k (k := Sum.inl (j1 : Int)) hL8
        rw [zip_val row j1 (Prow.mem c1) 0] at g2
        refine ⟨_, rfl, _, rfl, qa, _, 0, _, rfl, rfl, .inl (.inl hqa), at0, L, _, rfl, g1, ?_⟩
        refine ⟨_, rfl, _, rfl, qa, _, 1, _, rfl, rfl, .inl (.inl hqa), atI_nat (j := 1) rfl, L, _, rfl, g2, _, _, rfl, rfl, _, rfl, ?_⟩
        have eg : decide (((0 + row.idxOf i1 : Nat) : Int) < ((0 + row.idxOf j1 : Nat) : Int)) = good row [i1, j1] := by
          unfold good
          apply decide_eq_decide.mpr
          show _ ↔ row.idxOf i1 < row.idxOf j1
          omega
        rw [eg]
        refine ite2 (fun c => ⟨_, rfl, kc c _ _ (fun _ _ z => z) ⟨qa, rfl, hqa⟩⟩) (fun c => kn (Bool.eq_false_iff.mpr c) _ fun _ _ z => z)
      · intro H8 s8 dk8
        have hf8 := s8 _ _ hf6
        refine ⟨hf8, ?_⟩
        rw [List.map_id, ded_self (nd5.filter _)] at dk8
        have hDD : D6 ≠ D5 := fun e => by rw [e, hf6] at hD6; cases hD6
        refine hN _ D6 _ _ (fun b u hb => ?_) (by show upd H8 D5 _ D6 = _; rw [upd_ne hDD]; exact dk8) (nd5.filter _) fun q => by rw [List.mem_filter]
        by_cases e : b = D5
        · subst e
          rw [upd_same]
          rw [show H5 b = _ from dk5] at hb
          exact hb
        · rw [upd_ne e]
          refine s8 _ _ ?_
          rw [upd_ne e]
          exact s6 _ _ hb
  case f1 | f2 =>
    intro H5 D5 ks o3 o4 o5 o6 o7 s5 dk5 nd5 mem5
    refine ⟨_, rfl, _, rfl, D5, _, rfl, .inl dk5, fun l bs hl hk => ?_⟩
    have hk2 : Paired (Tn H5) (bs.map V.ref) ks := keys_tns (v := fun _ => V.bl true) hk
    have hiff : ∀ q, q ∈ common n (r0 :: rest) ↔ q ∈ ks := fun q => by
      rw [mem5, mem_pre P0]
      constructor
      · intro hq
        obtain ⟨i, j, rfl, h1, h2, _⟩ := mem_common.mp hq
        obtain ⟨_, _, h3⟩ := (common_iff hperm (by simp)).mp hq
        exact ⟨⟨i, j, rfl, h1, h2, h3 r0 (by simp)⟩, fun r hr => decide_eq_true (h3 r (List.mem_cons_of_mem _ hr))⟩
      · rintro ⟨⟨i, j, rfl, h1, h2, h3⟩, h4⟩
        refine (common_iff hperm (by simp)).mpr ⟨h1, h2, fun r hr => ?_⟩
        rcases List.mem_cons.mp hr with rfl | hr
        · exact h3
        · exact of_decide_eq_true (h4 r hr)
    have hpr : Pr n ks := fun q hq => common_pr n (r0 :: rest) q ((hiff q).mpr hq)
    have hklen : ks.length < 64 := by
      have h1 := List.Nodup.length_le_of_subset nd5 fun q hq => (hiff q).mpr hq
      have h2 := (common_po (n := n) (by omega) hperm (by simp)).few hn
      omega
    refine ⟨l, n, ks, common n (r0 :: rest), rfl, lt_new hl hk2, hpr, nd5, by omega, hklen, common_up (by omega) _, hiff, fun H' x s' hw => q H' x (s3.trans (s5.trans ((same_new hl).trans s'))) hw⟩
end
end Ev

set_option maxRecDepth 100000
set_option maxHeartbeats 4000000
namespace Ev
open PySem PySem.Spec PyProof.Rows L2 EvM
def rowT (r : List Nat) : Option (List (Option Int)) := some (r.map fun x : Nat => some (x : Int))
theorem tns_rwd {K : PySem.W.Frag} {H : Hp} : ∀ {xs : List V} {rs : List (List Nat)}, Paired (Tr H) xs rs → Paired (RwD K H) xs (rs.map rowT)
  | _, _, .nil => .nil
  | _, _, .cons h t => .cons (tr_lf h) (tns_rwd t)
theorem ltt_thd {K : PySem.W.Frag} {H : Hp} {a : Addr} {rs : List (List Nat)} (h : LTt H a rs) : ThD K H (.ref a) (some (rs.map rowT)) := by
  obtain ⟨xs, e, p⟩ := h
  exact ⟨a, xs, rfl, e, tns_rwd p⟩
theorem rows_true {n : Nat} {rs : List (List Nat)} (h : ∀ r ∈ rs, Perm n r) (hne : rs ≠ []) (h1 : 1 ≤ n) (h8 : n ≤ 8) (hz : rs.length ≤ 1000) : areRows (some (rs.map rowT)) = true := by
  cases rs with
  | nil => exact absurd rfl hne
  | cons r rest =>
    have hr := h r (by simp)
    show areRows (some (some (r.map fun x : Nat => some (x : Int)) :: rest.map rowT)) = true
    rw [areRows_some, List.length_map, hr.len, decide_eq_true h1, decide_eq_true h8, decide_eq_true (by rw [List.length_cons, List.length_map]; exact hz)]
    show List.all ((r :: rest).map rowT) (rowOk n) = true
    rw [List.all_eq_true]
    intro q hq
    obtain ⟨s, hs, rfl⟩ := List.mem_map.mp hq
    have hs' := h s hs
    unfold rowOk
    rw [show areNames (n : Int) (rowT s) = true from names_ok hs'.lt hs'.nd, Bool.true_and]
    refine decide_eq_true ?_
    show (s.map fun x : Nat => some (x : Int)).length = n
    rw [List.length_map, hs'.len]
theorem rows_sizes {n : Nat} {rs : List (List Nat)} (h : ∀ r ∈ rs, Perm n r) (hn : n ≤ 8) (hz : rs.length ≤ 1001) : sizesOk (some (rs.map rowT)) := by
  intro rows e
  cases e
  refine ⟨by rw [List.length_map]; omega, fun os hos => ?_⟩
  obtain ⟨r, hr, e⟩ := List.mem_map.mp hos
  unfold rowT at e
  cases e
  rw [List.length_map, (h r hr).len]
  omega
/-- what is no list of rows told by its sizes -/
def Few5 (th : Th) : Prop := ∀ os rest, th = some (some os :: rest) → os.length ≤ 5 ∨ 9 ≤ os.length
theorem nat_ints {n : Nat} {os : List (Option Int)} (h : os.all (inside 0 ((n : Int) - 1)) = true) : ∃ r : List Nat, os = r.map (fun x : Nat => some (x : Int)) ∧ ∀ x ∈ r, x < n := by
  induction os with
  | nil => exact ⟨[], rfl, by simp⟩
  | cons o os ih =>
    rw [List.all_cons, Bool.and_eq_true] at h
    obtain ⟨r, e, hr⟩ := ih h.2
    cases o with
    | none => exact absurd h.1 (by simp [inside])
    | some i =>
      have hi := h.1
      unfold inside at hi
      rw [Bool.and_eq_true, decide_eq_true_eq, decide_eq_true_eq] at hi
      refine ⟨i.toNat :: r, ?_, fun x hx => ?_⟩
      · rw [List.map_cons, ← e]
        show some i :: os = some ((i.toNat : Nat) : Int) :: os
        rw [Int.toNat_of_nonneg hi.1]
      · rcases List.mem_cons.mp hx with rfl | hx
        · omega
        · exact hr x hx
theorem row_perm {n : Nat} {o : Option (List (Option Int))} (h : rowOk n o = true) : ∃ r, o = rowT r ∧ Perm n r := by
  unfold rowOk at h
  rw [Bool.and_eq_true] at h
  obtain ⟨h1, h2⟩ := h
  cases o with
  | none => cases h1
  | some os =>
    have h1 : (os.all (inside 0 ((n : Int) - 1)) && decide os.Nodup) = true := h1
    rw [Bool.and_eq_true] at h1
    obtain ⟨r, rfl, hr⟩ := nat_ints h1.1
    have hn := of_decide_eq_true h1.2
    have hl : ((r.map fun x : Nat => some (x : Int))).length = n := of_decide_eq_true h2
    rw [List.length_map] at hl
    exact ⟨r, rfl, ⟨List.Pairwise.imp (fun {a b} hab e => hab (by rw [e])) (List.pairwise_map.mp hn), hl, hr⟩⟩
theorem rows_perm {n : Nat} : ∀ {os : List (Option (List (Option Int)))}, os.all (rowOk n) = true → ∃ rs : List (List Nat), os = rs.map rowT ∧ ∀ r ∈ rs, Perm n r
  | [], _ => ⟨[], rfl, by simp⟩
  | o :: os, h => by
    rw [List.all_cons, Bool.and_eq_true] at h
    obtain ⟨r, rfl, hr⟩ := row_perm h.1
    obtain ⟨rs, rfl, hrs⟩ := rows_perm h.2
    exact ⟨r :: rs, rfl, fun q hq => (List.mem_cons.mp hq).elim (fun e => e ▸ hr) (hrs q)⟩
theorem rwd_tns {K : PySem.W.Frag} {H : Hp} : ∀ {xs : List V} {rs : List (List Nat)}, Paired (RwD K H) xs (rs.map rowT) → Paired (Tr H) xs rs
  | _, [], .nil => .nil
  | _, r :: rs, .cons h t => by
    refine .cons ?_ (rwd_tns t)
    obtain ⟨a, ys, rfl, ha, hp⟩ := h
    refine ⟨a, rfl, ?_⟩
    have e := lf_ints (is := r.map fun x : Nat => (x : Int)) (by rw [List.map_map]; exact hp)
    rw [e, List.map_map] at ha
    exact ha
theorem thd_rows {K : PySem.W.Frag} {H : Hp} {v : V} {th : Th} (h : ThD K H v th) (ht : areRows th = true) (hf : Few5 th) : ∃ a rows n, v = .ref a ∧ LTt H a rows ∧ (∀ r ∈ rows, Perm n r) ∧ rows ≠ [] ∧ 1 ≤ n ∧ n ≤ 5 ∧ rows.length ≤ 1000 := by
  cases th with
  | none => cases ht
  | some os =>
    cases os with
    | nil => cases ht
    | cons o rest =>
      cases o with
      | none => cases ht
      | some q =>
        rw [areRows_some] at ht
        simp only [Bool.and_eq_true, decide_eq_true_eq] at ht
        obtain ⟨⟨h1, h2, h3⟩, h4⟩ := ht
        obtain ⟨rs, e, hrs⟩ := rows_perm h4
        obtain ⟨a, xs, rfl, ha, hp⟩ := h
        rw [e] at hp h1
        rw [List.length_map] at h1
        refine ⟨a, rs, q.length, rfl, ⟨xs, ha, rwd_tns hp⟩, hrs, fun z => ?_, h2, ?_, h1⟩
        · subst z
          cases e
        · rcases hf q rest rfl with h | h <;> omega
section
variable {P : Program} {w : World} {K : PySem.W.Frag} {mg : Str → Option Value} {base : Heap} {ad : Ad}
/-- good rows at a -/
def Rows (H : Hp) (a : Addr) (rows : List (List Nat)) (n : Nat) : Prop := LTt H a rows ∧ (∀ r ∈ rows, Perm n r) ∧ rows ≠ [] ∧ 1 ≤ n ∧ n ≤ 5 ∧ rows.length ≤ 1000
theorem Rows.same {H H' : Hp} {a : Addr} {rows : List (List Nat)} {n : Nat} (h : Rows H a rows n) (s : Same H H') : Rows H' a rows n := ⟨h.1.same s, h.2⟩
def Bad (K : PySem.W.Frag) (ad : Ad) (vs : List V) (H : Hp) (E : XK) : Prop := ∃ v th, vs = [v] ∧ ThD K H v th ∧ sizesOk th ∧ areRows th = false ∧ ∀ H', Same H H' → E (.ref ad.CN) none H'
def spCW (K : PySem.W.Frag) (ad : Ad) : Sp := fun vs H Q E => (∃ a rows n, vs = [.ref a] ∧ Rows H a rows n ∧ ∀ H' x, Same H H' → IsWeb ad.CR H' x n (common n rows) → Q (.ref x) H') ∨ Bad K ad vs H E
theorem ok_common_web (T : Txt K mg) (F : Cf K mg ad) : Cal P w K mg base (L2.CX P w) 6 "common_web" (spCW K ad) := by
  refine T.d_common_web.okX sc_common_web (fun vs H Q E h => ?_) (fun f cdv A outer s H vs Q E hr h => ?_)
  · rcases h with ⟨a, rows, n, rfl, _⟩ | ⟨v, th, rfl, _⟩ <;> rfl
  refine ⟨_, (pss_cons (ps_expr (pe_fnX (E := E) (ok_check_rows T F) hr (by decide) rfl (passes_call (takes_of rfl rfl rfl rfl) fun _ _ _ _ h => h) (pa_cons (pv 0) pa_nil)))
  (pss_one (ps_ret (pe_fn (ok_common_of T F) hr (by decide) rfl (pa_cons (pv 0) pa_nil))))), ?_⟩
  rcases h with ⟨a, rows, n, rfl, ⟨hl, hp, hne, h1, h5, hz⟩, q⟩ | ⟨v, th, rfl, hth, hsz, hno, q⟩
  · refine ⟨_, rfl, .ref a, _, rfl, ltt_thd hl, rows_sizes hp (by omega) (by omega), fun _ H1 s1 => ?_, fun e => ?_⟩
    · exact ⟨_, rfl, a, rows, n, rfl, hl.same s1, hp, hne, h5, by omega, fun H2 x s2 hw => q H2 x (s1.trans s2) hw⟩
    · rw [rows_true hp hne h1 (by omega) hz] at e
      cases e
  · refine ⟨_, rfl, v, th, rfl, hth, hsz, fun e => ?_, fun _ H1 s1 => q H1 s1⟩
    rw [hno] at e
    cases e
def spAll (K : PySem.W.Frag) (ad : Ad) : Sp := fun vs H Q E => (∃ a rows n, vs = [.ref a] ∧ Rows H a rows n ∧ ∀ H', Same H H' → Q (.bl (decide (∀ o ∈ ords n (common n rows), o ∈ rows))) H') ∨ Bad K ad vs H E
theorem ok_are_all (T : Txt K mg) (F : Cf K mg ad) : Cal P w K mg base (L2.CX P w) 6 "are_all" (spAll K ad) := by
  refine T.d_are_all.okX sc_are_all (fun vs H Q E h => ?_) (fun f cdv A outer s H vs Q E hr h => ?_)
  · rcases h with ⟨a, rows, n, rfl, _⟩ | ⟨v, th, rfl, _⟩ <;> rfl
  refine ⟨_, (pss_cons (ps_expr (pe_fnX (E := E) (ok_check_rows T F) hr (by decide) rfl (passes_call (takes_of rfl rfl rfl rfl) fun _ _ _ _ h => h) (pa_cons (pv 0) pa_nil)))
  (pss_one (ps_ret (pe_cmpR op_eq (pe_fn (ok_count T F) hr (by decide) rfl (pa_cons (pe_fn (ok_common_of T F) hr (by decide) rfl (pa_cons (pv 0) pa_nil)) pa_nil)) (pe_callB call_len_dF (by rfl) T.n_len (by decide +kernel) (pa_cons (pe_dcF (own := [("row", 1)]) (hu_of hr) rfl sc_are_all.nd (pi_seq (pv 0)) (blkOk_by (N := ["rows", "row"]) (sc := defScope s_are_all) (own := [("row", 1)]) (by decide +kernel)) (fun _ _ _ _ _ => (pg_name (i := 1) sc_are_all.nd rfl (Or.inl rfl))) (fun _ _ _ _ _ => pts_nil) (fun _ _ _ _ _ => (pv 1)) (fun _ _ _ _ _ => pe_bl)) pa_nil)) (nomark _))))), ?_⟩
  rcases h with ⟨a, rows, n, rfl, ⟨hl, hp, hne, h1, h5, hz⟩, q⟩ | ⟨v, th, rfl, hth, hsz, hno, q⟩
  · refine ⟨_, rfl, .ref a, _, rfl, ltt_thd hl, rows_sizes hp (by omega) (by omega), fun _ H1 s1 => ?_, fun e => ?_⟩
    · refine ⟨_, rfl, a, rows, n, rfl, hl.same s1, hp, hne, h5, by omega, fun H2 x s2 hw => ?_⟩
      have hpo := common_po (n := n) (by omega) hp hne
      refine ⟨ad.CR, x, n, common n rows, rfl, .inr rfl, hw, h5, by have := hpo.few h5; omega, fun H3 s3 => ?_⟩
      obtain ⟨xs, hx3, hpx⟩ := hl.same (s1.trans (s2.trans s3))
      have hxl : xs.length = rows.length := Paired.length hpx
      have fin : ∀ (D : Addr) (H4 : Hp), Same H3 H4 → Dx P w H4 D (ded rows) → rLenF P w [.ref D] H4 fun y H5 => rEq (.int (((ords n (common n rows)).length : Nat) : Int)) y H5 Q := by
        intro D H4 s4 hd
        obtain ⟨es, hd, hk, hr⟩ := hd
        refine ⟨D, es, rfl, hd, hr, rfl, ?_⟩
        have hel : es.length = (ded rows).length := by
          have := congrArg List.length hk
          rwa [List.length_map, List.length_map] at this
        rw [hel, int_eq, decide_eq_decide.mpr (all_iff hp hne (ded_nodup rows) fun r => mem_ded)]
        exact q _ (s1.trans (s2.trans (s3.trans s4)))
      refine ⟨_, rfl, a, xs, rfl, hx3.elim (fun hx => .inl ⟨.inl (.inl hx), fun D hD => dcF_gen rows (walk_listN hxl) (by omega) hD (fun H' s' => .inl (.inl (s' _ _ hx))) ?t1 (fun H4 s4 hd => fin D H4 s4 hd)⟩) (fun hx => .inr ⟨.inl hx, fun D hD => dcF_gen rows (walk_tupN hxl) (by omega) hD (fun H' s' => .inl (Rd.same hx s')) ?t2 (fun H4 s4 hd => fin D H4 s4 hd)⟩)⟩
      case t1 | t2 =>
        rintro i r x2 H40 H4 hi s4 ⟨rfl, hx4⟩ Kc Kn kc
        obtain ⟨r', hr', htn⟩ := Pd.get hpx hx4
        rw [hi] at hr'
        cases hr'
        exact ⟨rfl, _, rfl, kc _ _ _ (fun _ _ z => z) (htn.same s4)⟩
    · rw [rows_true hp hne h1 (by omega) hz] at e
      cases e
  · refine ⟨_, rfl, v, th, rfl, hth, hsz, fun e => ?_, fun _ H1 s1 => q H1 s1⟩
    rw [hno] at e
    cases e
end
end Ev

set_option maxRecDepth 100000
set_option maxHeartbeats 4000000
namespace Ev
open PySem PySem.Spec PyProof.Rows L2 EvM
section
variable {P : Program} {w : World} {K : PySem.W.Frag} {mg : Str → Option Value} {base : Heap} {ad : Ad}
def spTold (ad : Ad) (m : Nat) : Sp := fun vs H Q _ => ∃ x c l n ps rows chosen b, vs = [.ref x, .ref c, .ref l, .int ((m : Nat) : Int)] ∧ IsWeb ad.CW H x n ps ∧ Tt H c chosen ∧ Lt H l (rows.drop b) ∧ (∀ r ∈ chosen, Perm n r) ∧ (∀ r ∈ rows, Perm n r) ∧
  n ≤ 5 ∧ chosen.length + m ≤ 100 ∧ rows.length ≤ 1000 ∧ (m = 0 → chosen ≠ []) ∧ b ≤ rows.length ∧
  (first n ps rows m (chosen, b) = none → ∀ H', Same H H' → Q .non H') ∧ (∀ s, first n ps rows m (chosen, b) = some s → ∀ H' c', Same H H' → Tt H' c' s.1 → Q (.ref c') H')
theorem ok_told_by0 (T : Txt K mg) (F : Cf K mg ad) : Cal P w K mg base CX0 6 "told_by" (spTold ad 0) := by
  obtain ⟨fdE, GE, bE⟩ := ok_Web_eq (P := P) (w := w) (base := base) T F
  refine T.d_told_by.ok sc_told_by (fun vs H Q E h => ?_) (fun f cdv A outer s H vs Q E hr h => ?_)
  · obtain ⟨x, c, l, n, ps, rows, chosen, b, rfl, _⟩ := h
    rfl
  obtain ⟨x, c, l, n, ps, rows, chosen, b, rfl, hw, hc, hl, hp1, hp2, hn, hz1, hz2, hne, hb, q1, q2⟩ := h
  refine ⟨_, (pss_cons (ps_if (pt_cmpR op_eq (pv 3) pe_int (nomark _)) (pss_one (ps_ret (pe_ifExp (pt_cmpR (op_eqOwn F.o2 GE bE (hr.mono (by decide)) pass0) (pe_fn (ok_common_of T F) hr (by decide) rfl (pa_cons (pv 1) pa_nil)) (pv 0) (nomark _)) (pv 1) pe_non))) pss_nil)
  (pss_cons ps_no
  (pss_one (ps_ret pe_non)))), ?_⟩
  refine ⟨_, rfl, rfl, _, rfl, iteT ?_⟩
  obtain ⟨xs, hx, hpx⟩ := id hc
  refine ⟨_, rfl, c, chosen, n, rfl, ⟨xs, .inr (.inl hx), tns_r hpx⟩, hp1, hne rfl, hn, by omega, fun H1 y s1 hy => ?_⟩
  obtain ⟨dy, fs, hy1, hyf⟩ := id hy
  obtain ⟨dx, gs, hx1, hxf⟩ := hw.same s1
  refine ⟨_, rfl, y, x, dy, dx, fs, gs, rfl, rfl, hy1, hx1, y, x, n, n, common n chosen, ps, rfl, hy, hw.same s1, ?_⟩
  rw [decide_eq_true rfl, Bool.true_and]
  refine ⟨_, rfl, _, rfl, ?_⟩
  rw [first_zero] at q1 q2
  have hb2 : (common n chosen == ps) = decide (common n chosen = ps) := by
    by_cases e : common n chosen = ps
    · simp [e]
    · simp [e]
  rw [hb2] at q1 q2
  refine ite2 (fun cc => ?_) (fun cc => ?_)
  · rw [if_neg Bool.false_ne_true] at cc
    rw [if_pos cc] at q2
    exact ⟨_, rfl, q2 _ rfl _ c s1 (hc.same s1)⟩
  · rw [if_neg Bool.false_ne_true] at cc
    rw [if_neg cc] at q1
    exact q1 rfl _ s1
theorem ok_told_byS (T : Txt K mg) (F : Cf K mg ad) (m : Nat) {j : Nat} (ih : Cal P w K mg base CX0 j "told_by" (spTold ad m)) : Cal P w K mg base CX0 (j + 1) "told_by" (spTold ad (m + 1)) := by
  refine T.d_told_by.ok sc_told_by (fun vs H Q E h => ?_) (fun f cdv A outer s H vs Q E hr h => ?_)
  · obtain ⟨x, c, l, n, ps, rows, chosen, b, rfl, _⟩ := h
    rfl
  obtain ⟨x, c, l, n, ps, rows, chosen, b, rfl, hw, hc, hl, hp1, hp2, hn, hz1, hz2, hne, hb, q1, q2⟩ := h
  refine ⟨_, (pss_cons (ps_if (pt_cmpR op_eq (pv 3) pe_int (nomark _)) (pss_one ps_no) pss_nil)
  (pss_cons (ps_for PassesOwn.never rfl (pi_range1 (by rfl) T.n_range (pa_cons (pe_callB call_len_seq (by rfl) T.n_len (by decide +kernel) (pa_cons (pv 2) pa_nil)) pa_nil)) (pg_name (i := 4) sc_told_by.nd rfl (Or.inl rfl))
  (pss_cons (ps_set (i := 5) sc_told_by.nd rfl (Or.inl rfl) (pe_fn ih hr (Nat.le_refl _) rfl (pa_cons (pv 0) (pa_cons (pe_op (r := rCatA K) op_catA (pv 1) (pe_tup (pa_cons (pe_ix (r := rIxL K) ix_list (pv 2) (pv 4) (fun _ _ => rfl)) pa_nil))) (pa_cons (pe_slice sl_list (pv 2) (po_some (pe_op op_add (pv 4) pe_int)) po_none) (pa_cons (pe_op op_sub (pv 3) pe_int) pa_nil))))))
  (pss_one (ps_if (pt_cmpR op_notN (pv 5) pe_non (nomark _)) (pss_one (ps_ret (pv 5))) pss_nil))))
  (pss_one (ps_ret pe_non)))), ?_⟩
  refine ⟨_, rfl, rfl, _, rfl, ?_⟩
  rw [show decide (V.int (((m + 1 : Nat)) : Int) = V.int 0) = false from decide_eq_false fun z => by injection z with z; omega]
  refine iteF ?_
  obtain ⟨xs, hx, hpx⟩ := hl
  have hxl : xs.length = rows.length - b := by rw [Paired.length hpx, List.length_drop]
  obtain ⟨r1, r2⟩ := rng_ok (n := xs.length) (by omega)
  refine ⟨_, rfl, l, xs, rfl, .inl (.inl (.inl hx)), _, rfl, r1, r2, ?_⟩
  refine for_it walk_rng (fun i σ H' => (∃ o4 o5 : Option V, σ = [some (.ref x), some (.ref c), some (.ref l), some (.int (((m + 1 : Nat)) : Int)), o4, o5]) ∧ Same H H' ∧ ∀ k, k < i → first n ps rows m (chosen ++ [rows.getD (b + k) []], b + k + 1) = none) ⟨⟨_, _, rfl⟩, fun _ _ z => z, fun k hk => absurd hk (Nat.not_lt_zero _)⟩ (fun _ _ _ _ _ => trivial) ?_ ?_
  · rintro i y σ H20 H2 hi ⟨⟨o4, o5, rfl⟩, s2, no2⟩ ⟨rfl, rfl⟩
    have hi2 : i < (rows.drop b).length := by rw [List.length_drop]; omega
    obtain ⟨v, ev, tv⟩ := Pd.get' hpx (List.getElem?_eq_getElem hi2)
    have erow : (rows.drop b)[i] = rows.getD (b + i) [] := by
      rw [List.getElem_drop, EvM.getD_at (by omega)]
    rw [erow] at tv
    obtain ⟨av, rfl, hav⟩ := tv.tk (tk_of s2)
    obtain ⟨cs, hcs, hpc⟩ := hc.same s2
    refine ⟨_, rfl, _, rfl, _, rfl, _, rfl, l, xs, (i : Int), _, rfl, rfl, .inl (.inl (s2 _ _ hx)), atI_nat ev, (by show 1 ≤ sizeLine; decide), fun p hp => ?_⟩
    have sp : Same H2 (upd H2 p (.tup [V.ref av])) := same_new hp
    refine catV (sp _ _ hcs) upd_same (by have := Paired.length hpc; show cs.length + 1 ≤ _; omega) fun H3 c2 s3 hc2 => ?_
    have s23 := sp.trans s3
    have sH3 := s2.trans s23
    refine ⟨_, rfl, _, rfl, _, 1, rfl, rfl, _, rfl, noPart ⟨l, xs, rfl, .inl (.inl (sH3 _ _ hx)), fun l2 hl2 => ?_⟩⟩
    have s4 : Same H3 (upd H3 l2 (.lst (cutV xs (some ((i : Int) + 1)) none))) := same_new hl2
    have ecut : cutV xs (some ((i : Int) + 1)) none = xs.drop (i + 1) := cutV_drop xs (i + 1)
    rw [ecut] at s4
    have sH4 := sH3.trans s4
    have lt4 : Lt (upd H3 l2 (.lst (xs.drop (i + 1)))) l2 (rows.drop (b + i + 1)) := by
      have := lt_new hl2 (Pd.drop (i + 1) (tns_tk hpx (tk_of sH3)))
      rwa [List.drop_drop, show b + (i + 1) = b + i + 1 by omega] at this
    have tt4 : Tt (upd H3 l2 (.lst (xs.drop (i + 1)))) c2 (chosen ++ [rows.getD (b + i) []]) := by
      refine ⟨_, s4 _ _ hc2, Pd.snoc (tns_tk hpc (tk_of (s23.trans s4))) ⟨av, rfl, (s23.trans s4) _ _ hav⟩⟩
    rw [ecut]
    have hrow : rows.getD (b + i) [] ∈ rows := by
      rw [EvM.getD_at (by omega)]
      exact List.getElem_mem _
    refine ⟨_, rfl, _, 1, rfl, rfl, x, c2, l2, n, ps, rows, chosen ++ [rows.getD (b + i) []], b + i + 1, ?_, hw.same sH4, tt4, lt4, fun r hr => (List.mem_append.mp hr).elim (hp1 r) fun h => by rw [List.mem_singleton.mp h]; exact hp2 _ hrow, hp2, hn, by rw [List.length_append]; show chosen.length + 1 + m ≤ 100; omega, hz2, fun _ => by simp, by omega, fun e H5 s5 => ?_, fun sv e H5 c5 s5 ht => ?_⟩
    · show [V.ref x, V.ref c2, V.ref l2, V.int (((m + 1 : Nat) : Int) - 1)] = _
      rw [show ((m + 1 : Nat) : Int) - 1 = (m : Int) by omega]
    · refine ⟨_, rfl, rfl, _, rfl, iteF ⟨⟨_, _, rfl⟩, sH4.trans s5, fun k hk => ?_⟩⟩
      rcases Nat.lt_or_ge k i with h | h
      · exact no2 k h
      · have : k = i := by omega
        subst this
        exact e
    · refine ⟨_, rfl, rfl, _, rfl, ?_⟩
      rw [decide_eq_false (by simp)]
      exact iteT ⟨_, rfl, q2 sv (first_some (by omega) no2 e) H5 c5 (sH4.trans s5) ht⟩
  · rintro σ H2 ⟨⟨o4, o5, rfl⟩, s2, no2⟩
    exact q1 (first_none fun k hk => no2 k (by omega)) _ s2
end
end Ev

set_option maxRecDepth 100000
set_option maxHeartbeats 4000000
namespace Ev
open PySem PySem.Spec PyProof.Rows L2 EvM
/-- how many rows tell the web, and which -/
def Res (n : Nat) (ps : Ps) (k : Nat) (s : Ch) : Prop := (k = 1 ∧ first n ps (ords n ps) 1 ([], 0) = some s) ∨ (k = 2 ∧ first n ps (ords n ps) 1 ([], 0) = none ∧ first n ps (ords n ps) 2 ([], 0) = some s)
/-- a pair (k, rows) at b -/
def Told (H : Hp) (b : Addr) (k : Nat) (rows : List (List Nat)) : Prop := ∃ c, H b = some (.tup [.int ((k : Nat) : Int), .ref c]) ∧ Tt H c rows
section
variable {P : Program} {w : World} {K : PySem.W.Frag} {mg : Str → Option Value} {base : Heap} {ad : Ad}
def spFR (ad : Ad) : Sp := fun vs H Q E => ∃ x n ps, vs = [.ref x] ∧ IsWeb ad.CW H x n ps ∧ ps.length < 64 ∧
  ((n ≤ 5 ∧ Po n ps ∧ ∀ H' b k s, Same H H' → Told H' b k s.1 → Res n ps k s → Q (.ref b) H') ∨ (6 ≤ n ∧ ∀ H' d, Same H H' → H' d = some (.xd [(("most" : Str), .int 5)]) → E (.ref ad.CT) (some d) H'))
theorem ok_fewest_rows (T : Txt K mg) (F : Cf K mg ad) : Cal P w K mg base (L2.CX P w) 9 "fewest_rows" (spFR ad) := by
  have c1 : Cal P w K mg base CX0 7 "told_by" (spTold ad 1) := ok_told_byS T F 0 (ok_told_by0 T F)
  have c2 : Cal P w K mg base CX0 8 "told_by" (spTold ad 2) := ok_told_byS T F 1 c1
  refine T.d_fewest_rows.okX sc_fewest_rows (fun vs H Q E h => ?_) (fun f cdv A outer s H vs Q E hr h => ?_)
  · obtain ⟨x, n, ps, rfl, _⟩ := h
    rfl
  obtain ⟨x, n, ps, rfl, hw, hz, q⟩ := h
  refine ⟨_, (pss_cons (ps_expr (pe_fnX (E := E) (ok_check_many T F) hr (by decide) rfl (passes_call (takes_of rfl rfl rfl rfl) fun _ _ _ _ h => h) (pa_cons (pe_fld (pv 0) rfl) (pa_cons (pe_gl (v := .int 5) rfl T.g_MOST_TOLD) pa_nil))))
  (pss_cons (ps_set (i := 1) sc_fewest_rows.nd rfl (Or.inl rfl) (pe_fn (ok_all_orders T F) hr (by decide) rfl (pa_cons (pv 0) pa_nil)))
  (pss_cons (ps_set (i := 2) sc_fewest_rows.nd rfl (Or.inl rfl) pe_int)
  (pss_cons (ps_set (i := 3) sc_fewest_rows.nd rfl (Or.inl rfl) (pe_fn c1 hr (by decide) rfl (pa_cons (pv 0) (pa_cons (pe_tup pa_nil) (pa_cons (pv 1) (pa_cons (pv 2) pa_nil))))))
  (pss_cons (ps_while (passes_of rfl) (pt_cmpR op_isN (pv 3) pe_non (nomark _))
  (pss_cons (ps_aug (i := 2) sc_fewest_rows.nd rfl (Or.inl rfl) pe_int ip_add)
  (pss_one (ps_set (i := 3) sc_fewest_rows.nd rfl (Or.inl rfl) (pe_fn c2 hr (by decide) rfl (pa_cons (pv 0) (pa_cons (pe_tup pa_nil) (pa_cons (pv 1) (pa_cons (pv 2) pa_nil)))))))))
  (pss_one (ps_ret (pe_tup (pa_cons (pv 2) (pa_cons (pv 3) pa_nil)))))))))), ?_⟩
  obtain ⟨dx, fs, hx, b0, l0, m0, rfl, hb0, hl0⟩ := id hw
  refine ⟨_, rfl, x, ad.CW, dx, _, _, rfl, hx, F.cW, F.nW.1, lk_many, n, 5, rfl, fun hle => ?_, fun hlt H1 d s1 hd => ?_⟩
  case refine_2 =>
    rcases q with ⟨h5, _⟩ | ⟨_, q⟩
    · omega
    · exact q H1 d s1 hd
  rcases q with ⟨h5, hpo, q⟩ | ⟨h6, _⟩
  case inr => omega
  refine ⟨_, rfl, ad.CW, x, n, ps, rfl, .inl rfl, hw, h5, hz, fun H1 ev s1 hev => ?_⟩
  have hperm : ∀ r ∈ ords n ps, Perm n r := fun r hr => ((mem_ords hpo.pr).mp hr).toPerm
  have hol := ords_le h5 ps
  -- found: None, or the rows
  have main : ∀ (H2 : Hp) (v : V), Same H1 H2 → ((v = .non ∧ first n ps (ords n ps) 1 ([], 0) = none) ∨ ∃ c s, v = .ref c ∧ Tt H2 c s.1 ∧ first n ps (ords n ps) 1 ([], 0) = some s) → _ := fun H2 v s2 hv =>
    while_by (σ := [some (.ref x), some (.ref ev), some (.int 1), some v]) (H := H2)
      (c := tTest (tOp (fun x y H Q => y = .non ∧ Q (.bl (decide (x = .non))) H) (tVar 3) (tC .non)))
      (tb := tSeq (tAug 2 (tC (.int 1)) (ipI fun i j => i + j)) (tAsg (tCall (spTold ad 2) [] E0 (tCons (tVar 0) (tCons (tTup tNil) (tCons (tVar 1) (tCons (tVar 2) tNil))))) (gName 3)))
      (D := { nx := fun σ H' => tRet (tTup (tCons (tVar 2) (tCons (tVar 3) tNil))) { nx := fun _ H' => Q .non H', rt := Q } σ H', rt := Q })
      (fun σ H' => Same H H' ∧ Lt H' ev (ords n ps) ∧ ((σ = [some (.ref x), some (.ref ev), some (.int 1), some .non] ∧ first n ps (ords n ps) 1 ([], 0) = none) ∨ ∃ c k s, σ = [some (.ref x), some (.ref ev), some (.int ((k : Nat) : Int)), some (.ref c)] ∧ Tt H' c s.1 ∧ Res n ps k s))
      (fun σ _ => if σ[3]? = some (some V.non) then 1 else 0)
      ⟨s1.trans s2, hev.same s2, by
        rcases hv with ⟨rfl, e⟩ | ⟨c, s, rfl, ht, e⟩
        · exact .inl ⟨rfl, e⟩
        · exact .inr ⟨c, 1, s, rfl, ht, .inl ⟨rfl, e⟩⟩⟩
      (by
        rintro σ H3 ⟨s3, hev3, ⟨rfl, e⟩ | ⟨c, k, s, rfl, ht, hres⟩⟩
        · refine ⟨_, rfl, rfl, _, rfl, iteT ?_⟩
          refine ⟨_, rfl, 1, 1, rfl, rfl, ?_⟩
          refine ⟨_, rfl, (by decide), fun p hp => ⟨_, rfl, _, rfl, ?_⟩⟩
          have sp : Same H3 (upd H3 p (.tup [])) := same_new hp
          have tp : Tt (upd H3 p (.tup [])) p [] := ⟨[], upd_same, .nil⟩
          refine ⟨x, p, ev, n, ps, ords n ps, [], 0, rfl, hw.same (s3.trans sp), tp, hev3.same sp, by simp, hperm, h5, by simp, by omega, fun z => absurd z (by decide), Nat.zero_le _, fun e2 => ?_, fun s e2 H4 c s4 ht => ?_⟩
          · obtain ⟨k, hk, s, es⟩ := first_ex h5 hpo
            rcases hk with rfl | rfl
            · rw [e] at es
              cases es
            · rw [e2] at es
              cases es
          · refine ⟨⟨s3.trans (sp.trans s4), hev3.same (sp.trans s4), .inr ⟨c, 2, s, rfl, ht, .inr ⟨rfl, e, e2⟩⟩⟩, ?_⟩
            show (if some (some (V.ref c)) = some (some V.non) then 1 else 0) < (if some (some V.non) = some (some V.non) then 1 else 0)
            rw [if_pos rfl, if_neg (by simp)]
            exact Nat.one_pos
        · refine ⟨_, rfl, rfl, _, rfl, ?_⟩
          rw [decide_eq_false (by simp)]
          refine iteF ?_
          refine ⟨_, rfl, _, rfl, (by show 2 ≤ sizeLine; decide), fun p hp => ?_⟩
          exact q _ p k s (s3.trans (same_new hp)) ⟨c, upd_same, ht.same (same_new hp)⟩ hres)
      (by
        rintro σ H3 Q1 Q2 hq ⟨v, e1, e2, b, e3, h⟩
        exact ⟨v, e1, e2, b, e3, hq _ _ h⟩)
  refine ⟨_, rfl, (by decide), fun p hp => ⟨_, rfl, _, rfl, ?_⟩⟩
  have sp : Same H1 (upd H1 p (.tup [])) := same_new hp
  have tp : Tt (upd H1 p (.tup [])) p [] := ⟨[], upd_same, .nil⟩
  refine ⟨x, p, ev, n, ps, ords n ps, [], 0, rfl, hw.same (s1.trans sp), tp, hev.same sp, by simp, hperm, h5, by simp, by omega, fun z => absurd z (by decide), Nat.zero_le _, fun e2 H2 s2 => main H2 _ (sp.trans s2) (.inl ⟨rfl, e2⟩), fun s e2 H2 c s2 ht => main H2 _ (sp.trans s2) (.inr ⟨c, s, rfl, ht, e2⟩)⟩
end
end Ev

set_option maxRecDepth 100000
set_option maxHeartbeats 4000000
namespace Ev
open PySem PySem.Spec PyProof.Rows L2 EvM
/-- the tape at t, its list of ns at L -/
def Tape (H : Hp) (t L : Addr) (ns : List Int) : Prop := ∃ (i r m c : Int), H t = some (.lst [.ref L, .int i, .int r, .int m, .int c]) ∧ H L = some (.lst (ns.map V.int)) ∧ ns.length ≤ 4000 ∧ 0 ≤ i ∧ 0 ≤ m ∧ m < 2147483648
theorem Tape.same {H H' : Hp} {t L : Addr} {ns : List Int} (h : Tape H t L ns) (s : Same H H') : Tape H' t L ns := by
  obtain ⟨i, r, m, c, h1, h2, h3⟩ := h
  exact ⟨i, r, m, c, s _ _ h1, s _ _ h2, h3⟩
/-- from H to H' the tape may go on, all else stands -/
structure Tp (t L : Addr) (ns : List Int) (H H' : Hp) : Prop where
  sb : SameB t H H'
  t0 : Tape H t L ns
  t1 : Tape H' t L ns
section
variable {t L : Addr} {ns : List Int} {H H1 H2 : Hp}
theorem Tp.rfl' (h : Tape H t L ns) : Tp t L ns H H := ⟨fun _ _ _ e => e, h, h⟩
theorem Tp.trans (h : Tp t L ns H H1) (g : Tp t L ns H1 H2) : Tp t L ns H H2 := ⟨h.sb.trans g.sb, h.t0, g.t1⟩
theorem Tp.same (h : Tp t L ns H H1) (s : Same H1 H2) : Tp t L ns H H2 := ⟨h.sb.trans (.of s), h.t0, h.t1.same s⟩
theorem Tp.of (h : Tape H t L ns) (s : Same H H1) : Tp t L ns H H1 := (Tp.rfl' h).same s
theorem Tp.fresh (h : Tp t L ns H H1) {R : Addr} (e : H1 R = none) : H R = none := by
  cases q : H R with
  | none => rfl
  | some u =>
    by_cases hr : R = t
    · obtain ⟨i, r, m, c, h1, _⟩ := h.t1
      rw [hr, h1] at e
      cases e
    · rw [h.sb R u hr q] at e
      cases e
theorem Tp.new (h : Tp t L ns H H1) {R : Addr} {o : HO} (e : H1 R = none) : Tp t L ns H (upd H1 R o) := h.same (same_new e)
theorem Tp.mut (h : Tp t L ns H H1) {R : Addr} {o : HO} (e : H R = none) : Tp t L ns H (upd H1 R o) := by
  obtain ⟨i, r, m, c, h1, h2, _⟩ := h.t0
  have ht : t ≠ R := ne_of_none h1 e
  have hL : L ≠ R := ne_of_none h2 e
  obtain ⟨i', r', m', c', g1, g2, g3⟩ := h.t1
  refine ⟨fun b u hb q => ?_, h.t0, i', r', m', c', by rw [upd_ne ht]; exact g1, by rw [upd_ne hL]; exact g2, g3⟩
  rw [upd_ne (ne_of_none q e)]
  exact h.sb b u hb q
theorem Tp.tk (h : Tp t L ns H H1) : TK H H1 := fun b xs q => h.sb b _ (fun z => by
  obtain ⟨i, r, m, c, h1, _⟩ := h.t0
  rw [z, h1] at q
  cases q) q
/-- what stands apart from the tape -/
theorem Tp.keep (h : Tp t L ns H H1) {b : Addr} {o : HO} (q : H b = some o) (hb : b ≠ t) : H1 b = some o := h.sb b o hb q
end
theorem int_nat {i : Int} {m : Nat} (hm : 1 ≤ m) : ∃ d : Nat, i % (m : Int) = ((d : Nat) : Int) ∧ d < m := by
  have h1 := Int.emod_nonneg i (show (m : Int) ≠ 0 by omega)
  have h2 := Int.emod_lt_of_pos i (show (0 : Int) < m by omega)
  exact ⟨(i % (m : Int)).toNat, by omega, by omega⟩
section
variable {P : Program} {w : World} {K : PySem.W.Frag} {mg : Str → Option Value} {base : Heap} {ad : Ad}
def spFlag : Sp := fun vs H Q _ => ∃ a b : Bool, vs = [.bl a, .bl b] ∧ Q (.bl (a == b)) H
theorem ok_l_flag (T : Txt K mg) : Cal P w K mg base CX0 1 "_law_flag" spFlag := by
  refine T.d_l_flag.ok sc_l_flag (fun vs H Q E h => ?_) (fun f cdv A outer s H vs Q E hr h => ?_)
  · obtain ⟨a, b, rfl, _⟩ := h
    rfl
  obtain ⟨a, b, rfl, q⟩ := h
  refine ⟨_, (pss_one (ps_ret (pe_and (pe_callB call_isi (by rfl) T.n_isinstance (by decide +kernel) (pa_cons (pv 0) (pa_cons (pe_ty "bool" (by rfl) T.n_bool (by decide +kernel)) pa_nil))) (pe_one (pe_cmpR op_eq (pv 0) (pv 1) (nomark _)))))), ?_⟩
  refine ⟨_, rfl, _, _, _, _, _, rfl, .ty _, (show IsB _ _ (.bl a) .bool from .base (.bl a)), bt_kit .bool .bool, _, rfl, iteT ?_⟩
  refine ⟨_, rfl, _, rfl, rfl, ?_⟩
  have e : decide (V.bl a = V.bl b) = (a == b) := by cases a <;> cases b <;> rfl
  rw [e]
  exact q
def spTape (K : PySem.W.Frag) : Sp := fun vs H Q _ => ∃ (a : Addr) (ns : List Int), vs = [.ref a] ∧ SqL K H a (ns.map V.int) ∧ ns.length ≤ 4000 ∧ ∀ H' t L, Same H H' → H t = none → Tape H' t L ns → Q (.ref t) H'
theorem ok_l_tape (T : Txt K mg) : Cal P w K mg base CX0 1 "_law_tape" (spTape K) := by
  refine T.d_l_tape.ok sc_l_tape (fun vs H Q E h => ?_) (fun f cdv A outer s H vs Q E hr h => ?_)
  · obtain ⟨a, ns, rfl, _⟩ := h
    rfl
  obtain ⟨a, ns, rfl, hs, hz, q⟩ := h
  refine ⟨_, (pss_one (ps_ret (pe_lst (pa_cons (pe_callTy call_list_of (by rfl) T.n_list (by decide +kernel) (pa_cons (pv 0) pa_nil)) (pa_cons pe_int (pa_cons pe_int (pa_cons pe_int (pa_cons pe_int pa_nil)))))))), ?_⟩
  refine ⟨_, rfl, a, _, rfl, .inl hs, fun L hL => ⟨(by show 5 ≤ sizeLine; decide), fun t ht => ?_⟩⟩
  have s1 : Same H (upd H L (.lst (ns.map V.int))) := same_new hL
  refine q _ t L (s1.trans (same_new ht)) (none_of s1 ht) ⟨0, 0, 1, 0, upd_same, same_new ht _ _ upd_same, hz, by omega, by omega, by omega⟩
def spPick : Sp := fun vs H Q _ => ∃ (t L : Addr) (ns : List Int) (m : Nat), vs = [.ref t, .int ((m : Nat) : Int)] ∧ 1 ≤ m ∧ m < 1073741824 ∧ Tape H t L ns ∧ ∀ H' (d : Nat), d < m → Tp t L ns H H' → Q (.int ((d : Nat) : Int)) H'
theorem ok_l_pick (T : Txt K mg) : Cal P w K mg base CX0 1 "_law_pick" spPick := by
  refine T.d_l_pick.ok sc_l_pick (fun vs H Q E h => ?_) (fun f cdv A outer s H vs Q E hr h => ?_)
  · obtain ⟨t, L, ns, m, rfl, _⟩ := h
    rfl
  obtain ⟨t, L, ns, m, rfl, hm1, hm2, tape0, q⟩ := h
  obtain ⟨i, r, mx, c, ht, hL, hz, hi, hx1, hx2⟩ := id tape0
  refine ⟨_, (pss_cons (ps_if (pt_cmpR op_gt (pe_ix (r := rIxL K) ix_list (pv 0) pe_int (fun _ _ => rfl)) pe_int (nomark _)) (pss_cons (ps_set (i := 2) sc_l_pick.nd rfl (Or.inl rfl) (pe_op op_mod (pe_callTy call_int1 (by rfl) T.n_int (by decide +kernel) (pa_cons (pe_ix (r := rIxL K) ix_list (pv 0) pe_int (fun _ _ => rfl)) pa_nil)) (pv 1)))
  (pss_cons (ps_asg (pe_op op_fdivN (pe_ix (r := rIxL K) ix_list (pv 0) pe_int (fun _ _ => rfl)) (pv 1)) (pg_sub (pv 0) pe_int set_list))
  (pss_one (ps_ret (pv 2))))) pss_nil)
  (pss_cons (ps_asg (pe_op op_add (pe_ix (r := rIxL K) ix_list (pv 0) pe_int (fun _ _ => rfl)) pe_int) (pg_sub (pv 0) pe_int set_list))
  (pss_cons (ps_set (i := 3) sc_l_pick.nd rfl (Or.inl rfl) pe_int)
  (pss_cons (ps_if (pt_cmpR op_lt (pe_ix (r := rIxL K) ix_list (pv 0) pe_int (fun _ _ => rfl)) (pe_callB call_len_seq (by rfl) T.n_len (by decide +kernel) (pa_cons (pe_ix (r := rIxL K) ix_list (pv 0) pe_int (fun _ _ => rfl)) pa_nil)) (nomark _)) (pss_cons (ps_set (i := 3) sc_l_pick.nd rfl (Or.inl rfl) (pe_ix (r := rIxL K) ix_list (pe_ix (r := rIxL K) ix_list (pv 0) pe_int (fun _ _ => rfl)) (pe_ix (r := rIxL K) ix_list (pv 0) pe_int (fun _ _ => rfl)) (fun _ _ => rfl)))
  (pss_one (ps_asg (pe_op op_add (pe_ix (r := rIxL K) ix_list (pv 0) pe_int (fun _ _ => rfl)) pe_int) (pg_sub (pv 0) pe_int set_list)))) pss_nil)
  (pss_cons (ps_if (pt_cmpR op_ge (pv 3) (pe_op op_pow pe_int pe_int) (nomark _)) (pss_cons (ps_asg (pe_op op_fdivN (pv 3) (pv 1)) (pg_sub (pv 0) pe_int set_list))
  (pss_one (ps_ret (pe_op op_mod (pe_callTy call_int1 (by rfl) T.n_int (by decide +kernel) (pa_cons (pv 3) pa_nil)) (pv 1))))) pss_nil)
  (pss_cons (ps_set (i := 4) sc_l_pick.nd rfl (Or.inl rfl) (pe_op op_mod (pe_callTy call_int1 (by rfl) T.n_int (by decide +kernel) (pa_cons (pe_op op_add (pe_op op_add (pe_op op_mul (pe_ix (r := rIxL K) ix_list (pv 0) pe_int (fun _ _ => rfl)) pe_int) (pe_op op_mod (pe_callTy call_int1 (by rfl) T.n_int (by decide +kernel) (pa_cons (pv 3) pa_nil)) pe_int)) (pe_op op_mul (pe_ix (r := rIxL K) ix_list (pv 0) pe_int (fun _ _ => rfl)) pe_int)) pa_nil)) pe_int))
  (pss_cons (ps_set (i := 4) sc_l_pick.nd rfl (Or.inl rfl) (pe_op op_mod (pe_callTy call_int1 (by rfl) T.n_int (by decide +kernel) (pa_cons (pe_op op_mul (pv 4) (pe_op op_add (pe_op op_fdivN (pv 4) pe_int) pe_int)) pa_nil)) pe_int))
  (pss_cons (ps_asg (pv 4) (pg_sub (pv 0) pe_int set_list))
  (pss_one (ps_ret (pe_op op_mod (pe_callTy call_int1 (by rfl) T.n_int (by decide +kernel) (pa_cons (pe_op op_fdivN (pv 4) pe_int) pa_nil)) (pv 1)))))))))))), ?_⟩
  have hLt : L ≠ t := fun e => by
    rw [e, ht] at hL
    cases ns with
    | nil => cases hL
    | cons a ns => cases hL
  have hm0 : (0 : Int) < (m : Int) := by omega
  have hdiv : ∀ z : Int, CDivN z (m : Int) := fun z => ⟨by omega, by omega⟩
  have qm : ∀ (H' : Hp) (z : Int), SameB t H H' → Tape H' t L ns → Q (.int (z % (m : Int))) H' := fun H' z s' h' => by
    obtain ⟨d, ed, hd⟩ := int_nat (i := z) hm1
    rw [ed]
    exact q H' d hd ⟨s', tape0, h'⟩
  refine ⟨_, rfl, t, _, 2, _, rfl, rfl, .inl (.inl ht), rfl, r, 1, rfl, rfl, _, rfl, ite2 (fun cr => ?_) (fun cr => ?_)⟩
  · refine ⟨_, rfl, t, _, 2, _, rfl, rfl, .inl (.inl ht), rfl, .inl ⟨r, rfl, _, rfl, r, m, rfl, rfl, hm0, ?_⟩⟩
    refine ⟨_, rfl, t, _, 2, _, rfl, rfl, .inl (.inl ht), rfl, _, rfl, r, m, rfl, rfl, hdiv r, ?_⟩
    refine ⟨_, rfl, t, _, 2, 2, rfl, rfl, ht, rfl, ?_⟩
    refine ⟨_, rfl, ?_⟩
    exact qm _ _ sameB_upd ⟨i, _, mx, c, upd_same, by rw [upd_ne hLt]; exact hL, hz, hi, hx1, hx2⟩
  · refine ⟨_, rfl, t, _, 4, _, rfl, rfl, .inl (.inl ht), rfl, c, 1, rfl, rfl, ?_⟩
    refine ⟨_, rfl, t, _, 4, 4, rfl, rfl, ht, rfl, ?_⟩
    have sB : SameB t H (upd H t (.lst ([.ref L, .int i, .int r, .int mx, .int c].set 4 (.int (c + 1))))) := sameB_upd
    have ht1 : (upd H t (.lst ([.ref L, .int i, .int r, .int mx, .int c].set 4 (.int (c + 1))))) t = some (.lst [.ref L, .int i, .int r, .int mx, .int (c + 1)]) := upd_same
    have hL1 : (upd H t (.lst ([.ref L, .int i, .int r, .int mx, .int c].set 4 (.int (c + 1))))) L = some (.lst (ns.map V.int)) := by rw [upd_ne hLt]; exact hL
    generalize upd H t (.lst ([V.ref L, .int i, .int r, .int mx, .int c].set 4 ((fun i j => V.int (i + j)) c 1))) = G at sB ht1 hL1 ⊢
    refine ⟨_, rfl, t, _, 1, _, rfl, rfl, .inl (.inl ht1), rfl, _, rfl, t, _, 0, _, rfl, rfl, .inl (.inl ht1), rfl, L, _, rfl, .inl (.inl (.inl hL1)), i, _, rfl, rfl, _, rfl, ite2 (fun c2 => ?_) (fun c2 => ?_)⟩
    · have c2 := of_decide_eq_true c2
      rw [List.length_map] at c2
      have hil : i.toNat < ns.length := by omega
      have eat : atI (ns.map V.int) i = some (V.int (ns[i.toNat])) := by
        have h := atI_nat (xs := ns.map V.int) (j := i.toNat) (v := V.int (ns[i.toNat])) (by rw [List.getElem?_map, List.getElem?_eq_getElem hil]; rfl)
        rwa [Int.toNat_of_nonneg hi] at h
      generalize ns[i.toNat] = cell at eat
      refine ⟨_, rfl, t, _, 0, _, rfl, rfl, .inl (.inl ht1), rfl, _, rfl, t, _, 1, _, rfl, rfl, .inl (.inl ht1), rfl, L, _, i, _, rfl, rfl, .inl (.inl hL1), eat, ?_⟩
      refine ⟨_, rfl, t, _, 1, _, rfl, rfl, .inl (.inl ht1), rfl, i, 1, rfl, rfl, ?_⟩
      refine ⟨_, rfl, t, _, 1, 1, rfl, rfl, ht1, rfl, ?_⟩
      have sB2 := sB.trans (sameB_upd (o := .lst ([.ref L, .int i, .int r, .int mx, .int (c + 1)].set 1 (.int (i + 1)))))
      have ht2 : (upd G t (.lst ([.ref L, .int i, .int r, .int mx, .int (c + 1)].set 1 (.int (i + 1))))) t = some (.lst [.ref L, .int (i + 1), .int r, .int mx, .int (c + 1)]) := upd_same
      have hL2 : (upd G t (.lst ([.ref L, .int i, .int r, .int mx, .int (c + 1)].set 1 (.int (i + 1))))) L = some (.lst (ns.map V.int)) := by rw [upd_ne hLt]; exact hL1
      have c18 : CPow 10 18 := ⟨by decide, by decide, by decide⟩
      refine ⟨_, rfl, 10, 18, rfl, rfl, c18, _, _, rfl, rfl, _, rfl, ite2 (fun c3 => ?_) (fun c3 => ?_)⟩
      · refine ⟨_, rfl, _, rfl, cell, m, rfl, rfl, hdiv _, ?_⟩
        refine ⟨_, rfl, t, _, 2, 2, rfl, rfl, ht2, rfl, ?_⟩
        refine ⟨_, rfl, .inl ⟨cell, rfl, _, rfl, cell, m, rfl, rfl, hm0, ?_⟩⟩
        exact qm _ _ ((sB2).trans sameB_upd) ⟨(i + 1), _, mx, c + 1, upd_same, by rw [upd_ne hLt]; exact hL2, hz, by omega, hx1, hx2⟩
      · refine ⟨_, rfl, t, _, 3, _, rfl, rfl, .inl (.inl ht2), rfl, mx, 48271, rfl, rfl, .inr ⟨by decide, by decide⟩, ?_⟩
        refine ⟨_, rfl, .inl ⟨cell, rfl, cell, 2147483629, rfl, rfl, (by show (0 : Int) < 2147483629; decide), _, _, rfl, rfl, ?_⟩⟩
        refine ⟨_, rfl, t, _, 4, _, rfl, rfl, .inl (.inl ht2), rfl, c + 1, 69621, rfl, rfl, .inr ⟨by decide, by decide⟩, _, _, rfl, rfl, ?_⟩
        refine .inl ⟨_, rfl, _, 2147483647, rfl, rfl, (by show (0 : Int) < 2147483647; decide), ?_⟩
        have b1 := Int.emod_nonneg (mx * 48271 + cell % 2147483629 + (c + 1) * 69621) (show (2147483647 : Int) ≠ 0 by decide)
        have b2 := Int.emod_lt_of_pos (mx * 48271 + cell % 2147483629 + (c + 1) * 69621) (show (0 : Int) < 2147483647 by decide)
        refine ⟨_, rfl, _, rfl, _, 1009, rfl, rfl, ⟨by decide, by decide⟩, _, 40692, rfl, rfl, _, _, rfl, rfl, .inl ⟨Int.lt_of_lt_of_le (by decide) b1, Int.lt_trans b2 (by decide)⟩, ?_⟩
        refine .inl ⟨_, rfl, _, 2147483399, rfl, rfl, (by show (0 : Int) < 2147483399; decide), ?_⟩
        have b3 := Int.emod_nonneg (((mx * 48271 + cell % 2147483629 + (c + 1) * 69621) % 2147483647) * (((mx * 48271 + cell % 2147483629 + (c + 1) * 69621) % 2147483647).fdiv 1009 + 40692)) (show (2147483399 : Int) ≠ 0 by decide)
        have b4 := Int.emod_lt_of_pos (((mx * 48271 + cell % 2147483629 + (c + 1) * 69621) % 2147483647) * (((mx * 48271 + cell % 2147483629 + (c + 1) * 69621) % 2147483647).fdiv 1009 + 40692)) (show (0 : Int) < 2147483399 by decide)
        refine ⟨_, rfl, _, rfl, t, _, 3, 3, rfl, rfl, ht2, rfl, ?_⟩
        refine ⟨_, rfl, _, 16, rfl, rfl, ⟨by decide, by decide⟩, .inl ⟨_, rfl, _, rfl, _, m, rfl, rfl, hm0, ?_⟩⟩
        exact qm _ _ ((sB2).trans sameB_upd) ⟨(i + 1), r, _, c + 1, upd_same, by rw [upd_ne hLt]; exact hL2, hz, by omega, b3, Int.lt_trans b4 (by decide)⟩
    · have c18 : CPow 10 18 := ⟨by decide, by decide, by decide⟩
      refine ⟨_, rfl, 10, 18, rfl, rfl, c18, _, _, rfl, rfl, _, rfl, ite2 (fun c3 => ?_) (fun c3 => ?_)⟩
      · refine ⟨_, rfl, _, rfl, 0, m, rfl, rfl, hdiv _, ?_⟩
        refine ⟨_, rfl, t, _, 2, 2, rfl, rfl, ht1, rfl, ?_⟩
        refine ⟨_, rfl, .inl ⟨0, rfl, _, rfl, 0, m, rfl, rfl, hm0, ?_⟩⟩
        exact qm _ _ ((sB).trans sameB_upd) ⟨i, _, mx, c + 1, upd_same, by rw [upd_ne hLt]; exact hL1, hz, hi, hx1, hx2⟩
      · refine ⟨_, rfl, t, _, 3, _, rfl, rfl, .inl (.inl ht1), rfl, mx, 48271, rfl, rfl, .inr ⟨by decide, by decide⟩, ?_⟩
        refine ⟨_, rfl, .inl ⟨0, rfl, 0, 2147483629, rfl, rfl, (by show (0 : Int) < 2147483629; decide), _, _, rfl, rfl, ?_⟩⟩
        refine ⟨_, rfl, t, _, 4, _, rfl, rfl, .inl (.inl ht1), rfl, c + 1, 69621, rfl, rfl, .inr ⟨by decide, by decide⟩, _, _, rfl, rfl, ?_⟩
        refine .inl ⟨_, rfl, _, 2147483647, rfl, rfl, (by show (0 : Int) < 2147483647; decide), ?_⟩
        have b1 := Int.emod_nonneg (mx * 48271 + 0 % 2147483629 + (c + 1) * 69621) (show (2147483647 : Int) ≠ 0 by decide)
        have b2 := Int.emod_lt_of_pos (mx * 48271 + 0 % 2147483629 + (c + 1) * 69621) (show (0 : Int) < 2147483647 by decide)
        refine ⟨_, rfl, _, rfl, _, 1009, rfl, rfl, ⟨by decide, by decide⟩, _, 40692, rfl, rfl, _, _, rfl, rfl, .inl ⟨Int.lt_of_lt_of_le (by decide) b1, Int.lt_trans b2 (by decide)⟩, ?_⟩
        refine .inl ⟨_, rfl, _, 2147483399, rfl, rfl, (by show (0 : Int) < 2147483399; decide), ?_⟩
        have b3 := Int.emod_nonneg (((mx * 48271 + 0 % 2147483629 + (c + 1) * 69621) % 2147483647) * (((mx * 48271 + 0 % 2147483629 + (c + 1) * 69621) % 2147483647).fdiv 1009 + 40692)) (show (2147483399 : Int) ≠ 0 by decide)
        have b4 := Int.emod_lt_of_pos (((mx * 48271 + 0 % 2147483629 + (c + 1) * 69621) % 2147483647) * (((mx * 48271 + 0 % 2147483629 + (c + 1) * 69621) % 2147483647).fdiv 1009 + 40692)) (show (0 : Int) < 2147483399 by decide)
        refine ⟨_, rfl, _, rfl, t, _, 3, 3, rfl, rfl, ht1, rfl, ?_⟩
        refine ⟨_, rfl, _, 16, rfl, rfl, ⟨by decide, by decide⟩, .inl ⟨_, rfl, _, rfl, _, m, rfl, rfl, hm0, ?_⟩⟩
        exact qm _ _ ((sB).trans sameB_upd) ⟨i, r, _, c + 1, upd_same, by rw [upd_ne hLt]; exact hL1, hz, hi, b3, Int.lt_trans b4 (by decide)⟩
end
end Ev

set_option maxRecDepth 100000
set_option maxHeartbeats 4000000
namespace Ev
open PySem PySem.Spec PyProof.Rows L2 EvM
theorem walk_rng2 {lo : Int} {n a : Nat} (h : lo = (a : Int)) : Walk (Itr lo (((n : Nat) : Int) - lo).toNat) (n - a) (fun _ => True) (fun k H x H' => H' = H ∧ x = nm (a + k)) := by
  subst h
  rw [show (((n : Nat) : Int) - (a : Int)).toNat = n - a by omega]
  refine (walk_range (lo := (a : Int)) (n := n - a)).mono (fun _ h => h) fun i H x H' _ _ y => ⟨y.1, y.2.trans ?_⟩
  show V.int ((a : Int) + (i : Int)) = V.int ((a + i : Nat) : Int)
  rw [show (a : Int) + (i : Int) = ((a + i : Nat) : Int) by omega]
/-- pairs of places before (p, q) -/
structure Prz (n : Nat) (rr : List Nat) (p q : Nat) (f : Ps) : Prop where
  mem : ∀ z ∈ f, ∃ a b, z = [rr.getD a 0, rr.getD b 0] ∧ a < b ∧ b < n ∧ (a < p ∨ (a = p ∧ b < q))
  nd : f.Nodup
theorem Prz.step {n : Nat} {rr : List Nat} {p q : Nat} {f : Ps} (hp : Perm n rr) (h : Prz n rr p q f) (h1 : p < q) (h2 : q < n) : Prz n rr p (q + 1) (f ++ [[rr.getD p 0, rr.getD q 0]]) := by
  refine ⟨fun z hz => ?_, ?_⟩
  · rcases List.mem_append.mp hz with hz | hz
    · obtain ⟨a, b, e, h3, h4, h5⟩ := h.mem z hz
      exact ⟨a, b, e, h3, h4, by omega⟩
    · rw [List.mem_singleton] at hz
      exact ⟨p, q, hz, h1, h2, by omega⟩
  · rw [List.nodup_append]
    refine ⟨h.nd, by simp, fun x hx y hy e => ?_⟩
    rw [List.mem_singleton] at hy
    subst hy
    subst e
    obtain ⟨a, b, e, h3, h4, h5⟩ := h.mem _ hx
    injection e with e1 e2
    injection e2 with e2 _
    have i1 := hp.idx_getD (show p < n by omega)
    have i2 := hp.idx_getD h2
    rw [e1, hp.idx_getD (show a < n by omega)] at i1
    rw [e2, hp.idx_getD h4] at i2
    omega
theorem Prz.skip {n : Nat} {rr : List Nat} {p q : Nat} {f : Ps} (h : Prz n rr p q f) : Prz n rr p (q + 1) f := ⟨fun z hz => by
  obtain ⟨a, b, e, h3, h4, h5⟩ := h.mem z hz
  exact ⟨a, b, e, h3, h4, by omega⟩, h.nd⟩
theorem Prz.bs {n : Nat} {rr : List Nat} {p q : Nat} {f : Ps} (hp : Perm n rr) (h : Prz n rr p q f) : Bs n rr f := by
  refine ⟨fun z hz => ?_, hp, fun i j hij => ?_⟩
  · obtain ⟨a, b, e, h3, h4, h5⟩ := h.mem z hz
    exact ⟨_, _, e, hp.getD_lt (by omega), hp.getD_lt h4⟩
  · obtain ⟨a, b, e, h3, h4, h5⟩ := h.mem _ hij
    injection e with e1 e2
    injection e2 with e2 _
    rw [e1, e2, hp.idx_getD (show a < n by omega), hp.idx_getD h4]
    exact h3
section
variable {P : Program} {w : World} {K : PySem.W.Frag} {mg : Str → Option Value} {base : Heap} {ad : Ad}
def spPairs : Sp := fun vs H Q _ => ∃ t L ns n, vs = [.ref t, .int ((n : Nat) : Int)] ∧ Tape H t L ns ∧ 1 ≤ n ∧ n ≤ 5 ∧ ∀ H' b o bs, Tp t L ns H H' → Tt H' b bs → Bs n o bs → bs.Nodup → Q (.ref b) H'
theorem ok_l_pairs (T : Txt K mg) : Cal P w K mg base CX0 2 "_law_pairs" spPairs := by
  refine T.d_l_pairs.ok sc_l_pairs (fun vs H Q E h => ?_) (fun f cdv A outer s H vs Q E hr h => ?_)
  · obtain ⟨t, L, ns, n, rfl, _⟩ := h
    rfl
  obtain ⟨t, L, ns, n, rfl, tape0, hn1, hn, q⟩ := h
  refine ⟨_, (pss_cons (ps_set (i := 2) sc_l_pairs.nd rfl (Or.inl rfl) (pe_lst pa_nil))
  (pss_cons (ps_for PassesOwn.never rfl (pi_range1 (by rfl) T.n_range (pa_cons (pv 1) pa_nil)) (pg_name (i := 3) sc_l_pairs.nd rfl (Or.inl rfl))
  (pss_one (ps_expr (pe_bm PySem.F.plainAttrs_list PySem.F.slot_list_insert PySem.F.type_list_insert mt_insert (pv 2) (pa_cons (pe_fn (ok_l_pick T) hr (by decide) rfl (pa_cons (pv 0) (pa_cons (pe_op op_add (pv 3) pe_int) pa_nil))) (pa_cons (pv 3) pa_nil))))))
  (pss_cons (ps_set (i := 4) sc_l_pairs.nd rfl (Or.inl rfl) (pe_op op_add pe_int (pe_fn (ok_l_pick T) hr (by decide) rfl (pa_cons (pv 0) (pa_cons pe_int pa_nil)))))
  (pss_cons (ps_set (i := 5) sc_l_pairs.nd rfl (Or.inl rfl) (pe_lst pa_nil))
  (pss_cons (ps_for PassesOwn.never rfl (pi_range1 (by rfl) T.n_range (pa_cons (pv 1) pa_nil)) (pg_name (i := 6) sc_l_pairs.nd rfl (Or.inl rfl))
  (pss_one (ps_for PassesOwn.never rfl (pi_range2 (by rfl) T.n_range (pa_cons (pe_op op_add (pv 6) pe_int) (pa_cons (pv 1) pa_nil))) (pg_name (i := 7) sc_l_pairs.nd rfl (Or.inl rfl))
  (pss_one (ps_if (pt_cmpR op_eq (pe_fn (ok_l_pick T) hr (by decide) rfl (pa_cons (pv 0) (pa_cons (pv 4) pa_nil))) pe_int (nomark _)) (pss_one (ps_expr (pe_bm PySem.F.plainAttrs_list PySem.F.slot_list_append PySem.F.type_list_append mt_append (pv 5) (pa_cons (pe_tup (pa_cons (pe_ix (r := rIxL K) ix_list (pv 2) (pv 6) (fun _ _ => rfl)) (pa_cons (pe_ix (r := rIxL K) ix_list (pv 2) (pv 7) (fun _ _ => rfl)) pa_nil))) pa_nil)))) pss_nil)))))
  (pss_one (ps_ret (pe_callTy call_tuple_of (by rfl) T.n_tuple (by decide +kernel) (pa_cons (pe_callB (cr_sortT (d := 2) (B := 64) (by decide)) (by rfl) T.n_sorted (by decide +kernel) (pa_cons (pv 5) pa_nil)) pa_nil))))))))), ?_⟩
  obtain ⟨r1, r2⟩ := rng_ok (n := n) (by omega)
  refine ⟨(by decide), fun R hR => ?_⟩
  have T1 : Tp t L ns H (upd H R (.lst [])) := Tp.of tape0 (same_new hR)
  refine ⟨_, rfl, n, rfl, r1, r2, ?_⟩
  refine for_it walk_rng (fun i σ H' => (∃ o3 : Option V, σ = [some (.ref t), some (.int (n : Int)), some (.ref R), o3, none, none, none, none]) ∧ Tp t L ns H H' ∧ ∃ rr : List Nat, H' R = some (.lst (rr.map nm)) ∧ rr.Nodup ∧ rr.length = i ∧ ∀ x ∈ rr, x < i) ⟨⟨_, rfl⟩, T1, [], upd_same, List.nodup_nil, rfl, by simp⟩ (fun _ _ _ _ _ => trivial) ?_ ?_
  · rintro i y σ H20 H2 hi ⟨⟨o3, rfl⟩, T2, rr, hrr, nd, hlen, hlt⟩ ⟨rfl, rfl⟩
    refine ⟨_, rfl, .inl ⟨rfl, _, .inl (.inl hrr)⟩, ?_⟩
    refine ⟨_, rfl, _, rfl, _, 1, rfl, rfl, t, L, ns, i + 1, rfl, by omega, by omega, T2.t1, fun H3 d hd T3 => ⟨_, rfl, ?_⟩⟩
    have hRt : R ≠ t := fun e => by
      obtain ⟨i', r', m', c', h1, _⟩ := tape0
      rw [e, h1] at hR
      cases hR
    have hrr3 := T3.keep hrr hRt
    refine ⟨R, rr.map nm, (d : Int), nm i, rfl, rfl, hrr3, ?_, by omega, by omega, ?_⟩
    · rw [List.length_map]
      exact sz_lt (by omega)
    · refine ⟨⟨_, rfl⟩, (T2.trans T3).mut hR, rr.take d ++ [i] ++ rr.drop d, ?_, ?_, ?_, ?_⟩
      · rw [upd_same, List.map_append, List.map_append, List.map_take, List.map_drop]
        rfl
      · have hp : (rr.take d ++ [i] ++ rr.drop d).Perm (i :: rr) := by
          rw [List.append_assoc]
          refine (List.perm_append_comm_assoc _ _ _).trans ?_
          rw [List.take_append_drop]
          exact List.Perm.refl _
        rw [hp.nodup_iff]
        exact List.nodup_cons.mpr ⟨fun h => absurd (hlt i h) (Nat.lt_irrefl _), nd⟩
      · rw [List.length_append, List.length_append, List.length_take, List.length_drop]
        show min d rr.length + 1 + (rr.length - d) = i + 1
        omega
      · intro x hx
        rcases List.mem_append.mp hx with hx | hx
        · rcases List.mem_append.mp hx with hx | hx
          · have := hlt x (List.mem_of_mem_take hx)
            omega
          · rw [List.mem_singleton] at hx
            omega
        · have := hlt x (List.mem_of_mem_drop hx)
          omega
  rintro σ H2 ⟨⟨o3, rfl⟩, T2, rr, hrr, nd, hlen, hlt⟩
  have hperm : Perm n rr := ⟨nd, hlen, hlt⟩
  have hRt : R ≠ t := fun e => by
    obtain ⟨i', r', m', c', h1, _⟩ := tape0
    rw [e, h1] at hR
    cases hR
  refine ⟨_, rfl, t, L, ns, 4, rfl, by decide, by decide, T2.t1, fun H3 d hd T3 => ⟨2, _, rfl, rfl, ?_⟩⟩
  have hrr3 := T3.keep hrr hRt
  have T13 := T2.trans T3
  refine ⟨(by decide), fun F0 hF0 => ?_⟩
  have hF0n := T13.fresh hF0
  have T4 := T13.new (o := .lst []) hF0
  have hrr4 := same_new (o := .lst []) hF0 _ _ hrr3
  have hth : (2 : Int) + (d : Int) = ((2 + d : Nat) : Int) := by omega
  refine ⟨_, rfl, n, rfl, r1, r2, ?_⟩
  refine for_it walk_rng (fun p σ H' => (∃ o6 o7 o3 : Option V, σ = [some (.ref t), some (.int (n : Int)), some (.ref R), o3, some (.int (2 + (d : Int))), some (.ref F0), o6, o7]) ∧ Tp t L ns H H' ∧ H' R = some (.lst (rr.map nm)) ∧ ∃ f, Lt H' F0 f ∧ Prz n rr p 0 f) ⟨⟨_, _, _, rfl⟩, T4, hrr4, [], ⟨[], upd_same, .nil⟩, ⟨by simp, List.nodup_nil⟩⟩ (fun _ _ _ _ _ => trivial) ?_ ?_
  · rintro p y σ H50 H5 hp ⟨⟨o6, o7, o3', rfl⟩, T5, hrr5, f, hf5, pz5⟩ ⟨rfl, rfl⟩
    refine ⟨_, rfl, _, 1, rfl, rfl, _, rfl, _, (n : Int), rfl, ⟨by omega, by omega, r1, r2⟩, ?_⟩
    refine for_it (walk_rng2 (a := p + 1) (n := n) rfl) (fun k σ H' => (∃ o7 : Option V, σ = [some (.ref t), some (.int (n : Int)), some (.ref R), o3', some (.int (2 + (d : Int))), some (.ref F0), some (nm p), o7]) ∧ Tp t L ns H H' ∧ H' R = some (.lst (rr.map nm)) ∧ ∃ f, Lt H' F0 f ∧ Prz n rr p (p + 1 + k) f) ⟨⟨_, rfl⟩, T5, hrr5, f, hf5, ⟨fun z hz => by
      obtain ⟨a, b, e, h3, h4, h5⟩ := pz5.mem z hz
      exact ⟨a, b, e, h3, h4, by omega⟩, pz5.nd⟩⟩ (fun _ _ _ _ _ => trivial) ?_ ?_
    · rintro k y σ H60 H6 hk ⟨⟨o7, rfl⟩, T6, hrr6, f, ⟨xs6, hxs6, hp6⟩, pz⟩ ⟨rfl, rfl⟩
      refine ⟨_, rfl, _, rfl, t, L, ns, 2 + d, by rw [hth]; rfl, by omega, by omega, T6.t1, fun H7 d7 hd7 T7 => ⟨rfl, _, rfl, ?_⟩⟩
      have hFt : F0 ≠ t := fun e => by
        obtain ⟨i', r', m', c', h1, _⟩ := tape0
        rw [e, h1] at hF0n
        cases hF0n
      have hrr7 := T7.keep hrr6 hRt
      have hxs7 := T7.keep hxs6 hFt
      have hp7 := tns_tk hp6 T7.tk
      have T67 := T6.trans T7
      refine ite2 (fun c => ?_) (fun c => ⟨⟨_, rfl⟩, T67, hrr7, f, ⟨xs6, hxs7, hp7⟩, pz.skip⟩)
      have hq : p + 1 + k < n := by omega
      have e1 : atI (rr.map nm) ((p : Nat) : Int) = some (nm (rr.getD p 0)) := atI_nat (by rw [List.getElem?_map, List.getElem?_eq_getElem (by omega), ← EvM.getD_at (by omega) 0]; rfl)
      have e2 : atI (rr.map nm) ((p + 1 + k : Nat) : Int) = some (nm (rr.getD (p + 1 + k) 0)) := atI_nat (by rw [List.getElem?_map, List.getElem?_eq_getElem (by omega), ← EvM.getD_at (by omega) 0]; rfl)
      refine ⟨_, rfl, .inl ⟨rfl, _, .inl (.inl hxs7)⟩, ?_⟩
      refine ⟨_, rfl, _, rfl, R, _, _, _, rfl, rfl, .inl (.inl hrr7), e1, _, rfl, _, rfl, R, _, _, _, rfl, rfl, .inl (.inl hrr7), e2, (by show 2 ≤ sizeLine; decide), fun c3 hc3 => ?_⟩
      have T8 := T67.new (o := .tup [nm (rr.getD p 0), nm (rr.getD (p + 1 + k) 0)]) hc3
      have s8 : Same H7 (upd H7 c3 (.tup [nm (rr.getD p 0), nm (rr.getD (p + 1 + k) 0)])) := same_new hc3
      have few := (pz.bs hperm).few hn pz.nd
      have hl6 := Paired.length hp6
      refine ⟨F0, xs6, _, rfl, rfl, s8 _ _ hxs7, sz_lt (by omega), ⟨_, rfl⟩, T8.mut hF0n, ?_, f ++ [[rr.getD p 0, rr.getD (p + 1 + k) 0]], ⟨_, upd_same, ?_⟩, ?_⟩
      · have hRF : R ≠ F0 := fun e => by
          rw [← e] at hF0
          rw [hrr3] at hF0
          cases hF0
        rw [upd_ne hRF]
        exact s8 _ _ hrr7
      · have t9 : TK (upd H7 c3 (.tup [nm (rr.getD p 0), nm (rr.getD (p + 1 + k) 0)])) (upd (upd H7 c3 (.tup [nm (rr.getD p 0), nm (rr.getD (p + 1 + k) 0)])) F0 (.lst (xs6 ++ [V.ref c3]))) := tk_lst (s8 _ _ hxs7)
        exact tns_tk (Pd.snoc (tns_tk hp7 (tk_of s8)) (tn_new (r := [rr.getD p 0, rr.getD (p + 1 + k) 0]))) t9
      · exact Prz.step (q := p + 1 + k) hperm pz (by omega) hq
    · rintro σ H6 ⟨⟨o7, rfl⟩, T6, hrr6, f, hf6, pz⟩
      refine ⟨⟨_, _, _, rfl⟩, T6, hrr6, f, hf6, ⟨fun z hz => ?_, pz.nd⟩⟩
      obtain ⟨a, b, e, h3, h4, h5⟩ := pz.mem z hz
      exact ⟨a, b, e, h3, h4, by omega⟩
  · rintro σ H5 ⟨⟨o6, o7, o3', rfl⟩, T5, hrr5, f, ⟨xs5, hxs5, hp5⟩, pz⟩
    have bs := pz.bs hperm
    have few := bs.few hn pz.nd
    refine ⟨_, rfl, ?_⟩
    dsimp only [tNil]
    refine sortU_pairs (.inl (.inl hxs5)) hp5 (n := n) (by omega) bs.pr pz.nd (by omega) fun ys ks' p hf h1 h2 h3 => ?_
    have sp : Same H5 (upd H5 p (.lst ys)) := same_new hf
    refine ⟨p, ys, rfl, .inl ⟨.inl (.inl upd_same), fun b hb => ?_⟩⟩
    refine q _ b rr ks' (T5.same (sp.trans (same_new hb))) (tt_new hb (tns_tk h1 (tk_of sp))) ⟨fun z hz => bs.pr z (h2.mem_iff.mp hz), bs.po, fun i j hij => bs.bef i j (h2.mem_iff.mp hij)⟩ (h2.nodup_iff.mpr pz.nd)
end
end Ev

set_option maxRecDepth 100000
set_option maxHeartbeats 4000000
namespace Ev
open PySem PySem.Spec PyProof.Rows L2 EvM
def its (r : List Nat) : List Int := r.map fun x : Nat => (x : Int)
theorem its_inj {r q : List Nat} (h : its r = its q) : r = q := List.map_inj_right (fun _ _ e => by omega) |>.mp h
theorem tns_ks {K : PySem.W.Frag} {H : Hp} : ∀ {xs : List V} {ps : List (List Nat)}, Paired (Tn H) xs ps → ∃ ks : List (Addr × List Nat), xs = ks.map (fun p => V.ref p.1) ∧ ks.map (·.2) = ps ∧ ∀ p ∈ ks, H p.1 = some (.tup (p.2.map nm))
  | _, _, .nil => ⟨[], rfl, rfl, by simp⟩
  | _, _, .cons h t => by
    obtain ⟨ks, e1, e2, e3⟩ := tns_ks (K := K) t
    obtain ⟨a, rfl, ha⟩ := h
    exact ⟨(a, _) :: ks, by rw [List.map_cons, ← e1], by rw [List.map_cons, e2], fun p hp => (List.mem_cons.mp hp).elim (fun e => e ▸ ha) (e3 p)⟩
def ik (p : Addr × List Nat) : Addr × List Int := (p.1, its p.2)
/-- sorted(set(..)) of pairs -/
theorem set_sorted {K : PySem.W.Frag} {P : Program} {w : World} {H : Hp} {xs : List V} {ps : Ps} {n : Nat} (hp : Paired (Tn H) xs ps) (hpr : Pr n ps) (hn : n ≤ 64) :
    ∃ ks : List (Addr × List Int), xs = ks.map (fun p => V.ref p.1) ∧ (∀ p ∈ ks, SqT K H p.1 (p.2.map V.int)) ∧ ks.length = ps.length ∧ ∀ a L, H a = none → (∀ p ∈ L, p ∈ ks) → (∀ p ∈ ks, p.2 ∈ L.map (·.2)) →
      ∀ Q : VK, (∀ H' p, Same H H' → Lt H' p (upOf n ps) → Q (.ref p) H') → rSortedT K P w [.ref a] (upd H a (SetTO P w a L)) Q := by
  obtain ⟨ks, e1, e2, e3⟩ := tns_ks (K := K) hp
  have hks : ∀ p ∈ ks, p.2 ∈ ps := fun p hp => by rw [← e2]; exact List.mem_map_of_mem hp
  refine ⟨ks.map ik, by rw [e1, List.map_map]; rfl, fun p hp => ?_, by rw [List.length_map, ← e2, List.length_map], fun a L ha h1 h2 Q q => ?_⟩
  · obtain ⟨k, hk, rfl⟩ := List.mem_map.mp hp
    exact tn_ints (e3 k hk)
  · have s1 : Same H (upd H a (SetTO P w a L)) := same_new ha
    have back : ∀ p ∈ L, ∃ k ∈ ks, p = ik k := fun p hp => by
      obtain ⟨k, hk, e⟩ := List.mem_map.mp (h1 p hp)
      exact ⟨k, hk, e.symm⟩
    refine ⟨a, L, 2, 64, rfl, upd_same, fun p hp => ?_, by decide, fun p hp => ?_, fun L' p hperm nd hlen pw hf => ?_⟩
    · obtain ⟨k, hk, rfl⟩ := back p hp
      exact tn_ints (s1 _ _ (e3 k hk))
    · obtain ⟨k, hk, rfl⟩ := back p hp
      obtain ⟨h3, h4⟩ := pr_len hpr _ (hks k hk)
      refine ⟨?_, bd_of hn h4⟩
      show (its k.2).length = 2
      unfold its
      rw [List.length_map, h3]
    · -- the rows of L'
      have lift : ∀ M : List (Addr × List Int), (∀ p ∈ M, ∃ k ∈ ks, p = ik k) → ∃ ms : List (Addr × List Nat), M = ms.map ik ∧ ∀ k ∈ ms, k ∈ ks := by
        intro M
        induction M with
        | nil => exact fun _ => ⟨[], rfl, by simp⟩
        | cons p M ih =>
          intro h
          obtain ⟨ms, e, hm⟩ := ih fun z hz => h z (List.mem_cons_of_mem _ hz)
          obtain ⟨k, hk, rfl⟩ := h p (by simp)
          exact ⟨k :: ms, by rw [List.map_cons, e], fun z hz => (List.mem_cons.mp hz).elim (fun e => e ▸ hk) (hm z)⟩
      obtain ⟨ms, rfl, hms⟩ := lift L' fun z hz => back z (hperm.mem_iff.mp hz)
      have s2 : Same H (upd (upd H a (SetTO P w a L)) p (.lst ((ms.map ik).map fun q => V.ref q.1))) := s1.trans (same_new hf)
      have pd : ∀ (M : List (Addr × List Nat)), (∀ k ∈ M, k ∈ ks) → Paired (Tn (upd (upd H a (SetTO P w a L)) p (.lst ((ms.map ik).map fun q => V.ref q.1)))) ((M.map ik).map fun q => V.ref q.1) (M.map (·.2)) := by
        intro M
        induction M with
        | nil => exact fun _ => .nil
        | cons k M ih => exact fun h => .cons ⟨k.1, rfl, s2 _ _ (e3 k (h k (by simp)))⟩ (ih fun z hz => h z (List.mem_cons_of_mem _ hz))
      have hpr2 : Pr n (ms.map (·.2)) := fun z hz => by
        obtain ⟨k, hk, rfl⟩ := List.mem_map.mp hz
        exact hpr _ (hks k (hms k hk))
      have nd2 : (ms.map (·.2)).Nodup := by
        rw [List.map_map] at nd
        exact List.pairwise_map.mpr ((List.pairwise_map.mp nd).imp fun {x y} hxy e => hxy (by show its x.2 = its y.2; rw [e]))
      have up2 : Up (ms.map (·.2)) := by
        refine pairs_up hn hpr2 nd2 ?_
        exact List.pairwise_map.mpr ((List.pairwise_map.mp pw).imp fun {x y} h => h)
      have mem2 : ∀ z, z ∈ ms.map (·.2) ↔ z ∈ upOf n ps := fun z => by
        rw [mem_upOf hpr]
        constructor
        · intro hz
          obtain ⟨k, hk, rfl⟩ := List.mem_map.mp hz
          exact hks k (hms k hk)
        · intro hz
          rw [← e2] at hz
          obtain ⟨k, hk, rfl⟩ := List.mem_map.mp hz
          obtain ⟨u, hu, e⟩ := List.mem_map.mp (h2 (ik k) (List.mem_map_of_mem hk))
          obtain ⟨m, hm, rfl⟩ := List.mem_map.mp (hperm.mem_iff.mpr hu)
          exact List.mem_map.mpr ⟨m, hm, its_inj e⟩
      have eq := up_eq up2 (upOf_up hn ps) mem2
      refine q _ p s2 ⟨_, upd_same, ?_⟩
      rw [← eq]
      exact pd ms hms
def itR (n : Nat) (b : Ps) : Nat → Ps
  | 0 => upOf n b
  | k + 1 => step n (itR n b k)
theorem itR_bs {n : Nat} {o : List Nat} {b : Ps} (h : Bs n o b) : ∀ k, Bs n o (itR n b k)
  | 0 => h.upOf
  | k + 1 => (itR_bs h k).step
theorem itR_up {n : Nat} (hn : n ≤ 64) (b : Ps) : ∀ k, Up (itR n b k)
  | 0 => upOf_up hn b
  | k + 1 => upOf_up hn _
theorem two {n : Nat} {ps : Ps} (h : Pr n ps) {p : List Nat} (hp : p ∈ ps) : p = [fst2 p, snd2 p] := by
  obtain ⟨i, j, rfl, _⟩ := h p hp
  rfl
section
variable {P : Program} {w : World} {K : PySem.W.Frag} {mg : Str → Option Value} {base : Heap} {ad : Ad}
def spLClosed : Sp := fun vs H Q _ => ∃ b n o bs, vs = [.ref b] ∧ Tt H b bs ∧ Bs n o bs ∧ bs.Nodup ∧ n ≤ 5 ∧ ∀ H' c, Same H H' → Tt H' c (closeR n bs) → Q (.ref c) H'
theorem ok_l_closed (T : Txt K mg) : Cal P w K mg base CX0 1 "_law_closed" spLClosed := by
  refine T.d_l_closed.ok sc_l_closed (fun vs H Q E h => ?_) (fun f cdv A outer s H vs Q E hr h => ?_)
  · obtain ⟨b, n, o, bs, rfl, _⟩ := h
    rfl
  obtain ⟨b, n, o, bs, rfl, ⟨xs, hb, hp⟩, hbs, nd, hn, q⟩ := h
  refine ⟨_, (pss_cons (ps_set (i := 1) sc_l_closed.nd rfl (Or.inl rfl) (pe_callB (cr_sortedT rfl) (by rfl) T.n_sorted (by decide +kernel) (pa_cons (pe_callTy (cr_setOfTT rfl hr.units) (by rfl) T.n_set (by decide +kernel) (pa_cons (pv 0) pa_nil)) pa_nil)))
  (pss_cons (ps_for PassesOwn.never rfl (pi_range1 (by rfl) T.n_range (pa_cons pe_int pa_nil)) (pg_name (i := 2) sc_l_closed.nd rfl (Or.inl rfl))
  (pss_cons (ps_set (i := 3) sc_l_closed.nd rfl (Or.inl rfl) (pe_lst pa_nil))
  (pss_cons (ps_for PassesOwn.never rfl (pi_list (pv 1)) (pg_tup2 (K := K) (n := 2) rfl (pgs_cons (pg_name (i := 4) sc_l_closed.nd rfl (Or.inr rfl)) (pgs_cons (pg_name (i := 5) sc_l_closed.nd rfl (Or.inr rfl)) pgs_nil)))
  (pss_one (ps_set (i := 3) sc_l_closed.nd rfl (Or.inl rfl) (pe_op op_cat (pv 3) (pe_lc (own := [("_law_first", 7), ("_law_other", 8)]) rfl sc_l_closed.nd (pi_list (pv 1)) (blkOk_by (N := ["_law_pairs_here", "_law_found", "_law_turn", "_law_more", "_law_one", "_law_middle", "_law_pair", "_law_first", "_law_other"]) (sc := defScope s_l_closed) (own := [("_law_first", 7), ("_law_other", 8)]) (by decide +kernel)) (fun _ _ _ _ _ => (pg_tup2 (K := K) (n := 2) rfl (pgs_cons (pg_name (i := 7) sc_l_closed.nd rfl (Or.inl rfl)) (pgs_cons (pg_name (i := 8) sc_l_closed.nd rfl (Or.inl rfl)) pgs_nil)))) (fun _ _ _ _ _ => (pts_one (pt_cmpR op_eq (pv 7) (pv 5) (nomark _)))) (fun _ _ _ _ _ => (pe_tup (pa_cons (pv 4) (pa_cons (pv 8) pa_nil)))))))))
  (pss_one (ps_set (i := 1) sc_l_closed.nd rfl (Or.inl rfl) (pe_callB (cr_sortedT rfl) (by rfl) T.n_sorted (by decide +kernel) (pa_cons (pe_callTy (cr_setOfT rfl hr.units) (by rfl) T.n_set (by decide +kernel) (pa_cons (pe_op op_cat (pv 1) (pv 3)) pa_nil)) pa_nil)))))))
  (pss_cons (ps_if (pt_cmpR op_gt (pe_callB call_len_seq (by rfl) T.n_len (by decide +kernel) (pa_cons (pe_lc (own := [("_law_pair", 6)]) rfl sc_l_closed.nd (pi_list (pv 1)) (blkOk_by (N := ["_law_pairs_here", "_law_found", "_law_turn", "_law_more", "_law_one", "_law_middle", "_law_pair", "_law_first", "_law_other"]) (sc := defScope s_l_closed) (own := [("_law_pair", 6)]) (by decide +kernel)) (fun _ _ _ _ _ => (pg_name (i := 6) sc_l_closed.nd rfl (Or.inl rfl))) (fun _ _ _ _ _ => (pts_one (pt_cmpR op_eq (pe_ix (r := rIxT K) ix_tup (pv 6) pe_int (fun _ _ => rfl)) (pe_ix (r := rIxT K) ix_tup (pv 6) pe_int (fun _ _ => rfl)) (nomark _)))) (fun _ _ _ _ _ => (pv 6))) pa_nil)) pe_int (nomark _)) (pss_one (ps_ret pe_non)) pss_nil)
  (pss_one (ps_ret (pe_callTy call_tuple_of (by rfl) T.n_tuple (by decide +kernel) (pa_cons (pv 1) pa_nil))))))), ?_⟩
  obtain ⟨ks, ek, hk, hkl, fin0⟩ := set_sorted (K := K) (P := P) (w := w) hp hbs.pr (by omega)
  have few0 := hbs.few hn nd
  refine ⟨_, rfl, b, ks, rfl, .inl (.inl (by rw [hb, ek])), hk, by omega, fun a0 L0 ha0 m1 m2 => ?_⟩
  dsimp only [tNil]
  refine fin0 a0 L0 ha0 m1 m2 _ fun H1 F0 s1 hF0 => ?_
  refine ⟨4, rfl, by decide, by decide, ?_⟩
  refine for_it (walk_rng (n := 4)) (fun k σ H' => (∃ (F : Addr) (o2 o3 o4 o5 : Option V), σ = [some (.ref b), some (.ref F), o2, o3, o4, o5, none, none, none] ∧ Lt H' F (itR n bs k)) ∧ Same H H') ⟨⟨F0, _, _, _, _, rfl, hF0⟩, s1⟩ (fun _ _ _ _ _ => trivial) ?_ ?_
  · rintro k y σ H20 H2 hk4 ⟨⟨F, o2, o3, o4, o5, rfl, ⟨fs, hfs, hpf⟩⟩, s2⟩ ⟨rfl, rfl⟩
    have B := itR_bs hbs k
    have U := itR_up (n := n) (by omega) bs k
    have ndk := up_nodup U
    have fewk := B.few hn ndk
    have small := B.small hn ndk
    have step9 : itR n bs (k + 1) = step n (itR n bs k) := rfl
    generalize itR n bs k = ps at hpf B U ndk fewk small step9
    have hfl : fs.length = ps.length := Paired.length hpf
    refine ⟨(by decide), fun M0 hM0 => ?_⟩
    have sM := same_new (o := .lst []) hM0
    refine ⟨_, rfl, F, rfl, ⟨fs, .inl (.inl (sM _ _ hfs))⟩, ?_⟩
    refine for_it (walk_listN hfl) (fun i σ H' => (∃ (M : Addr) (o4 o5 : Option V), σ = [some (.ref b), some (.ref F), some (nm k), some (.ref M), o4, o5, none, none, none] ∧ Lt H' M ((ps.take i).flatMap fun p => (ps.filter fun q => fst2 q == snd2 p).map fun q => [fst2 p, snd2 q])) ∧ Same H2 H') ⟨⟨M0, _, _, rfl, lt_nil upd_same⟩, sM⟩ (fun i σ H' _ h => .inl (.inl (h.2 _ _ hfs))) ?_ ?_
    · rintro i y σ H30 H3 hi ⟨⟨M, o4, o5, rfl, ⟨ms, hms, hpm⟩⟩, s3⟩ ⟨rfl, hy⟩
      obtain ⟨p, hpp, htn⟩ := Pd.get hpf hy
      obtain ⟨i1, j1, rfl, b1, c1⟩ := B.pr p (List.mem_of_getElem? hpp)
      obtain ⟨tp, rfl, htp⟩ := htn.tk (tk_of s3)
      refine ⟨tp, [nm i1, nm j1], rfl, .inl (.inl htp), rfl, _, _, rfl, _, _, rfl, rfl, ?_⟩
      refine ⟨_, rfl, _, rfl, F, rfl, ⟨fs, .inl (.inl (s3 _ _ hfs))⟩, fun D hD => ?_⟩
      refine lc_gen ps (fun q => fst2 q == j1) (fun q => [i1, snd2 q]) Tn (fun _ _ _ _ t h => h.tk t) (walk_listN hfl) (by omega) hD (fun H' s' => .inl (.inl (s' _ _ (s3 _ _ hfs)))) ?_ ?_
      · rintro j z x5 H50 H5 hj s5 ⟨rfl, hx5⟩ Kc Kn kc kn
        obtain ⟨z', hz', htz⟩ := Pd.get hpf hx5
        rw [hj] at hz'
        cases hz'
        obtain ⟨i2, j2, rfl, b2, c2⟩ := B.pr z (List.mem_of_getElem? hj)
        obtain ⟨tz, rfl, hz9⟩ := htz.tk (tk_of (s3.trans s5))
        refine ⟨tz, [nm i2, nm j2], rfl, .inl (.inl hz9), rfl, _, _, rfl, _, _, rfl, rfl, rfl, ?_⟩
        refine ⟨_, rfl, _, rfl, rfl, _, rfl, ?_⟩
        refine ite2 (fun c => ?_) (fun c => kn ?_ _ fun _ _ z => z)
        · have e := nm_inj (of_decide_eq_true c)
          subst e
          refine ⟨_, rfl, _, rfl, (by show 2 ≤ sizeLine; decide), fun p3 hp3 => kc (beq_self_eq_true _) _ _ (same_new hp3) (tn_new (r := [i1, j2]))⟩
        · exact beq_eq_false_iff_ne.mpr fun z => c (decide_eq_true (by show nm i2 = nm j1; rw [show i2 = j1 from z]))
      · intro H6 zs s6 hzs hpz
        have hms6 := s6 _ _ hms
        have hl1 := Paired.length hpm
        have hl2 := Paired.length hpz
        rw [List.length_map] at hl2
        have hl3 := List.length_filter_le (fun q => fst2 q == j1) ps
        have hl4 := flat_len (fun p => (ps.filter fun q => fst2 q == snd2 p).map fun q => [fst2 p, snd2 q]) 10 (ps.take i) fun p _ => by
          rw [List.length_map]
          have := List.length_filter_le (fun q => fst2 q == snd2 p) ps
          omega
        have hl5 : (ps.take i).length ≤ 10 := by rw [List.length_take]; omega
        have hl6 : (ps.take i).length * 10 ≤ 10 * 10 := Nat.mul_le_mul_right 10 hl5
        refine ⟨M, D, ms, zs, rfl, rfl, hms6, hzs, sz_le (by omega), fun c hc => ⟨⟨c, _, _, rfl, ?_⟩, (s3.trans s6).trans (same_new hc)⟩⟩
        rw [take_flat _ hpp]
        exact lt_new hc (Pd.app (tns_tk hpm (tk_of s6)) hpz)
    · rintro σ H3 ⟨⟨M, o4, o5, rfl, ⟨ms, hms, hpm⟩⟩, s3⟩
      rw [List.take_length] at hpm
      have hfs3 := s3 _ _ hfs
      have hpf3 := tns_tk hpf (tk_of s3)
      have happ := Pd.app hpf3 hpm
      have hlen := Paired.length happ
      have hl3 : (fs ++ ms).length = fs.length + ms.length := List.length_append
      have hpc : Pr n (ps ++ comp ps) := B.app.pr
      refine ⟨_, rfl, _, rfl, F, M, fs, ms, rfl, rfl, hfs3, hms, sz_le (by rw [← hl3, hlen]; show (ps ++ comp ps).length ≤ _; omega), fun c hc => ?_⟩
      have sc := same_new (o := .lst (fs ++ ms)) hc
      obtain ⟨ks, ek, hk, hkl, fin⟩ := set_sorted (K := K) (P := P) (w := w) (tns_tk happ (tk_of sc)) hpc (by omega)
      refine ⟨c, ks, rfl, .inl (.inl (by rw [upd_same, ek])), hk, by rw [hkl]; exact small, fun a1 L1 ha1 n1 n2 => ?_⟩
      dsimp only [tNil]
      refine fin a1 L1 ha1 n1 n2 _ fun H5 F5 s5 hF5 => ?_
      exact ⟨⟨F5, _, _, _, _, rfl, step9 ▸ hF5⟩, s2.trans (s3.trans (sc.trans s5))⟩
  · rintro σ H2 ⟨⟨F, o2, o3, o4, o5, rfl, ⟨fs, hfs, hpf⟩⟩, s2⟩
    have B := itR_bs hbs 4
    have U := itR_up (n := n) (by omega) bs 4
    have fewk := B.few hn (up_nodup U)
    have hfl : fs.length = (itR n bs 4).length := Paired.length hpf
    refine ⟨_, rfl, F, rfl, ⟨fs, .inl (.inl hfs)⟩, fun D hD => ?_⟩
    refine lc_gen (itR n bs 4) (fun _ => false) (fun _ => ()) (fun _ _ _ => True) (fun _ _ _ _ _ h => h) (walk_listN hfl) (by omega) hD (fun H' s' => .inl (.inl (s' _ _ hfs))) ?_ ?_
    · rintro j z x5 H50 H5 hj s5 ⟨rfl, hx5⟩ Kc Kn kc kn
      obtain ⟨z', hz', htz⟩ := Pd.get hpf hx5
      rw [hj] at hz'
      cases hz'
      have hzm := List.mem_of_getElem? hj
      obtain ⟨i2, j2, rfl, b2, c2⟩ := B.pr z hzm
      obtain ⟨tz, rfl, hz9⟩ := htz.tk (tk_of s5)
      refine ⟨rfl, ?_⟩
      refine ⟨_, rfl, tz, _, 0, _, rfl, rfl, .inl (.inl hz9), at0, _, rfl, tz, _, 1, _, rfl, rfl, .inl (.inl hz9), atI_nat (j := 1) rfl, rfl, _, rfl, ?_⟩
      have hne : i2 ≠ j2 := fun e => by
        have := B.bef _ _ hzm
        rw [e] at this
        omega
      rw [decide_eq_false (fun e => hne (nm_inj e))]
      exact iteF (kn rfl _ fun _ _ z => z)
    · intro H6 zs s6 hzs hpz
      have hl2 := Paired.length hpz
      rw [List.length_map, List.filter_eq_nil_iff.mpr (by simp)] at hl2
      refine ⟨D, zs, rfl, .inl (.inl (.inl hzs)), _, 0, rfl, rfl, _, rfl, ?_⟩
      rw [decide_eq_false (by rw [hl2]; simp)]
      refine iteF ?_
      refine ⟨_, rfl, F, fs, rfl, .inl ⟨.inl (.inl (s6 _ _ hfs)), fun c hc => q _ c (s2.trans (s6.trans (same_new hc))) (tt_new hc (tns_tk hpf (tk_of s6)))⟩⟩
end
end Ev

set_option maxRecDepth 100000
set_option maxHeartbeats 4000000
namespace Ev
open PySem PySem.Spec PyProof.Rows L2 EvM
/-! ### known rows -/
def LTf (H : Hp) (a : Addr) (rs : List (List Nat)) : Prop := ∃ xs, (H a = some (.lst xs) ∨ H a = some (.tup xs)) ∧ Paired (Tf H) xs rs
theorem LTf.same {H H' : Hp} {a : Addr} {rs : List (List Nat)} (h : LTf H a rs) (s : Same H H') : LTf H' a rs := by
  obtain ⟨xs, e, p⟩ := h
  exact ⟨xs, e.imp (s _ _) (s _ _), tfs_same p s⟩
theorem LTf.r {H : Hp} {a : Addr} {rs : List (List Nat)} (h : LTf H a rs) : LTt H a rs := by
  obtain ⟨xs, e, p⟩ := h
  exact ⟨xs, e.imp id .inl, tfs_r p⟩
theorem rd_ints {K : PySem.W.Frag} {H : Hp} {a : Addr} {r : List Nat} (ha : Rd H a (.tup (r.map nm))) : SqT K H a ((its r).map V.int) := by
  unfold its
  rw [List.map_map]
  exact .inl ha
theorem rtidx {K : PySem.W.Frag} {H : Hp} {a : Addr} {n i : Nat} {r : List Nat} {Q : VK} (ha : Rd H a (.tup (r.map nm))) (hp : Perm n r) (hi : i < n) (q : Q (.int ((r.idxOf i : Nat) : Int)) H) : rTIdx K (.ref a) [nm i] H Q := by
  have hm := hp.mem hi
  have hl := List.idxOf_lt_length_iff.mpr hm
  refine ⟨a, its r, (i : Int), r.idxOf i, rfl, rfl, rd_ints ha, ?_, fun m hm e => ?_, q⟩
  · unfold its
    rw [List.getElem?_map, List.getElem?_eq_getElem hl, List.getElem_idxOf hl]
    rfl
  · unfold its at e
    have hml : m < r.length := by omega
    rw [List.getElem?_map, List.getElem?_eq_getElem hml] at e
    have e : ((r[m] : Nat) : Int) = (i : Int) := Option.some.inj e
    have e2 : r[m] = i := by omega
    have := List.Nodup.idxOf_getElem hp.nd m hml
    rw [e2] at this
    omega
def cIJ (rows : List (List Nat)) (i j : Nat) : Bool := i != j && rows.all fun r => !decide (r.idxOf j < r.idxOf i)
def cRow (n : Nat) (rows : List (List Nat)) (i : Nat) (k : Nat) : Ps := ((List.range k).filter (cIJ rows i)).map fun j => [i, j]
def cPre (n : Nat) (rows : List (List Nat)) (i : Nat) : Ps := (List.range i).flatMap fun i => cRow n rows i n
theorem cPre_all (n : Nat) (rows : List (List Nat)) : cPre n rows n = common n rows := rfl
theorem cPre_succ (n : Nat) (rows : List (List Nat)) (i : Nat) : cPre n rows (i + 1) = cPre n rows i ++ cRow n rows i n := by
  unfold cPre
  rw [range_snoc, List.flatMap_append]
  simp
theorem cRow_succ (n : Nat) (rows : List (List Nat)) (i k : Nat) : cRow n rows i (k + 1) = cRow n rows i k ++ (if cIJ rows i k then [[i, k]] else []) := by
  unfold cRow
  rw [range_snoc, List.filter_append, List.map_append]
  congr 1
  rw [List.filter_cons, List.filter_nil]
  split <;> rfl
theorem cRow_len (n : Nat) (rows : List (List Nat)) (i k : Nat) : (cRow n rows i k).length ≤ k := by
  unfold cRow
  rw [List.length_map]
  have := List.length_filter_le (cIJ rows i) (List.range k)
  rwa [List.length_range] at this
theorem cPre_len (n : Nat) (rows : List (List Nat)) (i : Nat) : (cPre n rows i).length ≤ i * n := by
  have := flat_len (fun i => cRow n rows i n) n (List.range i) fun a _ => cRow_len n rows a n
  rwa [List.length_range] at this
section
variable {P : Program} {w : World} {K : PySem.W.Frag} {mg : Str → Option Value} {base : Heap} {ad : Ad}
def spLCommon : Sp := fun vs H Q _ => ∃ a rows n, vs = [.ref a] ∧ LTf H a rows ∧ (∀ r ∈ rows, Perm n r) ∧ rows ≠ [] ∧ n ≤ 5 ∧ rows.length < 4000 ∧ ∀ H' c, Same H H' → Tt H' c (common n rows) → Q (.ref c) H'
theorem ok_l_common (T : Txt K mg) : Cal P w K mg base CX0 1 "_law_common" spLCommon := by
  refine T.d_l_common.ok sc_l_common (fun vs H Q E h => ?_) (fun f cdv A outer s H vs Q E hr h => ?_)
  · obtain ⟨a, rows, n, rfl, _⟩ := h
    rfl
  obtain ⟨a, rows, n, rfl, ⟨xs, ha, hp⟩, hperm, hne, hn, hz, q⟩ := h
  refine ⟨_, (pss_cons (ps_set (i := 1) sc_l_common.nd rfl (Or.inl rfl) (pe_callB call_len_seq (by rfl) T.n_len (by decide +kernel) (pa_cons (pe_ix (r := rIx K) ix_seq (pv 0) pe_int (fun _ _ => rfl)) pa_nil)))
  (pss_cons (ps_set (i := 2) sc_l_common.nd rfl (Or.inl rfl) (pe_lst pa_nil))
  (pss_cons (ps_for PassesOwn.never rfl (pi_range1 (by rfl) T.n_range (pa_cons (pv 1) pa_nil)) (pg_name (i := 3) sc_l_common.nd rfl (Or.inr rfl))
  (pss_one (ps_for PassesOwn.never rfl (pi_range1 (by rfl) T.n_range (pa_cons (pv 1) pa_nil)) (pg_name (i := 4) sc_l_common.nd rfl (Or.inr rfl))
  (pss_one (ps_if (PW.pt (pw_and (pt_cmpR op_ne (pv 3) (pv 4) (nomark _)) (pw_and1 (pt_cmpR op_eq (pe_callB call_len_seq (by rfl) T.n_len (by decide +kernel) (pa_cons (pe_lc (own := [("_law_row", 5)]) rfl sc_l_common.nd (pi_seq (pv 0)) (blkOk_by (N := ["_law_rows", "_law_many", "_law_found", "_law_one", "_law_other", "_law_row"]) (sc := defScope s_l_common) (own := [("_law_row", 5)]) (by decide +kernel)) (fun _ _ _ _ _ => (pg_name (i := 5) sc_l_common.nd rfl (Or.inl rfl))) (fun _ _ _ _ _ => (pts_one (pt_cmpR op_gt (pe_bmT (r := rTIdx K) PySem.F.plainAttrs_tuple PySem.F.slot_tuple_index PySem.F.type_tuple_index tidx (pv 5) (pa_cons (pv 3) pa_nil)) (pe_bmT (r := rTIdx K) PySem.F.plainAttrs_tuple PySem.F.slot_tuple_index PySem.F.type_tuple_index tidx (pv 5) (pa_cons (pv 4) pa_nil)) (nomark _)))) (fun _ _ _ _ _ => (pv 5))) pa_nil)) pe_int (nomark _))))) (pss_one (ps_expr (pe_bm PySem.F.plainAttrs_list PySem.F.slot_list_append PySem.F.type_list_append mt_append (pv 2) (pa_cons (pe_tup (pa_cons (pv 3) (pa_cons (pv 4) pa_nil))) pa_nil)))) pss_nil)))))
  (pss_one (ps_ret (pe_callTy call_tuple_of (by rfl) T.n_tuple (by decide +kernel) (pa_cons (pv 2) pa_nil))))))), ?_⟩
  have hxl : xs.length = rows.length := Paired.length hp
  obtain ⟨r1, r2⟩ := rng_ok (n := n) (by omega)
  cases rows with
  | nil => exact absurd rfl hne
  | cons r0 rest =>
    cases xs with
    | nil => cases hxl
    | cons x0 xs =>
      cases id hp with
      | cons hx0 hp0 =>
        obtain ⟨a0, o0, rfl, ha0, _⟩ := hx0
        refine ⟨_, rfl, ix0 (ha.imp id .inl) ⟨a0, _, rfl, .inr (.inl (.inr ⟨o0, ha0⟩)), ?_⟩⟩
        rw [List.length_map, (hperm r0 (by simp)).len]
        clear hp0
        generalize er : r0 :: rest = rows at hp hperm hne hz q hxl
        generalize V.ref a0 :: xs = xs at hp ha hxl
        refine ⟨(by decide), fun F hF => ?_⟩
        refine ⟨_, rfl, n, rfl, r1, r2, ?_⟩
        refine for_it walk_rng (fun i σ H' => (∃ o3 o4 : Option V, σ = [some (.ref a), some (.int (n : Int)), some (.ref F), o3, o4, none]) ∧ Lt H' F (cPre n rows i) ∧ Same H H') ⟨⟨_, _, rfl⟩, lt_nil upd_same, same_new hF⟩ (fun _ _ _ _ _ => trivial) ?_ ?_
        · rintro i y σ H20 H2 hi ⟨⟨o3, o4, rfl⟩, lt2, s2⟩ ⟨rfl, rfl⟩
          refine ⟨_, rfl, n, rfl, r1, r2, ?_⟩
          refine for_it walk_rng (fun k σ H' => (∃ o4 : Option V, σ = [some (.ref a), some (.int (n : Int)), some (.ref F), some (nm i), o4, none]) ∧ Lt H' F (cPre n rows i ++ cRow n rows i k) ∧ Same H H') ⟨⟨_, rfl⟩, (by rw [show cRow n rows i 0 = [] from rfl, List.append_nil]; exact lt2), s2⟩ (fun _ _ _ _ _ => trivial) ?_ ?_
          · rintro k y σ H30 H3 hk ⟨⟨o4, rfl⟩, lt3, s3⟩ ⟨rfl, rfl⟩
            refine ⟨_, rfl, _, rfl, rfl, _, rfl, ?_⟩
            by_cases c1 : i = k
            · subst c1
              rw [decide_eq_true rfl]
              refine iteF (iteF ⟨⟨_, rfl⟩, ?_, s3⟩)
              rw [cRow_succ, show cIJ rows i i = false by unfold cIJ; simp]
              rw [if_neg (by decide), List.append_nil]
              exact lt3
            · rw [decide_eq_false (fun e => c1 (nm_inj e))]
              refine iteT ?_
              have main : ∀ (J : It) (G : Hp → Prop) (D : Addr), Walk J rows.length G (YAt xs) → H3 D = none → (∀ H', Same H3 H' → G H') → ∀ Qd : Hp → Prop, (∀ H' ys, Same H3 H' → H' D = some (.lst ys) → ys.length = (rows.filter fun r => decide (r.idxOf k < r.idxOf i)).length → Qd H') → _ := fun J G D w hD hG Qd don =>
                lc_gen (vs := [5]) (σ := [some (.ref a), some (.int (n : Int)), some (.ref F), some (nm i), some (nm k), none]) (g := gName 5)
                  (tt := tTest (tOp (rI0 fun i j => .bl (decide (j < i))) (tBMT (rTIdx K) (tVar 5) (tCons (tVar 3) tNil)) (tBMT (rTIdx K) (tVar 5) (tCons (tVar 4) tNil)))) (te := tVar 5)
                  (Qd := Qd) rows (fun r => decide (r.idxOf k < r.idxOf i)) (fun _ => ()) (fun _ _ _ => True) (fun _ _ _ _ _ h => h) w (by omega) hD hG (by
                  rintro j r x H50 H5 hj s5 ⟨rfl, hx5⟩ Kc Kn kc kn
                  refine ⟨rfl, ?_⟩
                  obtain ⟨r', hr', htf⟩ := Pd.get hp hx5
                  rw [hj] at hr'
                  cases hr'
                  obtain ⟨ar, o, rfl, har, hd⟩ := htf.same (s3.trans s5)
                  have Pr := hperm r (List.mem_of_getElem? hj)
                  refine ⟨_, rfl, ⟨ar, o, _, rfl, har, hd⟩, _, rfl, ?_⟩
                  dsimp only [tNil]
                  refine rtidx (.inr ⟨o, har⟩) Pr hi ?_
                  refine ⟨_, rfl, ⟨ar, o, _, rfl, har, hd⟩, _, rfl, ?_⟩
                  dsimp only [tNil]
                  refine rtidx (.inr ⟨o, har⟩) Pr hk ?_
                  refine ⟨_, _, rfl, rfl, _, rfl, ?_⟩
                  rw [show decide (((r.idxOf k : Nat) : Int) < ((r.idxOf i : Nat) : Int)) = decide (r.idxOf k < r.idxOf i) from decide_eq_decide.mpr (by omega)]
                  exact ite2 (fun c => ⟨_, rfl, kc c _ _ (fun _ _ z => z) trivial⟩) (fun c => kn (Bool.eq_false_iff.mpr c) _ fun _ _ z => z)) (by
                  intro H5 zs s5 hzs hpz
                  have hl := Paired.length hpz
                  rw [List.length_map] at hl
                  exact don H5 zs s5 hzs hl)
              have ec : ∀ ys : List V, ys.length = (rows.filter fun r => decide (r.idxOf k < r.idxOf i)).length → decide (V.int ((ys.length : Nat) : Int) = V.int 0) = cIJ rows i k := by
                intro ys hl
                rw [hl]
                refine (int_eq (b := 0)).trans ?_
                unfold cIJ
                rw [bne_iff_ne.mpr c1, Bool.true_and, Bool.eq_iff_iff, decide_eq_true_eq, List.length_eq_zero_iff, List.filter_eq_nil_iff, List.all_eq_true]
                exact ⟨fun h r hr => by have := h r hr; simpa using this, fun h r hr => by have := h r hr; simpa using this⟩
              have ha3 := ha.imp (s3 a (.lst xs)) (s3 a (.tup xs))
              refine ⟨_, rfl, a, xs, rfl, ha3.elim (fun hx => .inl ⟨.inl (.inl hx), fun D hD => main _ _ D (walk_listN hxl) hD (fun H' s' => .inl (.inl (s' _ _ hx))) _ ?f1⟩) (fun hx => .inr ⟨.inl (.inl hx), fun D hD => main _ _ D (walk_tupN hxl) hD (fun H' s' => .inl (.inl (s' _ _ hx))) _ ?f2⟩)⟩
              case f1 | f2 =>
                intro H5 ys s5 hys hl
                refine ⟨D, ys, rfl, .inl (.inl (.inl hys)), rfl, _, rfl, ?_⟩
                rw [ec ys hl]
                have lt5 := lt3.same s5
                have s35 := s3.trans s5
                cases c2 : cIJ rows i k with
                | false =>
                  refine iteF ⟨⟨_, rfl⟩, ?_, s35⟩
                  rw [cRow_succ, c2, if_neg (by decide), List.append_nil]
                  exact lt5
                | true =>
                  refine iteT ?_
                  obtain ⟨fs, hfs, hpf⟩ := lt5
                  refine ⟨_, rfl, .inl ⟨rfl, _, .inl (.inl hfs)⟩, _, rfl, _, rfl, (by show 2 ≤ sizeLine; decide), fun c3 hc3 => ?_⟩
                  have s6 : Same H5 (upd H5 c3 (.tup [nm i, nm k])) := same_new hc3
                  have l1 := Paired.length hpf
                  have l2 := cPre_len n rows i
                  have l3 := cRow_len n rows i k
                  have l4 : i * n ≤ 5 * 5 := Nat.mul_le_mul (by omega) hn
                  rw [List.length_append] at l1
                  refine ⟨F, fs, _, rfl, rfl, s6 _ _ hfs, sz_lt (by omega), ⟨_, rfl⟩, ⟨_, upd_same, ?_⟩, same_mut (s35.trans s6) hF⟩
                  rw [cRow_succ, c2, if_pos rfl, ← List.append_assoc]
                  exact Pd.snoc (tns_tk hpf ((tk_of s6).trans (tk_lst (s6 _ _ hfs)))) ((tn_new (r := [i, k])).tk (tk_lst (s6 _ _ hfs)))
          · rintro σ H3 ⟨⟨o4, rfl⟩, lt3, s3⟩
            exact ⟨⟨_, _, rfl⟩, (by rw [cPre_succ]; exact lt3), s3⟩
        · rintro σ H2 ⟨⟨o3, o4, rfl⟩, ⟨fs, hfs, hpf⟩, s2⟩
          rw [cPre_all] at hpf
          exact ⟨_, rfl, F, fs, rfl, .inl ⟨.inl (.inl hfs), fun c hc => q _ c (s2.trans (same_new hc)) (tt_new hc hpf)⟩⟩
end
end Ev

set_option maxRecDepth 100000
set_option maxHeartbeats 4000000
namespace Ev
open PySem PySem.Spec PyProof.Rows L2 EvM
theorem u65 {k : Nat} {A : Around} (r : Room k A) : A.units + 65 < cLine := by
  have := r.un
  omega
section
variable {P : Program} {w : World} {K : PySem.W.Frag} {mg : Str → Option Value} {base : Heap} {ad : Ad}
def spRight : Sp := fun vs H Q _ => ∃ a rows n, vs = [.ref a] ∧ LTf H a rows ∧ (∀ r ∈ rows, Perm n r) ∧ rows ≠ [] ∧ 1 ≤ n ∧ n ≤ 5 ∧ rows.length ≤ 1000 ∧ ∀ H', Same H H' → Q (.bl true) H'
theorem ok_l_right (T : Txt K mg) (F : Cf K mg ad) : Cal P w K mg base CX0 7 "_law_right" spRight := by
  refine T.d_l_right.ok sc_l_right (fun vs H Q E h => ?_) (fun f cdv A outer s H vs Q E hr h => ?_)
  · obtain ⟨a, rows, n, rfl, _⟩ := h
    rfl
  obtain ⟨a, rows, n, rfl, hl, hperm, hne, h1, h5, hz, q⟩ := h
  refine ⟨_, (pss_cons (ps_set (i := 1) sc_l_right.nd rfl (Or.inl rfl) (pe_callB call_len_seq (by rfl) T.n_len (by decide +kernel) (pa_cons (pe_ix (r := rIx K) ix_seq (pv 0) pe_int (fun _ _ => rfl)) pa_nil)))
  (pss_cons (ps_set (i := 2) sc_l_right.nd rfl (Or.inl rfl) (pe_fn (ok_l_common T) hr (by decide) rfl (pa_cons (pv 0) pa_nil)))
  (pss_cons (ps_set (i := 3) sc_l_right.nd rfl (Or.inl rfl) (pe_fnX (E := E0) (ok_common_web T F) hr (by decide) rfl passL (pa_cons (pv 0) pa_nil)))
  (pss_cons (ps_if (PW.pt (pw_or (pt_cmpR op_ne (pe_fld (pv 3) rfl) (pv 1) (nomark _)) (pw_or1 (pt_cmpR (op_neD hr.units) (pe_fld (pv 3) rfl) (pv 2) (nomark _))))) (pss_one (ps_ret pe_bl)) pss_nil)
  (pss_cons (ps_setLc (i := 4) (own := [("_law_order", 5)]) rfl sc_l_right.nd rfl rfl (sw_true rfl rfl rfl (by decide +kernel)) (pi_list (pe_fn (ok_l_orders T) hr (by decide) rfl (pa_cons (pv 2) (pa_cons (pv 1) pa_nil)))) (blkOk_by (N := ["_law_rows", "_law_many", "_law_due", "_law_told", "_law_missing", "_law_order"]) (sc := defScope s_l_right) (own := [("_law_order", 5)]) (by decide +kernel)) (fun _ _ _ _ _ => (pg_name (i := 5) sc_l_right.nd rfl (Or.inl rfl))) (fun _ _ _ _ _ => (pts_one (pt_cmpR (r := rNotInR K) (op_notInR (u65 hr)) (pv 5) (pv 0) rfl))) (fun _ _ _ _ _ => (pv 5)))
  (pss_one (ps_ret (pe_fn (ok_l_flag T) hr (by decide) rfl (pa_cons (pe_fnX (E := E0) (ok_are_all T F) hr (by decide) rfl passL (pa_cons (pv 0) pa_nil)) (pa_cons (pe_cmpR op_eq (pe_callB call_len_seq (by rfl) T.n_len (by decide +kernel) (pa_cons (pv 4) pa_nil)) pe_int (nomark _)) pa_nil)))))))))), ?_⟩
  have hrows : ∀ {H' : Hp}, Same H H' → Rows H' a rows n := fun s => ⟨(hl.same s).r, hperm, hne, h1, h5, hz⟩
  obtain ⟨xs, ha, hp⟩ := id hl
  obtain ⟨r0, rest, er⟩ : ∃ r0 rest, rows = r0 :: rest := by
    cases rows with
    | nil => exact absurd rfl hne
    | cons r0 rest => exact ⟨r0, rest, rfl⟩
  rw [er] at hp
  have P0 := hperm r0 (by rw [er]; simp)
  cases hp with
  | @cons x0 _ xs _ hx0 hp =>
  obtain ⟨a0, o0, rfl, ha0, _⟩ := hx0
  refine ⟨_, rfl, ix0 (ha.imp id .inl) ⟨a0, _, rfl, .inr (.inl (.inr ⟨o0, ha0⟩)), ?_⟩⟩
  rw [List.length_map, P0.len]
  refine ⟨_, rfl, a, rows, n, rfl, hl, hperm, hne, h5, by omega, fun H1 c s1 hc => ?_⟩
  refine ⟨_, rfl, .inl ⟨a, rows, n, rfl, hrows s1, fun H2 x s2 hw => ?_⟩⟩
  obtain ⟨dx, fs, hx, b0, l0, m0, rfl, hb0, hl0⟩ := id hw
  refine ⟨_, rfl, x, ad.CR, dx, _, _, rfl, hx, F.cR, F.nR.1, lk_many, _, rfl, rfl, _, rfl, ?_⟩
  rw [decide_eq_true rfl]
  refine iteF ?_
  refine ⟨_, rfl, x, ad.CR, dx, _, _, rfl, hx, F.cR, F.nR.2.1, lk_befores, _, rfl, _, _, dp_tt hb0, dp_tt (hc.same s2), shaped_rows _, shaped_rows _, _, rfl, ?_⟩
  rw [eqv_rows, decide_eq_true rfl]
  refine iteF ?_
  have hpo := common_po (n := n) (by omega) hperm hne
  have s12 := s1.trans s2
  refine ⟨_, rfl, _, rfl, c, n, common n rows, rfl, hc.same s2, common_pr _ _, h5, by have := hpo.few h5; omega, fun H3 fo s3 hfo => ?_⟩
  obtain ⟨os, hos, hpos⟩ := hfo
  have hol : os.length = (ords n (common n rows)).length := Paired.length hpos
  have hle := ords_le h5 (common n rows)
  refine ⟨fo, rfl, ⟨os, .inl (.inl hos)⟩, fun D hD => ?_⟩
  refine lc_gen (ords n (common n rows)) (fun o => !decide (o ∈ rows)) (fun _ => ()) (fun _ _ _ => True) (fun _ _ _ _ _ h => h) (walk_listN hol) (by omega) hD (fun H' s' => .inl (.inl (s' _ _ hos))) ?_ ?_
  · rintro i o y H40 H4 hi s4 ⟨rfl, hy⟩ Kc Kn kc kn
    obtain ⟨o', ho', htf⟩ := Pd.get hpos hy
    rw [hi] at ho'
    cases ho'
    refine ⟨rfl, ?_⟩
    refine ⟨_, rfl, _, rfl, a, o, rows, rfl, (htf.same s4).r, (hrows (s12.trans (s3.trans s4))).1, _, rfl, ?_⟩
    exact ite2 (fun c => ⟨_, rfl, kc c _ _ (fun _ _ z => z) trivial⟩) (fun c => kn (Bool.eq_false_iff.mpr c) _ fun _ _ z => z)
  · intro H4 zs s4 hzs hpz
    have hl4 := Paired.length hpz
    rw [List.length_map] at hl4
    refine ⟨_, rfl, .inl ⟨a, rows, n, rfl, hrows (s12.trans (s3.trans s4)), fun H5 s5 => ?_⟩⟩
    refine ⟨_, rfl, D, zs, rfl, .inl (.inl (.inl (s5 _ _ hzs))), rfl, ?_⟩
    have e : decide (V.int ((zs.length : Nat) : Int) = V.int 0) = decide (∀ o ∈ ords n (common n rows), o ∈ rows) := by
      rw [hl4]
      refine (int_eq (b := 0)).trans (decide_eq_decide.mpr ?_)
      rw [List.length_eq_zero_iff, List.filter_eq_nil_iff]
      exact ⟨fun h o ho => by have := h o ho; simpa using this, fun h o ho => by have := h o ho; simp [this]⟩
    rw [e]
    refine ⟨_, _, rfl, ?_⟩
    rw [beq_self_eq_true]
    exact q _ (s12.trans (s3.trans (s4.trans s5)))
end
end Ev

set_option maxRecDepth 100000
set_option maxHeartbeats 4000000
namespace Ev
open PySem PySem.Spec PyProof.Rows L2 EvM
theorem ext_ok {rows : List (List Nat)} : ∀ {k : Nat} {t : Ch}, t ∈ ext rows k ([], 0) → t.1.length = k ∧ (∀ r ∈ t.1, r ∈ rows) ∧ t.2 ≤ rows.length
  | 0, t, h => by
    have h : t ∈ [(([], 0) : Ch)] := h
    rw [List.mem_singleton] at h
    subst h
    exact ⟨rfl, by simp, Nat.zero_le _⟩
  | k + 1, t, h => by
    rw [ext_snoc] at h
    obtain ⟨s, hs, ht⟩ := List.mem_flatMap.mp h
    obtain ⟨h1, h2, h3⟩ := ext_ok hs
    obtain ⟨x, hx1, hx2, rfl⟩ := mem_ext1.mp ht
    refine ⟨by rw [List.length_append, h1]; rfl, fun r hr => ?_, hx2⟩
    rcases List.mem_append.mp hr with hr | hr
    · exact h2 r hr
    · rw [List.mem_singleton] at hr
      subst hr
      rw [EvM.getD_at hx2]
      exact List.getElem_mem _
theorem ext1_len (rows : List (List Nat)) (s : Ch) : (ext1 rows s).length ≤ rows.length := by
  unfold ext1
  rw [List.length_map, List.length_range']
  omega
theorem ext1_at (rows : List (List Nat)) (s : Ch) {j : Nat} (h : j < rows.length - s.2) : (ext1 rows s)[j]? = some (s.1 ++ [rows.getD (s.2 + j) []], s.2 + j + 1) := by
  unfold ext1
  rw [List.getElem?_map, List.getElem?_range' h]
  show some (s.1 ++ [rows.getD (s.2 + 1 * j) []], s.2 + 1 * j + 1) = _
  rw [Nat.one_mul]
theorem cut_eq {α : Type} (A B C : List α) (j : Nat) (hj : j < A.length) : B ++ (A ++ C) = (B ++ A.take j) ++ A[j] :: (A.drop (j + 1) ++ C) := by
  have e : A = A.take j ++ A[j] :: A.drop (j + 1) := by rw [← List.drop_eq_getElem_cons hj, List.take_append_drop]
  calc B ++ (A ++ C) = B ++ ((A.take j ++ A[j] :: A.drop (j + 1)) ++ C) := by rw [← e]
    _ = _ := by simp only [List.append_assoc, List.cons_append]
/-- found behind the layer's first i, of the next j -/
theorem found_at {n : Nat} {ps : Ps} {rows : List (List Nat)} {k i j : Nat} {s t : Ch} (hs : (ext rows k ([], 0))[i]? = some s) (ht : (ext1 rows s)[j]? = some t)
    (no : ∀ u ∈ ((ext rows k ([], 0)).take i).flatMap (ext1 rows) ++ (ext1 rows s).take j, (common n u.1 == ps) = false) (e : common n t.1 = ps) : first n ps rows (k + 1) ([], 0) = some t := by
  obtain ⟨hi, rfl⟩ := List.getElem?_eq_some_iff.mp hs
  obtain ⟨hj, rfl⟩ := List.getElem?_eq_some_iff.mp ht
  have e1 : ext rows (k + 1) ([], 0) = (((ext rows k ([], 0)).take i).flatMap (ext1 rows) ++ (ext1 rows (ext rows k ([], 0))[i]).take j) ++ (ext1 rows (ext rows k ([], 0))[i])[j] :: ((ext1 rows (ext rows k ([], 0))[i]).drop (j + 1) ++ ((ext rows k ([], 0)).drop (i + 1)).flatMap (ext1 rows)) := by
    have e2 : ∀ {α : Type} (A : List α) (j : Nat) (hj : j < A.length), A = A.take j ++ A[j] :: A.drop (j + 1) := fun A j hj => by rw [← List.drop_eq_getElem_cons hj, List.take_append_drop]
    have e3 : (ext rows k ([], 0)).flatMap (ext1 rows) = ((ext rows k ([], 0)).take i).flatMap (ext1 rows) ++ (ext1 rows (ext rows k ([], 0))[i] ++ ((ext rows k ([], 0)).drop (i + 1)).flatMap (ext1 rows)) := by
      rw [← List.flatMap_cons, ← List.flatMap_append, ← e2 _ i hi]
    rw [ext_snoc, e3]
    exact cut_eq _ _ _ j hj
  exact first_of e1 no e
/-- the pairs (rows, place) -/
def Pc (H : Hp) (v : V) (s : Ch) : Prop := ∃ p c ys, v = .ref p ∧ H p = some (.tup [.ref c, .int ((s.2 : Nat) : Int)]) ∧ H c = some (.tup ys) ∧ Paired (Tf H) ys s.1
theorem Pc.kp {H H' : Hp} {v : V} {s : Ch} (h : Pc H v s) (t : TK H H') (f : FK H H') : Pc H' v s := by
  obtain ⟨p, c, ys, e, h1, h2, h3⟩ := h
  exact ⟨p, c, ys, e, t _ _ h1, t _ _ h2, tfs_fk h3 f⟩
def Lc (H : Hp) (a : Addr) (l : List Ch) : Prop := ∃ xs, H a = some (.lst xs) ∧ Paired (Pc H) xs l
theorem pcs_kp {H H' : Hp} {xs : List V} {l : List Ch} (h : Paired (Pc H) xs l) (t : TK H H') (f : FK H H') : Paired (Pc H') xs l := L2.Paired.mapP h fun _ _ q => q.kp t f
theorem Lc.same {H H' : Hp} {a : Addr} {l : List Ch} (h : Lc H a l) (s : Same H H') : Lc H' a l := by
  obtain ⟨xs, e, p⟩ := h
  exact ⟨xs, s _ _ e, pcs_kp p (tk_of s) (fk_of s)⟩
section
variable {P : Program} {w : World} {K : PySem.W.Frag} {mg : Str → Option Value} {base : Heap} {ad : Ad}
def spLFew : Sp := fun vs H Q _ => ∃ b n ps, vs = [.ref b, .int ((n : Nat) : Int)] ∧ Tt H b ps ∧ Po n ps ∧ n ≤ 5 ∧ ∀ H' p c ys k s, Same H H' → H' p = some (.tup [.int ((k : Nat) : Int), .ref c]) → H' c = some (.tup ys) → Paired (Tf H') ys s.1 → Res n ps k s → Q (.ref p) H'
theorem ok_l_fewest (T : Txt K mg) : Cal P w K mg base CX0 3 "_law_fewest" spLFew := by
  refine T.d_l_fewest.ok sc_l_fewest (fun vs H Q E h => ?_) (fun f cdv A outer s H vs Q E hr h => ?_)
  · obtain ⟨b, n, ps, rfl, _⟩ := h
    rfl
  obtain ⟨b, n, ps, rfl, hb, hpo, hn, q⟩ := h
  refine ⟨_, (pss_cons (ps_set (i := 2) sc_l_fewest.nd rfl (Or.inl rfl) (pe_fn (ok_l_orders T) hr (by decide) rfl (pa_cons (pv 0) (pa_cons (pv 1) pa_nil))))
  (pss_cons (ps_set (i := 3) sc_l_fewest.nd rfl (Or.inl rfl) (pe_lst (pa_cons (pe_tup (pa_cons (pe_tup pa_nil) (pa_cons pe_int pa_nil))) pa_nil)))
  (pss_cons (ps_for PassesOwn.never rfl (pi_range2 (by rfl) T.n_range (pa_cons pe_int (pa_cons pe_int pa_nil))) (pg_name (i := 4) sc_l_fewest.nd rfl (Or.inl rfl))
  (pss_cons (ps_set (i := 5) sc_l_fewest.nd rfl (Or.inl rfl) (pe_lst pa_nil))
  (pss_cons (ps_for PassesOwn.never rfl (pi_list (pv 3)) (pg_tup2 (K := K) (n := 2) rfl (pgs_cons (pg_name (i := 6) sc_l_fewest.nd rfl (Or.inl rfl)) (pgs_cons (pg_name (i := 7) sc_l_fewest.nd rfl (Or.inl rfl)) pgs_nil)))
  (pss_one (ps_for PassesOwn.never rfl (pi_range2 (by rfl) T.n_range (pa_cons (pv 7) (pa_cons (pe_callB call_len_seq (by rfl) T.n_len (by decide +kernel) (pa_cons (pv 2) pa_nil)) pa_nil))) (pg_name (i := 8) sc_l_fewest.nd rfl (Or.inl rfl))
  (pss_cons (ps_set (i := 9) sc_l_fewest.nd rfl (Or.inl rfl) (pe_op (r := rCatA K) op_catA (pv 6) (pe_tup (pa_cons (pe_ix (r := rIxL K) ix_list (pv 2) (pv 8) (fun _ _ => rfl)) pa_nil))))
  (pss_cons (ps_if (pt_cmpR (op_eqD hr.units) (pe_fn (ok_l_common T) hr (by decide) rfl (pa_cons (pv 9) pa_nil)) (pv 0) (nomark _)) (pss_one (ps_ret (pe_tup (pa_cons (pv 4) (pa_cons (pv 9) pa_nil))))) pss_nil)
  (pss_one (ps_expr (pe_bm PySem.F.plainAttrs_list PySem.F.slot_list_append PySem.F.type_list_append mt_append (pv 5) (pa_cons (pe_tup (pa_cons (pv 9) (pa_cons (pe_op op_add (pv 8) pe_int) pa_nil))) pa_nil)))))))))
  (pss_one (ps_set (i := 3) sc_l_fewest.nd rfl (Or.inl rfl) (pv 5))))))
  (pss_one (ps_ret pe_non))))), ?_⟩
  have few := hpo.few hn
  refine ⟨_, rfl, _, rfl, b, n, ps, rfl, hb, hpo.pr, hn, by omega, fun H1 R s1 hR => ?_⟩
  obtain ⟨os, hos, hpos⟩ := hR
  have hol : os.length = (ords n ps).length := Paired.length hpos
  have hle := ords_le hn ps
  have hallp : ∀ r ∈ ords n ps, Perm n r := fun r hr => ((mem_ords hpo.pr).mp hr).toPerm
  generalize hrw : ords n ps = rows at hpos hol hle hallp
  refine ⟨(by decide), fun c0 hc0 => ⟨(by show 2 ≤ sizeLine; decide), fun p0 hp0 => ⟨(by show 1 ≤ sizeLine; decide), fun L0 hL0 => ?_⟩⟩⟩
  have t1 : Same H1 (upd H1 c0 (.tup [])) := same_new hc0
  have t2 : Same (upd H1 c0 (.tup [])) (upd (upd H1 c0 (.tup [])) p0 (.tup [.ref c0, .int 0])) := same_new hp0
  have t3 := same_new (o := .lst [V.ref p0]) hL0
  have t13 := t1.trans (t2.trans t3)
  have lc0 : Lc (upd (upd (upd H1 c0 (.tup [])) p0 (.tup [.ref c0, .int 0])) L0 (.lst [V.ref p0])) L0 (ext rows 0 ([], 0)) :=
    ⟨[V.ref p0], upd_same, .cons ⟨p0, c0, [], rfl, t3 _ _ upd_same, t3 _ _ (t2 _ _ upd_same), .nil⟩ .nil⟩
  refine ⟨1, 4, rfl, ⟨by decide, by decide, by decide, by decide⟩, ?_⟩
  refine for_it (walk_rng2 (a := 1) (n := 4) rfl) (fun k σ H' => (∃ (L : Addr) (o4 o5 o6 o7 o8 o9 : Option V), σ = [some (.ref b), some (.int (n : Int)), some (.ref R), some (.ref L), o4, o5, o6, o7, o8, o9] ∧ Lc H' L (ext rows k ([], 0))) ∧ Same H1 H' ∧ ∀ m, m < k → first n ps rows (m + 1) ([], 0) = none)
    ⟨⟨L0, _, _, _, _, _, _, rfl, lc0⟩, t13, fun m hm => absurd hm (Nat.not_lt_zero _)⟩ (fun _ _ _ _ _ => trivial) ?_ ?_
  · rintro k y σ H20 H2 hk ⟨⟨L, o4, o5, o6, o7, o8, o9, rfl, lay⟩, s2, no⟩ ⟨rfl, rfl⟩
    have hk2 : k < 2 := by
      refine Classical.byContradiction fun hk2 => ?_
      obtain ⟨m, hm, s, es⟩ := first_ex hn hpo
      rw [hrw] at es
      rcases hm with rfl | rfl
      · rw [no 0 (by omega)] at es
        cases es
      · rw [no 1 (by omega)] at es
        cases es
    have hlay : (ext rows k ([], 0)).length ≤ 120 := by
      rcases k with _ | _ | k
      · exact (by decide : 1 ≤ 120)
      · show ((ext1 rows ([], 0)).flatMap (ext rows 0)).length ≤ 120
        have : (ext1 rows ([], 0)).flatMap (ext rows 0) = ext1 rows ([], 0) := by
          show (ext1 rows ([], 0)).flatMap (fun s => [s]) = _
          simp
        rw [this]
        exact Nat.le_trans (ext1_len _ _) hle
      · omega
    refine ⟨(by decide), fun M hM => ?_⟩
    have sM := same_new (o := .lst []) hM
    obtain ⟨ls, hls, hpl⟩ := id lay
    have hll : ls.length = (ext rows k ([], 0)).length := Paired.length hpl
    refine ⟨_, rfl, L, rfl, ⟨ls, .inl (.inl (sM _ _ hls))⟩, ?_⟩
    refine for_it (walk_listN hll) (fun i σ H' => (∃ (o6 o7 o8 o9 : Option V), σ = [some (.ref b), some (.int (n : Int)), some (.ref R), some (.ref L), some (nm (1 + k)), some (.ref M), o6, o7, o8, o9]) ∧ Lc H' M (((ext rows k ([], 0)).take i).flatMap (ext1 rows)) ∧ Same H2 H' ∧ ∀ u ∈ ((ext rows k ([], 0)).take i).flatMap (ext1 rows), (common n u.1 == ps) = false)
      ⟨⟨_, _, _, _, rfl⟩, ⟨[], upd_same, .nil⟩, sM, fun u hu => by cases hu⟩ (fun i σ H' _ h => .inl (.inl (h.2.2.1 _ _ hls))) ?_ ?_
    · rintro i y σ H30 H3 hi ⟨⟨o6, o7, o8, o9, rfl⟩, lc3, s3, no3⟩ ⟨rfl, hy⟩
      obtain ⟨s, hs, hpc⟩ := Pd.get hpl hy
      obtain ⟨sp, sc, ys, rfl, hsp, hsc, hys⟩ := hpc
      obtain ⟨h1, h2, h3⟩ := ext_ok (List.mem_of_getElem? hs)
      refine ⟨sp, [.ref sc, .int ((s.2 : Nat) : Int)], rfl, .inl (.inl (s3 _ _ hsp)), rfl, _, _, rfl, _, _, rfl, rfl, ?_⟩
      have s23 := s2.trans s3
      have hos3 := s23 _ _ hos
      obtain ⟨r1, r2⟩ := rng_ok (n := os.length) (by omega)
      refine ⟨_, rfl, _, rfl, R, os, rfl, .inl (.inl (.inl hos3)), _, _, rfl, ⟨by omega, by omega, r1, r2⟩, ?_⟩
      refine for_it (walk_rng2 (a := s.2) (n := os.length) rfl) (fun j σ H' => (∃ (o8 o9 : Option V), σ = [some (.ref b), some (.int (n : Int)), some (.ref R), some (.ref L), some (nm (1 + k)), some (.ref M), some (.ref sc), some (.int ((s.2 : Nat) : Int)), o8, o9]) ∧ Lc H' M (((ext rows k ([], 0)).take i).flatMap (ext1 rows) ++ (ext1 rows s).take j) ∧ Same H2 H' ∧ ∀ u ∈ ((ext rows k ([], 0)).take i).flatMap (ext1 rows) ++ (ext1 rows s).take j, (common n u.1 == ps) = false)
        ⟨⟨_, _, rfl⟩, (by rw [List.take_zero, List.append_nil]; exact lc3), s3, (by rw [List.take_zero, List.append_nil]; exact no3)⟩ (fun _ _ _ _ _ => trivial) ?_ ?_
      · rintro j y σ H40 H4 hj ⟨⟨o8, o9, rfl⟩, lc4, s4, no4⟩ ⟨rfl, rfl⟩
        have hjr : s.2 + j < rows.length := by omega
        obtain ⟨v, ev, tv⟩ := Pd.get' hpos (List.getElem?_eq_getElem hjr)
        have erow : rows[s.2 + j] = rows.getD (s.2 + j) [] := (EvM.getD_at hjr []).symm
        rw [erow] at tv
        have s24 := s2.trans s4
        have tv4 := tv.same s24
        refine ⟨_, rfl, _, rfl, _, rfl, R, os, ((s.2 + j : Nat) : Int), _, rfl, rfl, .inl (.inl (s24 _ _ hos)), atI_nat ev, (by show 1 ≤ sizeLine; decide), fun q1 hq1 => ?_⟩
        have s5 : Same H4 (upd H4 q1 (.tup [v])) := same_new hq1
        refine catV (s5 _ _ (s4 _ _ hsc)) upd_same (by have := Paired.length hys; show ys.length + 1 ≤ _; omega) fun H6 c2 s6 hc2 => ?_
        have s56 := s5.trans s6
        have pt6 : Paired (Tf H6) (ys ++ [v]) (s.1 ++ [rows.getD (s.2 + j) []]) := Pd.snoc (tfs_same hys (s4.trans s56)) (tv4.same s56)
        have ht : (ext1 rows s)[j]? = some (s.1 ++ [rows.getD (s.2 + j) []], s.2 + j + 1) := ext1_at rows s (by omega)
        have hperm : ∀ r ∈ s.1 ++ [rows.getD (s.2 + j) []], Perm n r := fun r hr => by
          rcases List.mem_append.mp hr with hr | hr
          · exact hallp r (h2 r hr)
          · rw [List.mem_singleton] at hr
            subst hr
            rw [← erow]
            exact hallp _ (List.getElem_mem _)
        refine ⟨_, rfl, c2, s.1 ++ [rows.getD (s.2 + j) []], n, rfl, ⟨_, .inr hc2, pt6⟩, hperm, by simp, hn, by rw [List.length_append, h1]; show k + 1 < 4000; omega, fun H7 c7 s7 hc7 => ?_⟩
        have s17 := s1.trans (s24.trans (s56.trans s7))
        refine ⟨_, rfl, _, _, dp_tt hc7, dp_tt (hb.same s17), shaped_rows _, shaped_rows _, _, rfl, ?_⟩
        rw [eqv_rows]
        refine ite2 (fun c => ?_) (fun c => ?_)
        · have c := of_decide_eq_true c
          have fd := found_at hs ht no4 c
          refine ⟨_, rfl, _, rfl, (by show 2 ≤ sizeLine; decide), fun pr hpr => ?_⟩
          have s8 := same_new (o := .tup [nm (1 + k), .ref c2]) hpr
          refine q _ pr c2 (ys ++ [v]) (1 + k) (s.1 ++ [rows.getD (s.2 + j) []], s.2 + j + 1) (s17.trans s8) upd_same ((s7.trans s8) _ _ hc2) (tfs_same pt6 (s7.trans s8)) ?_
          rcases k with _ | _ | k
          · exact .inl ⟨rfl, by rw [hrw]; exact fd⟩
          · exact .inr ⟨rfl, by rw [hrw]; exact no 0 (by omega), by rw [hrw]; exact fd⟩
          · omega
        · have c : ¬ common n (s.1 ++ [rows.getD (s.2 + j) []]) = ps := fun z => c (decide_eq_true z)
          obtain ⟨ms, hms, hpm⟩ := lc4.same (s56.trans s7)
          refine ⟨_, rfl, .inl ⟨rfl, _, .inl (.inl hms)⟩, _, rfl, _, rfl, _, 1, rfl, rfl, (by show 2 ≤ sizeLine; decide), fun p8 hp8 => ?_⟩
          have s8 := same_new (o := .tup [.ref c2, .int (((s.2 + j : Nat) : Int) + 1)]) hp8
          have l1 := Paired.length hpm
          rw [List.length_append, List.length_take] at l1
          have l2 := flat_len (ext1 rows) 120 ((ext rows k ([], 0)).take i) fun a _ => Nat.le_trans (ext1_len rows a) hle
          have l3 := List.length_take_le i (ext rows k ([], 0))
          have l4 : ((ext rows k ([], 0)).take i).length * 120 ≤ 120 * 120 := Nat.mul_le_mul_right 120 (by rw [List.length_take]; omega)
          have l5 := ext1_len rows s
          have pc : Pc (upd (upd H7 p8 (.tup [.ref c2, .int (((s.2 + j : Nat) : Int) + 1)])) M (.lst (ms ++ [.ref p8]))) (.ref p8) (s.1 ++ [rows.getD (s.2 + j) []], s.2 + j + 1) := by
            have tk := tk_lst (o := .lst (ms ++ [V.ref p8])) (s8 _ _ hms)
            have fk := fk_lst (o := .lst (ms ++ [V.ref p8])) (s8 _ _ hms)
            exact ⟨p8, c2, ys ++ [v], rfl, tk _ _ (by rw [upd_same]; rfl), tk _ _ ((s7.trans s8) _ _ hc2), tfs_fk (tfs_same pt6 (s7.trans s8)) fk⟩
          refine ⟨M, ms, _, rfl, rfl, s8 _ _ hms, sz_lt (by omega), ⟨_, _, rfl⟩, ?_, ?_, ?_⟩
          · rw [take_snoc ht, ← List.append_assoc]
            exact ⟨_, upd_same, Pd.snoc (pcs_kp hpm ((tk_of s8).trans (tk_lst (s8 _ _ hms))) ((fk_of s8).trans (fk_lst (s8 _ _ hms)))) pc⟩
          · exact same_mut (s4.trans (s56.trans (s7.trans s8))) hM
          · rw [take_snoc ht, ← List.append_assoc]
            intro u hu
            rcases List.mem_append.mp hu with hu | hu
            · exact no4 u hu
            · rw [List.mem_singleton] at hu
              subst hu
              exact beq_eq_false_iff_ne.mpr c
      · rintro σ H4 ⟨⟨o8, o9, rfl⟩, lc4, s4, no4⟩
        have e0 : (ext1 rows s).take (os.length - s.2) = ext1 rows s := List.take_of_length_le (by unfold ext1; rw [List.length_map, List.length_range']; omega)
        rw [e0] at lc4 no4
        exact ⟨⟨_, _, _, _, rfl⟩, (by rw [take_flat _ hs]; exact lc4), s4, (by rw [take_flat _ hs]; exact no4)⟩
    · rintro σ H3 ⟨⟨o6, o7, o8, o9, rfl⟩, lc3, s3, no3⟩
      rw [List.take_length] at lc3 no3
      rw [← ext_snoc] at lc3 no3
      refine ⟨_, rfl, ⟨M, _, _, _, _, _, _, rfl, lc3⟩, s2.trans s3, fun m hm => ?_⟩
      rcases Nat.lt_or_ge m k with h | h
      · exact no m h
      · have : m = k := by omega
        subst this
        exact first_no no3
  · rintro σ H2 ⟨_, _, no⟩
    exfalso
    obtain ⟨m, hm, s, es⟩ := first_ex hn hpo
    rw [hrw] at es
    rcases hm with rfl | rfl
    · rw [no 0 (by decide)] at es
      cases es
    · rw [no 1 (by decide)] at es
      cases es
end
end Ev

set_option maxRecDepth 100000
set_option maxHeartbeats 4000000
namespace Ev
open PySem PySem.Spec PyProof.Rows L2 EvM
/-! ### expressions whose values are of a kind -/
def GE (F : Hp → V → Prop) (te : TE) : Prop := ∀ (σ : L2.St) (H : Hp) (Q : VK), (∀ H' v, Same H H' → F H' v → Q v H') → te σ H Q
def GA (F : Hp → V → Prop) (n : Nat) (ta : TA) : Prop := ∀ (σ : L2.St) (H : Hp) (Q : List V → Hp → Prop), (∀ H' vs, Same H H' → (∀ v ∈ vs, F H' v) → vs.length = n → Q vs H') → ta σ H Q
def Stb (F : Hp → V → Prop) : Prop := ∀ H H' v, Same H H' → F H v → F H' v
theorem ga_nil {F : Hp → V → Prop} : GA F 0 tNil := fun σ H Q q => q H [] (fun _ _ z => z) (by simp) rfl
theorem ga_cons {F : Hp → V → Prop} {n : Nat} {te : TE} {ta : TA} (st : Stb F) (h : GE F te) (g : GA F n ta) : GA F (n + 1) (tCons te ta) := fun σ H Q q => by
  refine h σ H _ fun H1 v s1 hv => g σ H1 _ fun H2 vs s2 hvs hl => q H2 (v :: vs) (s1.trans s2) (fun z hz => ?_) (by rw [List.length_cons, hl])
  rcases List.mem_cons.mp hz with rfl | hz
  · exact st _ _ _ s2 hv
  · exact hvs z hz
theorem paired_of {α β : Type} {F : α → β → Prop} : ∀ (l : List α), (∀ v ∈ l, ∃ b, F v b) → ∃ m, Paired F l m
  | [], _ => ⟨[], .nil⟩
  | a :: l, h => by
    obtain ⟨b, hb⟩ := h a (by simp)
    obtain ⟨m, hm⟩ := paired_of l fun v hv => h v (List.mem_cons_of_mem _ hv)
    exact ⟨b :: m, .cons hb hm⟩
section
variable (K : PySem.W.Frag)
/-- no list, no tuple -/
def Lv (H : Hp) (v : V) : Prop := (∃ i, v = .int i) ∨ ∃ t, t ≠ Bt.int ∧ t ≠ Bt.tuple ∧ t ≠ Bt.list ∧ IsB K H v t
/-- a row, or none; few names -/
def Gr (H : Hp) (v : V) : Prop := ∃ o, RwD K H v o ∧ ∀ os, o = some os → os.length ≤ 5 ∨ (9 ≤ os.length ∧ os.length < 4000)
/-- a row, or none -/
def Gr1 (H : Hp) (v : V) : Prop := ∃ o, RwD K H v o ∧ ∀ os, o = some os → os.length < 4000
/-- a thing that the law may try -/
def Gd (H : Hp) (v : V) : Prop := (∃ t, t ≠ Bt.tuple ∧ t ≠ Bt.list ∧ IsB K H v t) ∨ ∃ a xs, v = .ref a ∧ ((H a = some (.lst xs) ∧ xs.length ≠ 5) ∨ Rd H a (.tup xs)) ∧ xs.length < 4000 ∧ (∀ x ∈ xs, Gr1 K H x) ∧ ∀ x rest, xs = x :: rest → Gr K H x
end
section
variable {K : PySem.W.Frag}
theorem lv_st : Stb (Lv K) := fun H H' v s h => h.imp id fun ⟨t, a, b, c, d⟩ => ⟨t, a, b, c, isb_same d s⟩
theorem gr_st : Stb (Gr K) := fun H H' v s ⟨o, h, l⟩ => ⟨o, rwd_same h s, l⟩
theorem gr1_st : Stb (Gr1 K) := fun H H' v s ⟨o, h, l⟩ => ⟨o, rwd_same h s, l⟩
theorem gr_gr1 {H : Hp} {v : V} (h : Gr K H v) : Gr1 K H v := by
  obtain ⟨o, h, l⟩ := h
  exact ⟨o, h, fun os e => by rcases l os e with h | h <;> omega⟩
theorem gd_mk {H : Hp} {a : Addr} {xs : List V} (h : (H a = some (.lst xs) ∧ xs.length ≠ 5) ∨ Rd H a (.tup xs)) (l : xs.length < 4000) (g : ∀ x ∈ xs, Gr K H x) : Gd K H (.ref a) :=
  .inr ⟨a, xs, rfl, h, l, fun x hx => gr_gr1 (g x hx), fun x rest e => g x (by rw [e]; simp)⟩
theorem gd_st : Stb (Gd K) := fun H H' v s h => h.imp (fun ⟨t, b, c, d⟩ => ⟨t, b, c, isb_same d s⟩) fun ⟨a, xs, e, h, l, g, g1⟩ => ⟨a, xs, e, h.imp (fun h => ⟨s _ _ h.1, h.2⟩) (fun h => Rd.same h s), l, fun x hx => gr1_st _ _ _ s (g x hx), fun x rest e => gr_st _ _ _ s (g1 x rest e)⟩
theorem lv_gr {H : Hp} {v : V} (h : Lv K H v) : Gr K H v := by
  rcases h with ⟨i, rfl⟩ | ⟨t, h1, h2, h3, h4⟩
  · exact ⟨none, ⟨.int, by decide, isb_int i⟩, fun _ e => by cases e⟩
  · exact ⟨none, ⟨t, h2, h4⟩, fun _ e => by cases e⟩
theorem lv_gd {H : Hp} {v : V} (h : Lv K H v) : Gd K H v := by
  rcases h with ⟨i, rfl⟩ | ⟨t, h1, h2, h3, h4⟩
  · exact .inl ⟨.int, by decide, by decide, isb_int i⟩
  · exact .inl ⟨t, h2, h3, h4⟩
theorem lv_lf {H : Hp} {v : V} (h : Lv K H v) : ∃ o, Lf K H v o := by
  rcases h with ⟨i, rfl⟩ | ⟨t, h1, h2, h3, h4⟩
  · exact ⟨some i, rfl⟩
  · exact ⟨none, t, h1, h4⟩
theorem gd_thd {H : Hp} {v : V} (h : Gd K H v) : ∃ th, ThD K H v th ∧ sizesOk th ∧ Few5 th := by
  rcases h with ⟨t, h1, h2, h3⟩ | ⟨a, xs, rfl, h, l, g, g1⟩
  · refine ⟨none, ⟨t, h1, h2, h3⟩, ?_, ?_⟩
    · intro _ e
      cases e
    · intro _ _ e
      cases e
  · have ho := h.imp (fun h => h.1) id
    cases xs with
    | nil =>
      refine ⟨some [], ⟨a, [], rfl, ho, .nil⟩, fun rows' e => ?_, fun os rest e => ?_⟩
      · cases e
        exact ⟨by decide, fun os hos => by cases hos⟩
      · cases e
    | cons x xs =>
      obtain ⟨o, hx, lx⟩ := g1 x xs rfl
      obtain ⟨rows, hr⟩ := paired_of (F := fun v o => RwD K H v o ∧ ∀ os, o = some os → os.length < 4000) xs fun y hy => g y (List.mem_cons_of_mem _ hy)
      refine ⟨some (o :: rows), ⟨a, x :: xs, rfl, ho, .cons hx (L2.Paired.mapP hr fun _ _ q => q.1)⟩, fun rows' e => ?_, fun os rest e => ?_⟩
      · cases e
        refine ⟨by rw [List.length_cons, ← Paired.length hr]; exact l, fun os hos => ?_⟩
        rcases List.mem_cons.mp hos with e | hos
        · rcases lx os e.symm with h | h <;> omega
        · obtain ⟨y, _, hy⟩ := Pd.mem' hr hos
          exact hy.2 os rfl
      · cases e
        rcases lx os rfl with h | h
        · exact .inl h
        · exact .inr h.1
/-- a tuple of leaves is a row -/
theorem gr_tup {H : Hp} {a : Addr} {xs : List V} (h : Rd H a (.tup xs)) (l : xs.length ≤ 5 ∨ (9 ≤ xs.length ∧ xs.length < 4000)) (g : ∀ x ∈ xs, Lv K H x) : Gr K H (.ref a) := by
  obtain ⟨os, ho⟩ := paired_of (F := Lf K H) xs fun v hv => lv_lf (g v hv)
  exact ⟨some os, ⟨a, xs, rfl, h, ho⟩, fun os' e => by cases e; rw [← Paired.length ho]; exact l⟩
theorem ge_non : GE (Lv K) (tC .non) := fun σ H Q q => q H _ (fun _ _ z => z) (.inr ⟨.none, by decide, by decide, by decide, .base .non⟩)
theorem ge_bl (b : Bool) : GE (Lv K) (tC (.bl b)) := fun σ H Q q => q H _ (fun _ _ z => z) (.inr ⟨.bool, by decide, by decide, by decide, .base (.bl b)⟩)
theorem ge_str (b : Str) : GE (Lv K) (tC (.str b)) := fun σ H Q q => q H _ (fun _ _ z => z) (.inr ⟨.str, by decide, by decide, by decide, .base (.str b)⟩)
theorem ge_int (b : Int) : GE (Lv K) (tC (.int b)) := fun σ H Q q => q H _ (fun _ _ z => z) (.inl ⟨b, rfl⟩)
theorem ge_neg {f : Int → V} (hf : ∀ i, ∃ j, f i = .int j := by intro i; exact ⟨_, rfl⟩) : GE (Lv K) (tUn (rU f) (tC (.int 1))) := fun σ H Q q => ⟨1, rfl, q H _ (fun _ _ z => z) (.inl (hf 1))⟩
theorem ge_pow {f : Int → Int → V} (hf : ∀ i j, ∃ k, f i j = .int k := by intro i j; exact ⟨_, rfl⟩) : GE (Lv K) (tOp (rI CPow f) (tC (.int 10)) (tC (.int 20))) := fun σ H Q q =>
  ⟨10, 20, rfl, rfl, ⟨by decide, by decide, by decide⟩, q H _ (fun _ _ z => z) (.inl (hf 10 20))⟩
theorem ge_gr {te : TE} (h : GE (Lv K) te) : GE (Gr K) te := fun σ H Q q => h σ H Q fun H' v s hv => q H' v s (lv_gr hv)
theorem ge_gd {te : TE} (h : GE (Lv K) te) : GE (Gd K) te := fun σ H Q q => h σ H Q fun H' v s hv => q H' v s (lv_gd hv)
theorem ge_dict : GE (Gd K) tDNewT := fun σ H Q q p hp => q _ _ (same_new hp) (.inl ⟨.dict, by decide, by decide, .base (.dT upd_same)⟩)
theorem ge_tupR {n : Nat} {ta : TA} (hn : n ≤ 5) (h : GA (Lv K) n ta) : GE (Gr K) (tTup ta) := fun σ H Q q => by
  refine h σ H _ fun H1 vs s1 hvs hl => ⟨sz_le (by omega), fun p hp => q _ _ (s1.trans (same_new hp)) (gr_tup (.inl upd_same) (.inl (by omega)) fun x hx => lv_st _ _ _ (same_new hp) (hvs x hx))⟩
theorem ge_tupD {n : Nat} {ta : TA} (hn : n ≤ 4) (h : GA (Gr K) n ta) : GE (Gd K) (tTup ta) := fun σ H Q q => by
  refine h σ H _ fun H1 vs s1 hvs hl => ⟨sz_le (by omega), fun p hp => q _ _ (s1.trans (same_new hp)) (gd_mk (.inr (.inl upd_same)) (by omega) fun x hx => gr_st _ _ _ (same_new hp) (hvs x hx))⟩
theorem ge_lstD {n : Nat} {ta : TA} (hn : n ≤ 4) (h : GA (Gr K) n ta) : GE (Gd K) (tLst ta) := fun σ H Q q => by
  refine h σ H _ fun H1 vs s1 hvs hl => ⟨sz_le (by omega), fun p hp => q _ _ (s1.trans (same_new hp)) (gd_mk (.inl ⟨upd_same, by omega⟩) (by omega) fun x hx => gr_st _ _ _ (same_new hp) (hvs x hx))⟩
/-- a display of things -/
theorem ge_disp {F : Hp → V → Prop} {n : Nat} {ta : TA} {σ : L2.St} {H : Hp} {Q : VK} (st : Stb F) (hn : n ≤ 1000) (h : GA F n ta) (q : ∀ H' p xs, Same H H' → H p = none → H' p = some (.lst xs) → (∀ v ∈ xs, F H' v) → xs.length = n → Q (.ref p) H') : tLst ta σ H Q := by
  refine h σ H _ fun H1 vs s1 hvs hl => ⟨sz_le (by omega), fun p hp => q _ p vs (s1.trans (same_new hp)) (none_of s1 hp) upd_same (fun x hx => st _ _ _ (same_new hp) (hvs x hx)) hl⟩
end
/-! ### what stands while the tape goes on -/
theorem Tape.at {H : Hp} {t L : Addr} {ns : List Int} (h : Tape H t L ns) : ∃ i r m c : Int, H t = some (.lst [.ref L, .int i, .int r, .int m, .int c]) := by
  obtain ⟨i, r, m, c, h, _⟩ := h
  exact ⟨i, r, m, c, h⟩
section
variable {K : PySem.W.Frag} {t L : Addr} {ns : List Int} {H H' : Hp}
theorem Tp.ne (h : Tp t L ns H H') {a : Addr} {o : HO} (q : H a = some o) (hl : ∀ xs, o ≠ .lst xs) : a ≠ t := fun e => by
  obtain ⟨i, r, m, c, h1⟩ := h.t0.at
  rw [e, h1] at q
  cases q
  exact hl _ rfl
theorem Tp.fk (h : Tp t L ns H H') : FK H H' := fun b o u q => h.keep q (h.ne q fun _ z => nomatch z)
theorem Tp.rd (h : Tp t L ns H H') {a : Addr} {xs : List V} (q : Rd H a (.tup xs)) : Rd H' a (.tup xs) := q.imp (h.tk _ _) fun ⟨o, q⟩ => ⟨o, h.fk _ _ _ q⟩
theorem Tp.tyx (h : Tp t L ns H H') {v : V} {u : Bt} (q : IsB K H v u) : IsB K H' v u := by
  unfold IsB at q ⊢
  generalize Value.type u.nm = z at q ⊢
  cases q with
  | base b => cases b with
    | non => exact .base .non
    | bl x => exact .base (.bl x)
    | int x => exact .base (.int x)
    | str x => exact .base (.str x)
    | flt x => exact .base (.flt x)
    | @lst a xs q =>
      by_cases e : a = t
      · obtain ⟨i, r, m, c, h1⟩ := h.t1.at
        rw [e]
        exact .base (.lst h1)
      · exact .base (.lst (h.keep q e))
    | frz q => exact .base (.frz (h.fk _ _ _ q))
    | tup q => exact .base (.tup (h.tk _ _ q))
    | dK q => exact .base (.dK (h.keep q (h.ne q fun _ z => nomatch z)))
    | dT q => exact .base (.dT (h.keep q (h.ne q fun _ z => nomatch z)))
    | ins q a b c d f => exact .base (.ins (h.keep q (h.ne q fun _ z => nomatch z)) a b c d f)
  | byt b => exact .byt b
  | set q => exact .set (h.keep q (h.ne q fun _ z => nomatch z))
  | kList q c => exact .kList q c
  | kTuple q c => exact .kTuple q c
  | kDict q c => exact .kDict q c
  | fTuple q => exact .fTuple (h.fk _ _ _ q)
  | fDict q => exact .fDict (h.fk _ _ _ q)
theorem Tp.lf (h : Tp t L ns H H') {v : V} {o : Option Int} (q : Lf K H v o) : Lf K H' v o := by
  cases o with
  | some i => exact q
  | none =>
    obtain ⟨u, hn, ht⟩ := q
    exact ⟨u, hn, h.tyx ht⟩
theorem Tp.rwd (h : Tp t L ns H H') {v : V} {o : Option (List (Option Int))} (q : RwD K H v o) : RwD K H' v o := by
  cases o with
  | some os =>
    obtain ⟨a, xs, e, ha, hp⟩ := q
    exact ⟨a, xs, e, h.rd ha, L2.Paired.mapP hp fun _ _ q => h.lf q⟩
  | none =>
    obtain ⟨u, hn, ht⟩ := q
    exact ⟨u, hn, h.tyx ht⟩
theorem Tp.gr (h : Tp t L ns H H') {v : V} (q : Gr K H v) : Gr K H' v := by
  obtain ⟨o, q, l⟩ := q
  exact ⟨o, h.rwd q, l⟩
theorem Tp.gr1 (h : Tp t L ns H H') {v : V} (q : Gr1 K H v) : Gr1 K H' v := by
  obtain ⟨o, q, l⟩ := q
  exact ⟨o, h.rwd q, l⟩
theorem Tp.gd (h : Tp t L ns H H') {v : V} (q : Gd K H v) : Gd K H' v := by
  rcases q with ⟨u, h1, h2, h3⟩ | ⟨a, xs, e, hx, l, g, g1⟩
  · exact .inl ⟨u, h1, h2, h.tyx h3⟩
  · refine .inr ⟨a, xs, e, hx.imp (fun hx => ⟨h.keep hx.1 fun e => ?_, hx.2⟩) h.rd, l, fun x hx => h.gr1 (g x hx), fun x rest e => h.gr (g1 x rest e)⟩
    obtain ⟨i, r, m, c, h1⟩ := h.t0.at
    have hx1 := hx.1
    rw [e, h1] at hx1
    cases hx1
    exact hx.2 rfl
end
section
variable {P : Program} {w : World} {K : PySem.W.Frag} {mg : Str → Option Value} {base : Heap} {ad : Ad}
def spOdd (K : PySem.W.Frag) : Sp := fun vs H Q _ => ∃ t L ns, vs = [.ref t] ∧ Tape H t L ns ∧ ∀ H' v, Tp t L ns H H' → Gd K H' v → Q v H'
end
end Ev

set_option maxRecDepth 100000
set_option maxHeartbeats 400000
namespace Ev
open PySem PySem.Spec PyProof.Rows L2 EvM
section
variable {P : Program} {w : World} {K : PySem.W.Frag} {mg : Str → Option Value} {base : Heap} {ad : Ad}
theorem seq_disp {F : Hp → V → Prop} {n i : Nat} {ta : TA} {b : TS} {D : Ends} {σ : L2.St} {H : Hp} (st : Stb F) (hn : n ≤ 1000) (h : GA F n ta)
    (q : ∀ H' p xs, Same H H' → H p = none → H' p = some (.lst xs) → (∀ v ∈ xs, F H' v) → xs.length = n → b D (σ.set i (some (.ref p))) H') : tSeq (tAsg (tLst ta) (gName i)) b D σ H :=
  ge_disp (σ := σ) (H := H) (Q := fun x H' => gName i x σ H' fun σ' H'' => b D σ' H'') st hn h q
theorem seq_cat {F : Hp → V → Prop} {n i j : Nat} {ta : TA} {b : TS} {D : Ends} {σ : L2.St} {H : Hp} {p1 : Addr} {xs : List V} (st : Stb F) (hn : n ≤ 1000) (h : GA F n ta) (e : σ[j]? = some (some (.ref p1))) (h1 : H p1 = some (.lst xs)) (l1 : xs.length ≤ 1000) (g1 : ∀ v ∈ xs, F H v)
    (q : ∀ H' c zs, Same H H' → H' c = some (.lst zs) → (∀ v ∈ zs, F H' v) → zs.length = xs.length + n → b D (σ.set i (some (.ref c))) H') : tSeq (tAsg (tOp rCat (tVar j) (tLst ta)) (gName i)) b D σ H := by
  refine ⟨_, e, ?_⟩
  refine ge_disp (σ := σ) (H := H) (Q := fun y H' => rCat (.ref p1) y H' fun x H' => gName i x σ H' fun σ' H'' => b D σ' H'') st hn h fun H2 p2 ys s2 _ h2 g2 l2 => ?_
  refine ⟨p1, p2, xs, ys, rfl, rfl, s2 _ _ h1, h2, sz_le (by omega), fun c hc => ?_⟩
  have s3 := same_new (o := .lst (xs ++ ys)) hc
  refine q _ c (xs ++ ys) (s2.trans s3) upd_same (fun v hv => (List.mem_append.mp hv).elim (fun h => st _ _ _ (s2.trans s3) (g1 v h)) fun h => st _ _ _ s3 (g2 v h)) (by rw [List.length_append, l2])
theorem ok_l_odd (T : Txt K mg) : Cal P w K mg base CX0 2 "_law_odd" (spOdd K) := by
  refine T.d_l_odd.ok sc_l_odd (fun vs H Q E h => ?_) (fun f cdv A outer s H vs Q E hr h => ?_)
  · obtain ⟨t, L, ns, rfl, _⟩ := h
    rfl
  obtain ⟨t, L, ns, rfl, tape0, q⟩ := h
  refine ⟨_, (pss_cons (ps_set (i := 1) sc_l_odd.nd rfl (Or.inl rfl) (pe_lst (pa_cons pe_non (pa_cons pe_bl (pa_cons pe_bl (pa_cons pe_int (pa_cons pe_int (pa_cons (pe_un un_neg pe_int) (pa_cons (pe_op op_pow pe_int pe_int) (pa_cons pe_str (pa_cons pe_str (pa_cons (pe_tup pa_nil) (pa_cons (pe_lst pa_nil) (pa_cons pe_dnewT (pa_cons (pe_tup (pa_cons pe_int pa_nil)) (pa_cons (pe_lst (pa_cons pe_int pa_nil)) (pa_cons (pe_tup (pa_cons pe_int (pa_cons pe_int pa_nil))) (pa_cons (pe_tup (pa_cons pe_int (pa_cons pe_int pa_nil))) (pa_cons (pe_tup (pa_cons pe_int (pa_cons pe_int pa_nil))) (pa_cons (pe_tup (pa_cons pe_bl pa_nil)) pa_nil))))))))))))))))))))
  (pss_cons (ps_set (i := 1) sc_l_odd.nd rfl (Or.inl rfl) (pe_op op_cat (pv 1) (pe_lst (pa_cons (pe_tup (pa_cons (pe_tup (pa_cons pe_int (pa_cons pe_int pa_nil))) pa_nil)) (pa_cons (pe_tup (pa_cons (pe_tup (pa_cons pe_int (pa_cons pe_int pa_nil))) pa_nil)) (pa_cons (pe_tup (pa_cons (pe_tup (pa_cons pe_int (pa_cons pe_int pa_nil))) (pa_cons (pe_tup (pa_cons pe_int (pa_cons pe_int pa_nil))) pa_nil))) (pa_cons (pe_tup (pa_cons (pe_tup (pa_cons pe_int (pa_cons pe_int pa_nil))) pa_nil)) (pa_cons (pe_tup (pa_cons pe_int (pa_cons pe_int (pa_cons pe_int pa_nil)))) (pa_cons (pe_tup (pa_cons pe_str pa_nil)) (pa_cons (pe_tup (pa_cons (pe_un un_neg pe_int) pa_nil)) (pa_cons (pe_tup (pa_cons pe_int (pa_cons pe_non pa_nil))) (pa_cons pe_str pa_nil))))))))))))
  (pss_one (ps_ret (pe_ix (r := rIxL K) ix_list (pv 1) (pe_fn (ok_l_pick T) hr (by decide) rfl (pa_cons (pv 0) (pa_cons (pe_callB call_len_seq (by rfl) T.n_len (by decide +kernel) (pa_cons (pv 1) pa_nil)) pa_nil))) (fun _ _ => rfl)))))), ?_⟩
  refine seq_disp (n := 18) (gd_st (K := K)) (by decide) (ga_cons gd_st (ge_gd ge_non) (ga_cons gd_st (ge_gd (ge_bl _)) (ga_cons gd_st (ge_gd (ge_bl _)) (ga_cons gd_st (ge_gd (ge_int _)) (ga_cons gd_st (ge_gd (ge_int _)) (ga_cons gd_st (ge_gd ge_neg) (ga_cons gd_st (ge_gd ge_pow) (ga_cons gd_st (ge_gd (ge_str _)) (ga_cons gd_st (ge_gd (ge_str _)) (ga_cons gd_st (ge_tupD (by decide) ga_nil) (ga_cons gd_st (ge_lstD (by decide) ga_nil) (ga_cons gd_st ge_dict (ga_cons gd_st (ge_tupD (by decide) (ga_cons gr_st (ge_gr (ge_int _)) ga_nil)) (ga_cons gd_st (ge_lstD (by decide) (ga_cons gr_st (ge_gr (ge_int _)) ga_nil)) (ga_cons gd_st (ge_tupD (by decide) (ga_cons gr_st (ge_gr (ge_int _)) (ga_cons gr_st (ge_gr (ge_int _)) ga_nil))) (ga_cons gd_st (ge_tupD (by decide) (ga_cons gr_st (ge_gr (ge_int _)) (ga_cons gr_st (ge_gr (ge_int _)) ga_nil))) (ga_cons gd_st (ge_tupD (by decide) (ga_cons gr_st (ge_gr (ge_int _)) (ga_cons gr_st (ge_gr (ge_int _)) ga_nil))) (ga_cons gd_st (ge_tupD (by decide) (ga_cons gr_st (ge_gr (ge_bl _)) ga_nil)) ga_nil)))))))))))))))))) fun H1 p1 xs s1 _ h1 g1 l1 => ?_
  refine seq_cat (n := 9) (gd_st (K := K)) (by decide) (ga_cons gd_st (ge_tupD (by decide) (ga_cons gr_st (ge_tupR (by decide) (ga_cons lv_st (ge_int _) (ga_cons lv_st (ge_int _) ga_nil))) ga_nil)) (ga_cons gd_st (ge_tupD (by decide) (ga_cons gr_st (ge_tupR (by decide) (ga_cons lv_st (ge_int _) (ga_cons lv_st (ge_int _) ga_nil))) ga_nil)) (ga_cons gd_st (ge_tupD (by decide) (ga_cons gr_st (ge_tupR (by decide) (ga_cons lv_st (ge_int _) (ga_cons lv_st (ge_int _) ga_nil))) (ga_cons gr_st (ge_tupR (by decide) (ga_cons lv_st (ge_int _) (ga_cons lv_st (ge_int _) ga_nil))) ga_nil))) (ga_cons gd_st (ge_tupD (by decide) (ga_cons gr_st (ge_tupR (by decide) (ga_cons lv_st (ge_int _) (ga_cons lv_st (ge_int _) ga_nil))) ga_nil)) (ga_cons gd_st (ge_tupD (by decide) (ga_cons gr_st (ge_gr (ge_int _)) (ga_cons gr_st (ge_gr (ge_int _)) (ga_cons gr_st (ge_gr (ge_int _)) ga_nil)))) (ga_cons gd_st (ge_tupD (by decide) (ga_cons gr_st (ge_gr (ge_str _)) ga_nil)) (ga_cons gd_st (ge_tupD (by decide) (ga_cons gr_st (ge_gr ge_neg) ga_nil)) (ga_cons gd_st (ge_tupD (by decide) (ga_cons gr_st (ge_gr (ge_int _)) (ga_cons gr_st (ge_gr ge_non) ga_nil))) (ga_cons gd_st (ge_gd (ge_str _)) ga_nil))))))))) rfl h1 (by omega) g1 fun G c zs s3 h3 g3 l3 => ?_
  rw [l1] at l3
  have T3 : Tp t L ns H G := Tp.of tape0 (s1.trans s3)
  refine ⟨_, rfl, _, rfl, _, rfl, c, zs, rfl, .inl (.inl (.inl h3)), t, L, ns, zs.length, rfl, by omega, by omega, T3.t1, fun H4 d hd T4 => ?_⟩
  have hct : c ≠ t := fun e => by
    obtain ⟨i, r, m, k, e1⟩ := T3.t1.at
    rw [e, e1] at h3
    cases h3
    cases l3
  refine ⟨c, zs, (d : Int), zs[d], rfl, rfl, .inl (.inl (T4.keep h3 hct)), atI_nat (List.getElem?_eq_getElem hd), ?_⟩
  exact q _ _ (T3.trans T4) (T4.gd (g3 _ (List.getElem_mem hd)))
end
end Ev

set_option maxRecDepth 100000
set_option maxHeartbeats 4000000
namespace Ev
open PySem PySem.Spec PyProof.Rows L2 EvM
/-- isinstance(e, c), e the exception that the suite holds, of an own class, with a dict or none -/
def rIsX (K : PySem.W.Frag) (a : Addr) (cls : Value) (d : Option Addr) : List V → Hp → VK → Prop := fun xs H Q => ∃ (D : Addr) (c : V) (cv : Value) (b : Bool), xs = [.ref a, c] ∧ cls = .ref D ∧ ExcC K D ∧
  (d = none ∨ ∃ dd fs, d = some dd ∧ H dd = some (.xd fs)) ∧ (∀ u, RelV c u → u = cv) ∧ PySem.W.kitOne K (.ref D) cv = some b ∧ Q (.bl b) H
theorem call_isX {X : Cx} {a : Addr} {oe : Obj} {cls : Value} {d : Option Addr} {pn : List (Addr × Obj)} (hz : Zc cls d oe) (hf : ∃ vs, oe.data = .fields vs) : CallR (X.suite a ((a, oe) :: pn)) (.builtin "isinstance") (rIsX X.K a cls d) := by
  intro pins s σ H xs us Q I r h
  obtain ⟨D, c, cv, b, rfl, rfl, C, hd, hcv, e, q⟩ := h
  cases r with
  | cons rx rr =>
    cases rr with
    | cons rt rr =>
      cases rr
      cases rx
      have ec := hcv _ rt
      subst ec
      obtain ⟨hget, _⟩ := I.pin (a, oe) (List.mem_append.mpr (.inl List.mem_cons_self))
      obtain ⟨vs, hv⟩ := hf
      have J : ∃ od, PySem.W.InstAt s.heap a oe D od := by
        rcases hd with rfl | ⟨dd, fs, rfl, hx⟩
        · refine ⟨none, ?_⟩
          obtain ⟨oc, od, oda, osl⟩ := oe
          obtain ⟨h1, h2⟩ := hz
          dsimp only at h1 h2 hv
          subst h1 h2 hv
          exact ⟨hget, rfl, rfl, trivial⟩
        · obtain ⟨mA, hns, _⟩ := I.hok dd _ hx
          obtain ⟨od, ho, _⟩ := lookIn_ns hns
          exact ⟨some od, hget, hz.1, by unfold PySem.W.notCls; rw [hv] <;> rfl, by rw [hz.2]; exact ho⟩
      obtain ⟨od, J⟩ := J
      refine PySem.W.kia_one (PySem.W.kitx_exc (od := od) ?_ C.hg C.hk C.hs C.ha C.hn C.ht C.hm) I.kIn J e (fun z => nomatch z) fun tk => ⟨.bl b, H, I.kept (t' := tk) fun _ _ z => z, rfl, q⟩
      obtain ⟨cd, hc, _⟩ := PySem.W.any_some C.hd
      rw [hc]
      rfl
end Ev

set_option maxRecDepth 100000
set_option maxHeartbeats 4000000
namespace Ev
open PySem PySem.Spec PyProof.Rows L2 EvM
theorem pe_fnS {X : Cx} {k j : Nat} {x : Str} {sp : Sp} {p pos : Pos} {e : Expr} {es : List Expr} {t : TA} {W : WX} (c : Cal X.prog X.w X.K X.mg X.base (L2.CX X.prog X.w) k x sp) (hr : Room j X.A) (hk : k ≤ j) (hg : Gl X x) (tk : Takes X W) (ha : PA X (e :: es) t)
    (hdb : (x == ("__debug__" : Str)) = false := by decide) (he : starEach (e :: es) X.env = (false, eval e X.env) :: starEach es X.env := by rfl) (hpl : (backTo pos (starEach es X.env)).any (·.1) = false := by rfl) :
    PE X (.Call (.Name x p) (e :: es) [] pos) (tCallS sp (WE W) t) := by
  obtain ⟨f, fd, ps, F, b, kp, m⟩ := c.ex
  exact pe_callS F (hr.mono hk) hg m kp b (fun σ => passAt tk σ) ha hdb he hpl
section
variable {P : Program} {w : World} {K : PySem.W.Frag} {mg : Str → Option Value} {base : Heap} {ad : Ad}
def spTried (K : PySem.W.Frag) (ad : Ad) : Sp := fun vs H Q _ => ∃ (k : Int) (v : V), vs = [.int k, v] ∧ (((k = 0 ∨ k = 1) ∧ ∃ th, ThD K H v th ∧ sizesOk th ∧ Few5 th ∧ ∀ H', Same H H' → Q (.str (if areRows th = true then "told" else "rows")) H') ∨
  (k = 2 ∧ ∃ x, v = .ref x ∧ IsWeb ad.CW H x 6 [] ∧ ∀ H', Same H H' → Q (.int 5) H'))
theorem ok_l_tried (T : Txt K mg) (F : Cf K mg ad) : Cal P w K mg base CX0 10 "_law_tried" (spTried K ad) := by
  refine T.d_l_tried.ok sc_l_tried (fun vs H Q E h => ?_) (fun f cdv A outer s H vs Q E hr h => ?_)
  · obtain ⟨k, v, rfl, _⟩ := h
    rfl
  obtain ⟨k, v, rfl, hh⟩ := h
  refine ⟨_, (pss_cons (ps_set (i := 2) sc_l_tried.nd rfl (Or.inl rfl) pe_str)
  (pss_cons (ps_try_as (i := 3) (Wout := fun _ _ _ _ => False) rfl rfl sc_l_tried.nd rfl rfl ⟨rfl, by decide, Or.inl F.mO⟩ takes0
    (fun W pn xe tk _ => pss_one (ps_if (pt_cmpR op_eq (pv 0) pe_int (nomark _)) (pss_one (ps_expr (pe_fnS (W := W) (ok_common_web T F) hr (by decide) rfl tk (pa_cons (pv 1) pa_nil))))
      (pss_one (ps_if (pt_cmpR op_eq (pv 0) pe_int (nomark _)) (pss_one (ps_expr (pe_fnS (W := W) (ok_are_all T F) hr (by decide) rfl tk (pa_cons (pv 1) pa_nil))))
        (pss_one (ps_expr (pe_fnS (W := W) (ok_fewest_rows T F) hr (by decide) rfl tk (pa_cons (pv 1) pa_nil))))))))
    (fun a oe cls d pn hz hf => pss_cons (ps_set (i := 2) sc_l_tried.nd rfl (Or.inl rfl) pe_str)
      (pss_cons (ps_if (pt_val (pe_callB (r := rIsX K a cls d) (call_isX hz hf) (by rfl) T.n_isinstance (by decide +kernel) (pa_cons (pv 3) (pa_cons (pe_gl (v := .ref ad.CN) rfl ⟨_, F.mN, rfl⟩) pa_nil)))) (pss_one (ps_set (i := 2) sc_l_tried.nd rfl (Or.inl rfl) pe_str)) pss_nil)
      (pss_one (ps_if (pt_val (pe_callB (r := rIsX K a cls d) (call_isX hz hf) (by rfl) T.n_isinstance (by decide +kernel) (pa_cons (pv 3) (pa_cons (pe_gl (v := .ref ad.CT) rfl ⟨_, F.mT, rfl⟩) pa_nil)))) (pss_one (ps_set (i := 2) sc_l_tried.nd rfl (Or.inl rfl) (pe_xf F.xT F.nT hz hf (pv 3)))) pss_nil)))))
  (pss_one (ps_ret (pv 2))))), ?_⟩
  rcases hh with ⟨hk, th, hth, hsz, hf5, q⟩ | ⟨rfl, x, rfl, hw, q⟩
  · cases c : areRows th with
    | true =>
      obtain ⟨a, rows, n, rfl, hl, hp, hne, h1, h5, hz⟩ := thd_rows hth c hf5
      rw [if_pos c] at q
      rcases hk with rfl | rfl
      · refine ⟨_, rfl, rfl, _, rfl, ?_⟩
        rw [decide_eq_true rfl]
        refine iteT ⟨_, rfl, .inl ⟨a, rows, n, rfl, ⟨hl, hp, hne, h1, h5, hz⟩, fun H1 x s1 _ => ⟨_, rfl, q H1 s1⟩⟩⟩
      · refine ⟨_, rfl, rfl, _, rfl, ?_⟩
        rw [decide_eq_false (by decide)]
        refine iteF ⟨_, rfl, rfl, _, rfl, ?_⟩
        rw [decide_eq_true rfl]
        refine iteT ⟨_, rfl, .inl ⟨a, rows, n, rfl, ⟨hl, hp, hne, h1, h5, hz⟩, fun H1 s1 => ⟨_, rfl, q H1 s1⟩⟩⟩
    | false =>
      rw [if_neg (by rw [c]; decide)] at q
      rcases hk with rfl | rfl
      · refine ⟨_, rfl, rfl, _, rfl, ?_⟩
        rw [decide_eq_true rfl]
        refine iteT ⟨_, rfl, .inr ⟨v, th, rfl, hth, hsz, c, fun H1 s1 => ⟨true, F.hNO, fun _ a ha => ?_, fun e => nomatch e⟩⟩⟩
        refine ⟨_, rfl, ad.CN, .ref ad.CN, .ref ad.CN, true, rfl, rfl, F.eN, .inl rfl, fun u hu => hu, F.iNN, _, rfl, iteT ?_⟩
        refine ⟨_, rfl, ad.CN, .ref ad.CT, .ref ad.CT, false, rfl, rfl, F.eN, .inl rfl, fun u hu => hu, F.iNT, _, rfl, iteF ?_⟩
        exact ⟨_, rfl, q H1 s1⟩
      · refine ⟨_, rfl, rfl, _, rfl, ?_⟩
        rw [decide_eq_false (by decide)]
        refine iteF ⟨_, rfl, rfl, _, rfl, ?_⟩
        rw [decide_eq_true rfl]
        refine iteT ⟨_, rfl, .inr ⟨v, th, rfl, hth, hsz, c, fun H1 s1 => ⟨true, F.hNO, fun _ a ha => ?_, fun e => nomatch e⟩⟩⟩
        refine ⟨_, rfl, ad.CN, .ref ad.CN, .ref ad.CN, true, rfl, rfl, F.eN, .inl rfl, fun u hu => hu, F.iNN, _, rfl, iteT ?_⟩
        refine ⟨_, rfl, ad.CN, .ref ad.CT, .ref ad.CT, false, rfl, rfl, F.eN, .inl rfl, fun u hu => hu, F.iNT, _, rfl, iteF ?_⟩
        exact ⟨_, rfl, q H1 s1⟩
  · refine ⟨_, rfl, rfl, _, rfl, ?_⟩
    rw [decide_eq_false (by decide)]
    refine iteF ⟨_, rfl, rfl, _, rfl, ?_⟩
    rw [decide_eq_false (by decide)]
    refine iteF ⟨_, rfl, x, 6, [], rfl, hw, by decide, .inr ⟨by decide, fun H1 d s1 hd => ⟨true, F.hTO, fun _ a ha => ?_, fun e => nomatch e⟩⟩⟩
    refine ⟨_, rfl, ad.CT, .ref ad.CN, .ref ad.CN, false, rfl, rfl, F.eT, .inr ⟨d, _, rfl, hd⟩, fun u hu => hu, F.iTN, _, rfl, iteF ?_⟩
    refine ⟨_, rfl, ad.CT, .ref ad.CT, .ref ad.CT, true, rfl, rfl, F.eT, .inr ⟨d, _, rfl, hd⟩, fun u hu => hu, F.iTT, _, rfl, iteT ?_⟩
    refine ⟨_, rfl, rfl, rfl, d, _, .int 5, rfl, hd, rfl, ?_⟩
    exact ⟨_, rfl, q H1 s1⟩
end
end Ev

set_option maxRecDepth 100000
set_option maxHeartbeats 4000000
namespace Ev
open PySem PySem.Spec PyProof.Rows L2 EvM
/-! ### lists of rows, webs: they stand while the tape goes on -/
section
variable {t L : Addr} {ns : List Int} {H H' : Hp}
theorem Tp.ne_refs (h : Tp t L ns H H') {a : Addr} {xs : List V} (q : H a = some (.lst xs)) (hx : ∀ x ∈ xs, ∃ p, x = .ref p) : a ≠ t := fun e => by
  obtain ⟨i, r, m, c, h1⟩ := h.t0.at
  rw [e, h1] at q
  cases q
  obtain ⟨p, hp⟩ := hx (.int i) (by simp)
  cases hp
theorem tns_refs {xs : List V} {rs : List (List Nat)} (h : Paired (Tn H) xs rs) : ∀ x ∈ xs, ∃ p, x = .ref p := fun x hx => by
  obtain ⟨r, _, a, e, _⟩ := Pd.mem h hx
  exact ⟨a, e⟩
theorem tfs_refs {xs : List V} {rs : List (List Nat)} (h : Paired (Tf H) xs rs) : ∀ x ∈ xs, ∃ p, x = .ref p := fun x hx => by
  obtain ⟨r, _, a, _, e, _⟩ := Pd.mem h hx
  exact ⟨a, e⟩
theorem Lt.tp {a : Addr} {rs : List (List Nat)} (q : Lt H a rs) (h : Tp t L ns H H') : Lt H' a rs := by
  obtain ⟨xs, e, p⟩ := q
  exact ⟨xs, h.keep e (h.ne_refs e (tns_refs p)), tns_tk p h.tk⟩
theorem Lf'.tp {a : Addr} {rs : List (List Nat)} (q : Lf' H a rs) (h : Tp t L ns H H') : Lf' H' a rs := by
  obtain ⟨xs, e, p⟩ := q
  exact ⟨xs, h.keep e (h.ne_refs e (tfs_refs p)), tfs_fk p h.fk⟩
theorem IsWeb.tp {C x : Addr} {n : Nat} {ps : Ps} (q : IsWeb C H x n ps) (h : Tp t L ns H H') : IsWeb C H' x n ps := by
  obtain ⟨dx, fs, e, b, l, m, ef, h1, h2⟩ := q
  exact ⟨dx, fs, h.keep e (h.ne e fun _ z => nomatch z), b, l, m, ef, h1.tk h.tk, h2.tp h⟩
end
theorem Lf'.ltf {H : Hp} {a : Addr} {rs : List (List Nat)} (h : Lf' H a rs) : LTf H a rs := by
  obtain ⟨xs, e, p⟩ := h
  exact ⟨xs, .inl e, p⟩
theorem rI0_add {i j k : Int} {H : Hp} {Q : VK} (e : i + j = k) (h : Q (.int k) H) : rI0 (fun i j => V.int (i + j)) (.int i) (.int j) H Q := ⟨i, j, rfl, rfl, (by subst e; exact h)⟩
section
variable {K : PySem.W.Frag} {ad : Ad}
theorem webK {H1 : Hp} {e x dx : Addr} {n : Nat} {ps : Ps} {Z : VK} (hx : H1 x = none) (hdx : H1 dx = none) (hne : dx ≠ x) (he : Tt H1 e ps) (hpo : Po n ps) (h1 : 1 ≤ n) (h8 : n ≤ 8) (hz : ps.length < 64) (q : ∀ H', Same H1 H' → IsWeb ad.CW H' x n ps → Z .non H') :
    spWebI K ad [.ref x, .int ((n : Nat) : Int), .ref e] (upd (upd H1 dx (.own x)) x (.ins ad.CW dx [])) Z E0 := by
  have s4 : Same H1 _ := (same_new (o := .own x) hdx).trans (same_new (o := .ins ad.CW dx []) (p := x) (by rw [upd_ne (Ne.symm hne)]; exact hx))
  refine ⟨x, dx, e, n, ps, rfl, upd_same, he.same s4, hpo, h1, h8, hz, fun H' fs sB hx' hw => q H' (fun c u hc => ?_) ⟨dx, fs, hx', hw⟩⟩
  have hcx : c ≠ x := fun z => by rw [z, hx] at hc; cases hc
  exact sB c u hcx (s4 _ _ hc)
end
theorem Res.uniq {n : Nat} {ps : Ps} {k j : Nat} {s u : Ch} (h : Res n ps k s) (g : Res n ps j u) : k = j ∧ s = u := by
  rcases h with ⟨rfl, h⟩ | ⟨rfl, h0, h⟩ <;> rcases g with ⟨rfl, g⟩ | ⟨rfl, g0, g⟩
  · exact ⟨rfl, Option.some.inj (h.symm.trans g)⟩
  · rw [h] at g0
    cases g0
  · rw [g] at h0
    cases h0
  · exact ⟨rfl, Option.some.inj (h.symm.trans g)⟩
end Ev
namespace Ev
open PySem PySem.Spec PyProof.Rows L2 EvM
theorem ifs_false {t : TT} {S b : TS} {D : Ends} {σ : L2.St} {H : Hp} (hc : ∀ Q : Bool → Hp → Prop, (∀ H', Same H H' → Q false H') → t σ H Q) (hr : ∀ H', Same H H' → b D σ H') : tSeq (tIfS t S tNext) b D σ H :=
  hc (fun c H' => if c = true then S { D with nx := b D } σ H' else tNext { D with nx := b D } σ H') fun H' s => iteF (hr H' s)
theorem nxset {i : Nat} {v : V} {σ : L2.St} {H : Hp} {b : TS} {D : Ends} (h : b D (σ.set i (some v)) H) : gName i v σ H ({ D with nx := b D } : Ends).nx := h
theorem atI_last {xs : List V} {v : V} (h : xs[xs.length - 1]? = some v) : atI xs (-1) = some v := by
  have hl : xs.length - 1 < xs.length := (List.getElem?_eq_some_iff.mp h).1
  unfold atI ixN
  rw [if_neg (by decide), if_pos (by omega)]
  show xs[((-1 : Int) + (xs.length : Int)).toNat]? = some v
  rw [show ((-1 : Int) + (xs.length : Int)).toNat = xs.length - 1 by omega]
  exact h
end Ev
namespace Ev
open PySem PySem.Spec PyProof.Rows L2 EvM
/-! ### things made beside the tape and the row -/
section
variable (K : PySem.W.Frag) (t L : Addr) (ns : List Int) (ra : Addr) (row : List Nat) (σ : L2.St)
def GEt (te : TE) : Prop := ∀ (H : Hp) (Q : VK), Tape H t L ns → Tf H (.ref ra) row → (∀ H' v, Tp t L ns H H' → Gd K H' v → Q v H') → te σ H Q
def GAt (n : Nat) (ta : TA) : Prop := ∀ (H : Hp) (Q : List V → Hp → Prop), Tape H t L ns → Tf H (.ref ra) row → (∀ H' vs, Tp t L ns H H' → (∀ v ∈ vs, Gd K H' v) → vs.length = n → Q vs H') → ta σ H Q
end
section
variable {K : PySem.W.Frag} {t L : Addr} {ns : List Int} {ra : Addr} {row : List Nat} {σ : L2.St}
theorem gat_nil : GAt K t L ns ra row σ 0 tNil := fun H Q tp _ q => q H [] (Tp.rfl' tp) (by simp) rfl
theorem gat_cons {n : Nat} {te : TE} {ta : TA} (h : GEt K t L ns ra row σ te) (g : GAt K t L ns ra row σ n ta) : GAt K t L ns ra row σ (n + 1) (tCons te ta) := fun H Q tp hr q => by
  refine h H _ tp hr fun H1 v T1 hv => g H1 _ T1.t1 (hr.fk T1.fk) fun H2 vs T2 hvs hl => q H2 (v :: vs) (T1.trans T2) (fun z hz => ?_) (by rw [List.length_cons, hl])
  rcases List.mem_cons.mp hz with rfl | hz
  · exact T2.gd hv
  · exact hvs z hz
theorem get_of {te : TE} (h : GE (Gd K) te) : GEt K t L ns ra row σ te := fun H Q tp _ q => h σ H Q fun H' v s hv => q H' v (Tp.of tp s) hv
theorem seq_dispT {n i : Nat} {ta : TA} {b : TS} {D : Ends} {H : Hp} (hn : n ≤ 1000) (h : GAt K t L ns ra row σ n ta) (tp : Tape H t L ns) (hr : Tf H (.ref ra) row)
    (q : ∀ H' p xs, Tp t L ns H H' → p ≠ t → H' p = some (.lst xs) → (∀ v ∈ xs, Gd K H' v) → xs.length = n → b D (σ.set i (some (.ref p))) H') : tSeq (tAsg (tLst ta) (gName i)) b D σ H := by
  refine h H (fun xs H1 => xs.length ≤ sizeLine ∧ ∀ p, H1 p = none → b D (σ.set i (some (.ref p))) (upd H1 p (.lst xs))) tp hr fun H1 vs T1 hvs hl => ⟨sz_le (by omega), fun p hp => ?_⟩
  have s := same_new (o := .lst vs) hp
  refine q _ p vs (T1.same s) (fun e => ?_) upd_same (fun x hx => gd_st _ _ _ s (hvs x hx)) hl
  obtain ⟨i, r, m, c, h1⟩ := T1.t1.at
  rw [e, h1] at hp
  cases hp
theorem seq_catT {n i j : Nat} {ta : TA} {b : TS} {D : Ends} {H : Hp} {p1 : Addr} {xs : List V} (hn : n ≤ 1000) (h : GAt K t L ns ra row σ n ta) (e : σ[j]? = some (some (.ref p1))) (h1 : H p1 = some (.lst xs)) (hpt : p1 ≠ t) (l1 : xs.length ≤ 1000) (g1 : ∀ v ∈ xs, Gd K H v) (tp : Tape H t L ns) (hr : Tf H (.ref ra) row)
    (q : ∀ H' c zs, Tp t L ns H H' → c ≠ t → H' c = some (.lst zs) → (∀ v ∈ zs, Gd K H' v) → zs.length = xs.length + n → b D (σ.set i (some (.ref c))) H') : tSeq (tAsg (tOp rCat (tVar j) (tLst ta)) (gName i)) b D σ H := by
  refine ⟨_, e, ?_⟩
  refine h H (fun ys H1 => ys.length ≤ sizeLine ∧ ∀ p, H1 p = none → rCat (.ref p1) (.ref p) (upd H1 p (.lst ys)) fun x H' => gName i x σ H' fun σ' H'' => b D σ' H'') tp hr fun H1 ys T1 hys hl => ⟨sz_le (by omega), fun p hp => ?_⟩
  have s := same_new (o := .lst ys) hp
  have T2 := T1.same s
  refine ⟨p1, p, xs, ys, rfl, rfl, T2.keep h1 hpt, upd_same, sz_le (by omega), fun c hc => ?_⟩
  have s3 := same_new (o := .lst (xs ++ ys)) hc
  refine q _ c (xs ++ ys) (T2.same s3) (fun e => ?_) upd_same (fun v hv => (List.mem_append.mp hv).elim (fun h => (T2.same s3).gd (g1 v h)) fun h => gd_st _ _ _ (s.trans s3) (hys v h)) (by rw [List.length_append, hl])
  obtain ⟨i, r, m, k, e1⟩ := T2.t1.at
  rw [e, e1] at hc
  cases hc
/-- a list of rows that was just made -/
theorem gd_lst {H : Hp} {p : Addr} {xs : List V} {Q : VK} {H0 : Hp} (T : Tp t L ns H0 H) (hp : H p = none) (l5 : xs.length ≠ 5) (l : xs.length < 4000) (g : ∀ x ∈ xs, Gr1 K H x) (g1 : ∀ x rest, xs = x :: rest → Gr K H x) (q : ∀ H' v, Tp t L ns H0 H' → Gd K H' v → Q v H') : Q (.ref p) (upd H p (.lst xs)) := by
  have s := same_new (o := .lst xs) hp
  exact q _ _ (T.same s) (.inr ⟨p, xs, rfl, .inl ⟨upd_same, l5⟩, l, fun x hx => gr1_st _ _ _ s (g x hx), fun x rest e => gr_st _ _ _ s (g1 x rest e)⟩)
/-- a tuple of leaves, of any small length -/
theorem gr1_tup {H : Hp} {a : Addr} {xs : List V} (h : Rd H a (.tup xs)) (l : xs.length < 4000) (g : ∀ x ∈ xs, Lv K H x) : Gr1 K H (.ref a) := by
  obtain ⟨os, ho⟩ := paired_of (F := Lf K H) xs fun v hv => lv_lf (g v hv)
  exact ⟨some os, ⟨a, xs, rfl, h, ho⟩, fun os' e => by cases e; rw [← Paired.length ho]; exact l⟩
theorem lv_int {H : Hp} {x : V} (h : ∃ i, x = .int i) : Lv K H x := .inl h
theorem nms_int {r : List Nat} : ∀ x ∈ r.map nm, ∃ i, x = V.int i := fun x hx => by
  obtain ⟨n, _, rfl⟩ := List.mem_map.mp hx
  exact ⟨_, rfl⟩
/-- a slice of a tuple of ints -/
theorem slA_ints {H : Hp} {a : Addr} {xs : List V} {lo hi : Option Int} {Q : VK} (h : Rd H a (.tup xs)) (hi' : ∀ x ∈ xs, ∃ i, x = V.int i) (q : ∀ H' c ys, Same H H' → Rd H' c (.tup ys) → ys.length ≤ xs.length → (∀ y ∈ ys, ∃ i, y = V.int i) → Q (.ref c) H') : rSlA K (.ref a) lo hi H Q := by
  refine ⟨a, xs, rfl, .inl h, fun _ => q H a xs (fun _ _ z => z) h (Nat.le_refl _) hi', fun _ p hp => q _ p (cutV xs lo hi) (same_new hp) (.inl upd_same) ?_ fun y hy => hi' y ?_⟩
  · unfold cutV
    have := List.length_take_le (HT.sIx xs.length xs.length hi - HT.sIx xs.length 0 lo) (xs.drop (HT.sIx xs.length 0 lo))
    rw [List.length_take, List.length_drop]
    omega
  · unfold cutV at hy
    exact List.mem_of_mem_drop (List.mem_of_mem_take hy)
end
end Ev
namespace Ev
open PySem PySem.Spec PyProof.Rows L2 EvM
theorem catA_one {K : PySem.W.Frag} {H : Hp} {a c : Addr} {xs : List V} {y : V} {Q : VK} (ha : Rd H a (.tup xs)) (hc : H c = some (.tup [y])) (hz : xs.length ≤ 1000) (q : ∀ H' d, Same H H' → Rd H' d (.tup (xs ++ [y])) → Q (.ref d) H') : rCatA K (.ref a) (.ref c) H Q := by
  refine ⟨a, c, xs, [y], rfl, rfl, .inl ha, .inl (.inl hc), sz_le (by show xs.length + 1 ≤ _; omega), fun e => ?_, fun _ e => absurd e (List.cons_ne_nil _ _), fun _ _ p hp => q _ p (same_new hp) (.inl upd_same)⟩
  subst e
  exact q H c (fun _ _ z => z) (.inl hc)
theorem rep_flat {α : Type} (k : Nat) (x : α) : (List.replicate k [x]).flatten = List.replicate k x := List.flatten_replicate_singleton
theorem gr_not {K : PySem.W.Frag} {H : Hp} {v : V} {t : Bt} (h : IsB K H v t) (ht : t ≠ .tuple) : Gr K H v := ⟨none, ⟨t, ht, h⟩, fun _ e => by cases e⟩
end Ev

set_option maxRecDepth 100000
set_option maxHeartbeats 4000000
namespace Ev
open PySem PySem.Spec PyProof.Rows L2 EvM
section
variable {P : Program} {w : World} {K : PySem.W.Frag} {mg : Str → Option Value} {base : Heap} {ad : Ad}
def spLaw (K : PySem.W.Frag) : Sp := fun vs H Q _ => ∃ (a : Addr) (ns : List Int), vs = [.ref a] ∧ SqL K H a (ns.map V.int) ∧ ns.length ≤ 4000 ∧ ∀ H', Q (.bl true) H'
theorem ok_law0 (T : Txt K mg) (F : Cf K mg ad) {fl : Addr} {fdl : FuncData} (D : Fun K "law" "law" s_law fl fdl) : FnOk P w K mg base CX0 11 fl fdl ["_law_script"] (spLaw K) := by
  obtain ⟨fdW, GW, bW⟩ := ok_Web_init (P := P) (w := w) (base := base) T F
  obtain ⟨fdE, GE, bE⟩ := ok_Web_eq (P := P) (w := w) (base := base) T F
  refine D.ok sc_law (fun vs H Q E h => ?_) (fun cdv A outer s H vs Q E hr h => ?_)
  · obtain ⟨a, ns, rfl, _⟩ := h
    rfl
  obtain ⟨a, ns, rfl, hs, hz, q⟩ := h
  refine ⟨_, (pss_cons (ps_set (i := 1) sc_law.nd rfl (Or.inr rfl) (pe_fn (ok_l_tape T) hr (by decide) rfl (pa_cons (pv 0) pa_nil)))
  (pss_cons (ps_set (i := 2) sc_law.nd rfl (Or.inl rfl) (pe_op op_add pe_int (pe_fn (ok_l_pick T) hr (by decide) rfl (pa_cons (pv 1) (pa_cons pe_int pa_nil)))))
  (pss_cons (ps_set (i := 3) sc_law.nd rfl (Or.inl rfl) (pe_fn (ok_l_closed T) hr (by decide) rfl (pa_cons (pe_fn (ok_l_pairs T) hr (by decide) rfl (pa_cons (pv 1) (pa_cons (pv 2) pa_nil))) pa_nil)))
  (pss_cons (ps_set (i := 4) sc_law.nd rfl (Or.inl rfl) (pe_make F.kW GW (hr.mono (by decide)) rfl F.mW bW .nil pass0 (pa_cons (pv 2) (pa_cons (pv 3) pa_nil))))
  (pss_cons (ps_set (i := 5) sc_law.nd rfl (Or.inl rfl) (pe_fn (ok_l_orders T) hr (by decide) rfl (pa_cons (pv 3) (pa_cons (pv 2) pa_nil))))
  (pss_cons (ps_if (PW.pt (pw_or (pt_cmpR (op_neOwn F.o2 GE bE (hr.mono (by decide)) pass0) (pe_fnX (E := E0) (ok_common_web T F) hr (by decide) rfl passL (pa_cons (pv 5) pa_nil)) (pv 4) (nomark _)) (pw_or (pt_cmpR op_isnot_bl (pe_fnX (E := E0) (ok_are_all T F) hr (by decide) rfl passL (pa_cons (pv 5) pa_nil)) pe_bl (nomark _)) (pw_or1 (pt_not (pt_val (pe_fn (ok_l_right T F) hr (by decide) rfl (pa_cons (pe_op (r := rCatA K) op_catA (pe_callTy call_tuple_of (by rfl) T.n_tuple (by decide +kernel) (pa_cons (pv 5) pa_nil)) (pe_tup (pa_cons (pe_ix (r := rIxL K) ix_list (pv 5) (pe_un un_neg pe_int) (fun _ _ => rfl)) pa_nil))) pa_nil)))))))) (pss_one (ps_ret pe_bl)) pss_nil)
  (pss_cons (ps_set (i := 6) sc_law.nd rfl (Or.inl rfl) (pe_fn (ok_l_pick T) hr (by decide) rfl (pa_cons (pv 1) (pa_cons (pe_callB call_len_seq (by rfl) T.n_len (by decide +kernel) (pa_cons (pv 5) pa_nil)) pa_nil))))
  (pss_cons (ps_if (PW.pt (pw_and (pt_cmpR op_gt (pe_callB call_len_seq (by rfl) T.n_len (by decide +kernel) (pa_cons (pv 5) pa_nil)) pe_int (nomark _)) (pw_and1 (pt_not (pt_val (pe_fn (ok_l_right T F) hr (by decide) rfl (pa_cons (pe_op op_cat (pe_slice sl_list (pv 5) po_none (po_some (pv 6))) (pe_slice sl_list (pv 5) (po_some (pe_op op_add (pv 6) pe_int)) po_none)) pa_nil))))))) (pss_one (ps_ret pe_bl)) pss_nil)
  (pss_cons (ps_set (i := 7) sc_law.nd rfl (Or.inr rfl) (pe_fn (ok_l_orders T) hr (by decide) rfl (pa_cons (pe_tup pa_nil) (pa_cons (pv 2) pa_nil))))
  (pss_cons (ps_setLc (i := 8) (own := [("_law_k", 13)]) rfl sc_law.nd rfl rfl (sw_true rfl rfl rfl (by decide +kernel)) (pi_range1 (by rfl) T.n_range (pa_cons (pe_op op_add pe_int (pe_fn (ok_l_pick T) hr (by decide) rfl (pa_cons (pv 1) (pa_cons pe_int pa_nil)))) pa_nil)) (blkOk_by (N := ["_law_script", "_law_tape_here", "_law_many", "_law_every", "_law_web", "_law_rows", "_law_at", "_law_lines", "_law_some", "_law_row", "_law_wrong", "_law_thing", "_law_due", "_law_k"]) (sc := defScope s_law) (own := [("_law_k", 13)]) (by decide +kernel)) (fun _ _ _ _ _ => (pg_name (i := 13) sc_law.nd rfl (Or.inl rfl))) (fun _ _ _ _ _ => pts_nil) (fun _ _ _ _ _ => (pe_ix (r := rIxL K) ix_list (pv 7) (pe_fn (ok_l_pick T) hr (by decide) rfl (pa_cons (pv 1) (pa_cons (pe_callB (r := rLenQ K) lenK (by rfl) T.n_len (by decide +kernel) (pa_cons (pv 7) pa_nil)) pa_nil))) (fun _ _ => rfl))))
  (pss_cons (ps_if (PW.pt (pw_or (pt_not (pt_val (pe_fn (ok_l_right T F) hr (by decide) rfl (pa_cons (pv 8) pa_nil)))) (pw_or1 (pt_cmpR (op_neD hr.units) (pe_fnX (E := E0) (ok_fewest_rows T F) hr (by decide) rfl passL (pa_cons (pv 4) pa_nil)) (pe_fn (ok_l_fewest T) hr (by decide) rfl (pa_cons (pv 3) (pa_cons (pv 2) pa_nil))) (nomark _))))) (pss_one (ps_ret pe_bl)) pss_nil)
  (pss_cons (ps_set (i := 9) sc_law.nd rfl (Or.inl rfl) (pe_ix (r := rIxL K) ix_list (pv 5) (pv 6) (fun _ _ => rfl)))
  (pss_cons (ps_set (i := 10) sc_law.nd rfl (Or.inl rfl) (pe_lst (pa_cons (pe_lst pa_nil) (pa_cons (pe_tup pa_nil) (pa_cons pe_non (pa_cons (pe_lst (pa_cons (pe_callTy call_list_of (by rfl) T.n_list (by decide +kernel) (pa_cons (pv 9) pa_nil)) pa_nil)) (pa_cons (pe_lst (pa_cons (pv 9) (pa_cons (pe_slice sl_tupA (pv 9) (po_some pe_int) po_none) pa_nil))) (pa_cons (pe_lst (pa_cons (pv 9) (pa_cons (pe_op (r := rCatA K) op_catA (pv 9) (pe_tup (pa_cons (pv 2) pa_nil))) pa_nil))) (pa_cons (pe_lst (pa_cons (pv 9) (pa_cons (pe_op (r := rCatA K) op_catA (pe_slice sl_tupA (pv 9) po_none (po_some (pe_un un_neg pe_int))) (pe_tup (pa_cons pe_bl pa_nil))) pa_nil))) (pa_cons (pe_op op_rep (pe_lst (pa_cons (pv 9) pa_nil)) pe_int) pa_nil))))))))))
  (pss_cons (ps_set (i := 10) sc_law.nd rfl (Or.inl rfl) (pe_op op_cat (pv 10) (pe_lst (pa_cons (pe_op op_rep (pe_lst (pa_cons (pv 9) pa_nil)) pe_int) (pa_cons (pe_lst (pa_cons (pe_op op_repT (pe_tup (pa_cons pe_int pa_nil)) pe_int) pa_nil)) (pa_cons (pe_lst (pa_cons (pe_tup pa_nil) pa_nil)) (pa_cons (pe_lst (pa_cons (pe_tupRg rfl (by rfl) T.n_tuple (prg_1 (by rfl) T.n_range pe_int)) pa_nil)) (pa_cons (pe_fn (ok_l_odd T) hr (by decide) rfl (pa_cons (pv 1) pa_nil)) (pa_cons (pe_disp (pps_cons pe_int (pv 9) pps_nil) (by rfl) (by rfl) (fun z => by cases z) (by decide)) (pa_cons (pv 9) pa_nil))))))))))
  (pss_cons (ps_set (i := 11) sc_law.nd rfl (Or.inl rfl) (pe_ix (r := rIxL K) ix_list (pv 10) (pe_fn (ok_l_pick T) hr (by decide) rfl (pa_cons (pv 1) (pa_cons pe_int pa_nil))) (fun _ _ => rfl)))
  (pss_cons (ps_set (i := 12) sc_law.nd rfl (Or.inl rfl) (pe_ix (r := rIxL K) ix_list (pe_lst (pa_cons pe_str (pa_cons pe_str pa_nil))) (pe_callTy call_int1 (by rfl) T.n_int (by decide +kernel) (pa_cons (pe_fn (ok_l_are_rows T) hr (by decide) rfl (pa_cons (pv 11) pa_nil)) pa_nil)) (fun _ _ => rfl)))
  (pss_cons (ps_if (PW.pt (pw_or (pt_cmpR op_ne (pe_fn (ok_l_tried T F) hr (by decide) rfl (pa_cons pe_int (pa_cons (pv 11) pa_nil))) (pv 12) (nomark _)) (pw_or1 (pt_cmpR op_ne (pe_fn (ok_l_tried T F) hr (by decide) rfl (pa_cons pe_int (pa_cons (pv 11) pa_nil))) (pv 12) (nomark _))))) (pss_one (ps_ret pe_bl)) pss_nil)
  (pss_one (ps_ret (pe_and (pe_cmpR op_eq (pe_fn (ok_l_tried T F) hr (by decide) rfl (pa_cons pe_int (pa_cons (pe_make F.kW GW (hr.mono (by decide)) rfl F.mW bW .nil pass0 (pa_cons pe_int (pa_cons (pe_tup pa_nil) pa_nil))) pa_nil))) pe_int (nomark _)) (pe_one (pe_cmpR (op_eqOwn F.o2 GE bE (hr.mono (by decide)) pass0) (pe_fnX (E := E0) (ok_common_web T F) hr (by decide) rfl passL (pa_cons (pv 5) pa_nil)) (pv 4) (nomark _))))))))))))))))))))))), ?_⟩
  refine ⟨_, rfl, a, ns, rfl, hs, hz, fun H1 t L s1 ht tp1 => ?_⟩
  refine ⟨_, rfl, t, L, ns, 5, rfl, by decide, by decide, tp1, fun H2 d hd T2 => rI0_add (k := ((1 + d : Nat) : Int)) (by omega) ?_⟩
  generalize hn : 1 + d = n
  have hn1 : 1 ≤ n := by omega
  have hn5 : n ≤ 5 := by omega
  refine ⟨_, rfl, _, rfl, t, L, ns, n, rfl, T2.t1, hn1, hn5, fun H3 b o bs T3 htb hbs nd => ⟨b, n, o, bs, rfl, htb, hbs, nd, hn5, fun H4 e s4 hev => ?_⟩⟩
  have hpo := close_po hn5 hbs
  generalize closeR n bs = ps at hev hpo
  have few := hpo.few hn5
  refine ⟨_, rfl, _, rfl, ?_⟩
  intro x dx hx hdx hne
  refine webK (K := K) (ad := ad) hx hdx hne hev hpo hn1 (by omega) (by omega) fun H5 s5 hw => ⟨rfl, ?_⟩
  clear hx hdx hne
  refine ⟨_, rfl, _, rfl, e, n, ps, rfl, hev.same s5, hpo.pr, hn5, by omega, fun H6 R s6 hR => ?_⟩
  have tp6 : Tape H6 t L ns := ((T3.t1.same s4).same s5).same s6
  have hev6 := (hev.same s5).same s6
  have hw6 := hw.same s6
  have hord := common_ords hn5 hpo
  have hle := ords_le hn5 ps
  have hallp : ∀ r ∈ ords n ps, Perm n r := fun r hr => ((mem_ords hpo.pr).mp hr).toPerm
  have hne : ords n ps ≠ [] := by
    obtain ⟨r, hr⟩ := hpo.ex
    exact List.ne_nil_of_mem ((mem_ords hpo.pr).mpr hr)
  have hall0 : ∀ o ∈ ords n (common n (ords n ps)), o ∈ ords n ps := fun o ho => by rwa [hord] at ho
  generalize hrw : ords n ps = rows at hR hord hle hallp hne hall0
  have hlen : 1 ≤ rows.length := List.length_pos_iff.mpr hne
  refine nxset (i := 5) ?_
  refine ifs_false (fun Z z => ?_) fun H7 s7 => ?_
  · refine ⟨_, rfl, .inl ⟨R, rows, n, rfl, ⟨hR.ltf.r, hallp, hne, hn1, hn5, by omega⟩, fun H7 y s7 hy => ?_⟩⟩
    rw [hord] at hy
    obtain ⟨dy, fs, hy1, hyf⟩ := id hy
    obtain ⟨dx, gs, hx1, hxf⟩ := hw6.same s7
    refine ⟨_, rfl, y, x, dy, dx, fs, gs, rfl, rfl, hy1, hx1, y, x, n, n, ps, ps, rfl, hy, hw6.same s7, ?_⟩
    rw [decide_eq_true rfl, decide_eq_true rfl]
    refine ⟨_, rfl, _, rfl, iteF ?_⟩
    refine ⟨_, rfl, .inl ⟨R, rows, n, rfl, ⟨(hR.same s7).ltf.r, hallp, hne, hn1, hn5, by omega⟩, fun H8 s8 => ⟨_, true, rfl, rfl, _, rfl, ?_⟩⟩⟩
    rw [decide_eq_true hall0]
    refine iteF ?_
    obtain ⟨xs, hxs, hpx⟩ := hR.same (s7.trans s8)
    have hxl : xs.length = rows.length := Paired.length hpx
    refine ⟨_, rfl, R, xs, rfl, .inl ⟨.inl (.inl hxs), fun c1 hc1 => ?_⟩⟩
    have s9 := same_new (o := .tup xs) hc1
    obtain ⟨v, ev, tv⟩ := Pd.get' hpx (List.getElem?_eq_getElem (show rows.length - 1 < rows.length by omega))
    rw [← hxl] at ev
    refine ⟨_, rfl, 1, rfl, R, xs, -1, v, rfl, rfl, .inl (.inl (s9 _ _ hxs)), atI_last ev, (by show 1 ≤ sizeLine; decide), fun c2 hc2 => ?_⟩
    have s10 := same_new (o := .tup [v]) hc2
    refine catV (s10 _ _ upd_same) upd_same (by show xs.length + 1 ≤ _; omega) fun H9 c3 s11 hc3 => ?_
    have s12 := s9.trans (s10.trans s11)
    refine ⟨c3, rows ++ [rows[rows.length - 1]], n, rfl, ⟨xs ++ [v], .inr hc3, Pd.snoc (tfs_same hpx s12) (tv.same s12)⟩, fun r hr => ?_, by simp, hn1, hn5, by rw [List.length_append]; show rows.length + 1 ≤ 1000; omega, fun H10 s13 => ⟨_, rfl, z _ (s7.trans (s8.trans (s12.trans s13)))⟩⟩
    rcases List.mem_append.mp hr with hr | hr
    · exact hallp r hr
    · rw [List.mem_singleton] at hr
      subst hr
      exact hallp _ (List.getElem_mem _)
  have tp7 := tp6.same s7
  have hev7 := hev6.same s7
  have hw7 := hw6.same s7
  obtain ⟨xs, hxs, hpx⟩ := id (hR.same s7)
  have hxl : xs.length = rows.length := Paired.length hpx
  refine ⟨_, rfl, _, rfl, R, xs, rfl, .inl (.inl (.inl hxs)), t, L, ns, xs.length, rfl, by omega, by omega, tp7, fun H8 p hp T8 => ?_⟩
  have hR8 : Lf' H8 R rows := (hR.same s7).tp T8
  have hev8 := hev7.tk T8.tk
  have hw8 := hw7.tp T8
  have tp8 := T8.t1
  clear hxs hpx tp7 hev7 hw7 tp6 hev6 hw6
  rw [hxl] at hp
  clear hxl
  refine nxset (i := 6) ?_
  refine ifs_false (fun Z z => ?_) fun H9 s9 => ?_
  · obtain ⟨xs, hxs, hpx⟩ := hR8
    have hxl : xs.length = rows.length := Paired.length hpx
    refine ⟨_, rfl, R, xs, rfl, .inl (.inl (.inl hxs)), _, 1, rfl, rfl, _, rfl, ite2 (fun c => ?_) (fun c => z _ fun _ _ z => z)⟩
    have c := of_decide_eq_true c
    refine ⟨_, rfl, noPart ⟨_, rfl, _, rfl, R, xs, rfl, .inl (.inl hxs), fun l1 hl1 => ?_⟩⟩
    rw [cutV_take xs p]
    have s1 := same_new (o := .lst (xs.take p)) hl1
    refine ⟨_, rfl, _, rfl, _, 1, rfl, rfl, _, rfl, noPart ⟨R, xs, rfl, .inl (.inl (s1 _ _ hxs)), fun l2 hl2 => ?_⟩⟩
    have ecut : cutV xs (some ((p : Int) + 1)) none = xs.drop (p + 1) := cutV_drop xs (p + 1)
    rw [ecut]
    have s2 := same_new (o := .lst (xs.drop (p + 1))) hl2
    refine ⟨l1, l2, _, _, rfl, rfl, s2 _ _ upd_same, upd_same, sz_le (by rw [List.length_take, List.length_drop]; omega), fun c3 hc3 => ?_⟩
    have s3 := same_new (o := .lst (xs.take p ++ xs.drop (p + 1))) hc3
    have s123 := s1.trans (s2.trans s3)
    have hlr : (rows.take p ++ rows.drop (p + 1)).length = rows.length - 1 := by
      rw [List.length_append, List.length_take, List.length_drop]
      omega
    refine ⟨c3, rows.take p ++ rows.drop (p + 1), n, rfl, ⟨_, .inl upd_same, Pd.app (Pd.take p (tfs_same hpx s123)) (Pd.drop (p + 1) (tfs_same hpx s123))⟩, fun r hr => ?_, ?_, hn1, hn5, by omega, fun H10 s10 => ⟨_, rfl, z _ (s123.trans s10)⟩⟩
    · rcases List.mem_append.mp hr with hr | hr
      · exact hallp r (List.mem_of_mem_take hr)
      · exact hallp r (List.mem_of_mem_drop hr)
    · intro e0
      rw [e0] at hlr
      have hlr : 0 = rows.length - 1 := hlr
      omega
  have tp9 := tp8.same s9
  have hR9 := hR8.same s9
  have hev9 := hev8.same s9
  have hw9 := hw8.same s9
  refine ⟨(by decide), fun u0 hu0 => ⟨_, rfl, ?_⟩⟩
  have s10 := same_new (o := .tup []) hu0
  refine ⟨u0, n, [], rfl, ⟨[], upd_same, .nil⟩, fun _ h => (by cases h), hn5, by decide, fun H11 LN s11 hLN => ?_⟩
  have s1011 := s10.trans s11
  have tp11 := tp9.same s1011
  have hR11 := hR9.same s1011
  have hev11 := hev9.same s1011
  have hw11 := hw9.same s1011
  clear tp9 hR9 hev9 hw9 tp8 hR8 hev8 hw8 hR
  have hlle := ords_le hn5 []
  have hlallp : ∀ r ∈ ords n [], Perm n r := fun r hr => ((mem_ords (n := n) (ps := []) (fun _ h => by cases h)).mp hr).toPerm
  have hlne : ords n [] ≠ [] := by
    obtain ⟨r, hr⟩ := hpo.ex
    exact List.ne_nil_of_mem ((mem_ords (n := n) (ps := []) (fun _ h => by cases h)).mpr ⟨hr.toPerm, fun i j h => by cases h⟩)
  generalize ords n [] = lines at hLN hlle hlallp hlne
  have hllen : 1 ≤ lines.length := List.length_pos_iff.mpr hlne
  refine nxset (i := 7) ?_
  refine ⟨_, rfl, t, L, ns, 4, rfl, by decide, by decide, tp11, fun H12 d2 hd2 T12 => rI0_add (k := ((1 + d2 : Nat) : Int)) (by omega) ?_⟩
  generalize hm : 1 + d2 = m
  have hm1 : 1 ≤ m := by omega
  have hm4 : m ≤ 4 := by omega
  clear hm hd2
  obtain ⟨r1, r2⟩ := rng_ok (n := m) (by omega)
  refine ⟨_, rfl, r1, r2, fun D0 hD0 => ?_⟩
  have hLN12 := hLN.tp T12
  have hR12 := hR11.tp T12
  have hev12 := hev11.tk T12.tk
  have hw12 := hw11.tp T12
  have tp12 := T12.t1
  clear hLN hR11 hev11 hw11 tp11
  have hDt : D0 ≠ t := fun e0 => by
    obtain ⟨i, r, mm, c, h1⟩ := tp12.at
    rw [e0, h1] at hD0
    cases hD0
  refine lc_it (walk_rng (n := m)) (fun i H' => Tp t L ns H12 H' ∧ ∃ ys rs, H' D0 = some (.lst ys) ∧ Paired (Tf H') ys rs ∧ rs.length = i ∧ ∀ r ∈ rs, r ∈ lines) ⟨Tp.of tp12 (same_new hD0), [], [], upd_same, .nil, rfl, by simp⟩ (fun _ _ _ _ => trivial) ?_ ?_
  · rintro i y H20 H13 hi ⟨T13, ys, rs, hys, hp3, hl, hsub⟩ ⟨rfl, rfl⟩
    refine ⟨rfl, ?_⟩
    obtain ⟨ls, hls, hpl⟩ := hLN12.tp T13
    have hll : ls.length = lines.length := Paired.length hpl
    refine ⟨_, rfl, _, rfl, _, rfl, LN, ls, rfl, .inl (.inl (.inl hls)), t, L, ns, ls.length, rfl, by omega, by omega, T13.t1, fun H14 dd hdd T14 => ?_⟩
    obtain ⟨r, hr, tr⟩ := Pd.get hpl (List.getElem?_eq_getElem hdd)
    refine ⟨LN, ls, (dd : Int), ls[dd], rfl, rfl, .inl (.inl (T14.keep hls (T14.ne_refs hls (tfs_refs hpl)))), atI_nat (List.getElem?_eq_getElem hdd), ?_⟩
    have hys4 := T14.keep hys hDt
    have hyl : ys.length = rs.length := Paired.length hp3
    have fk := fk_lst (o := .lst (ys ++ [ls[dd]])) hys4
    refine ⟨ys, hys4, sz_lt (by omega), (T13.trans T14).mut hD0, ys ++ [ls[dd]], rs ++ [r], upd_same, Pd.snoc (tfs_fk hp3 (T14.fk.trans fk)) (tr.fk (T14.fk.trans fk)), by rw [List.length_append, hl]; rfl, fun q1 hq1 => ?_⟩
    rcases List.mem_append.mp hq1 with hq1 | hq1
    · exact hsub q1 hq1
    · rw [List.mem_singleton] at hq1
      subst hq1
      exact List.mem_of_getElem? hr
  rintro H13 ⟨T13, ys, rs, hys, hp3, hl, hsub⟩
  have hR13 := hR12.tp T13
  have hev13 := hev12.tk T13.tk
  have hw13 := hw12.tp T13
  have tp13 := T13.t1
  clear hLN12 hR12 hev12 hw12 tp12
  refine nxset (i := 8) ?_
  refine ifs_false (fun Z z => ?_) fun H14 s14 => ?_
  · refine ⟨_, rfl, D0, rs, n, rfl, ⟨ys, .inl hys, hp3⟩, fun r hr => hlallp r (hsub r hr), (fun e0 => by rw [e0] at hl; have hl : 0 = m := hl; omega), hn1, hn5, by omega, fun H14 s14 => ⟨_, rfl, iteF ?_⟩⟩
    refine ⟨_, rfl, x, n, ps, rfl, hw13.same s14, by omega, .inl ⟨hn5, hpo, fun H15 bb k s s15 htold hres => ?_⟩⟩
    refine ⟨_, rfl, _, rfl, e, n, ps, rfl, hev13.same (s14.trans s15), hpo, hn5, fun H16 pp c zs k' s' s16 hpp hc hpz hres' => ?_⟩
    obtain ⟨ek, es⟩ := hres.uniq hres'
    subst ek
    subst es
    obtain ⟨tc, ht1, ht2⟩ := htold
    refine ⟨.tuple [.int k, .tuple (s.1.map rowD)], .tuple [.int k, .tuple (s.1.map rowD)], .tup (.inl (.inl (s16 _ _ ht1))) (.cons (.int _) (.cons (dp_tt (ht2.same s16)) .nil)), .tup (.inl (.inl hpp)) (.cons (.int _) (.cons (.tup (.inl (.inl hc)) (dpAll_rows (tfs_r hpz))) .nil)), shaped_told _ _, shaped_told _ _, _, rfl, ?_⟩
    rw [eqv_told, decide_eq_true rfl, decide_eq_true rfl]
    exact z _ (s14.trans (s15.trans s16))
  have hR14 := hR13.same s14
  have hev14 := hev13.same s14
  have hw14 := hw13.same s14
  have tp14 := tp13.same s14
  clear hR13 hev13 hw13 tp13 hys hp3 hl hsub
  obtain ⟨xs, hxs, hpx⟩ := id hR14
  obtain ⟨vr, evr, hrow⟩ := Pd.get' hpx (List.getElem?_eq_getElem hp)
  refine ⟨_, rfl, _, rfl, R, xs, (p : Int), vr, rfl, rfl, .inl (.inl hxs), atI_nat evr, ?_⟩
  have hrp := hallp _ (List.getElem_mem hp)
  generalize rows[p] = row at hrow hrp
  obtain ⟨ra, ro, rfl, hra, hrd⟩ := id hrow
  clear hxs hpx evr
  refine nxset (i := 9) ?_
  have rowK : ∀ {H' : Hp}, Tf H' (.ref ra) row → Rd H' ra (.tup (row.map nm)) := fun h => by
    obtain ⟨_, o, e0, h, _⟩ := h
    cases e0
    exact .inr ⟨o, h⟩
  have rlen : (row.map nm).length = n := by rw [List.length_map, hrp.len]
  have rgr : ∀ {H' : Hp}, Rd H' ra (.tup (row.map nm)) → Gr K H' (.ref ra) := fun h => gr_tup h (.inl (by omega)) fun y hy => lv_int (nms_int y hy)
  refine seq_dispT (n := 8) (K := K) (row := row) (by decide) (gat_cons (get_of (ge_lstD (by decide) ga_nil)) (gat_cons (get_of (ge_tupD (by decide) ga_nil)) (gat_cons (get_of (ge_gd ge_non)) (gat_cons ?e4 (gat_cons ?e5 (gat_cons ?e6 (gat_cons ?e7 (gat_cons ?e8 gat_nil)))))))) tp14 hrow fun H15 W w1 T15 hWt hW gW lW => ?_
  case e4 =>
    intro H5 Q5 tpx hrx qx
    have hr5 := rowK hrx
    refine ⟨_, rfl, ra, _, rfl, .inr (.inl hr5), fun l hl => ⟨(by show 1 ≤ sizeLine; decide), fun p5 hp5 => ?_⟩⟩
    have s5' := same_new (o := .lst (row.map nm)) hl
    have g5 : Gr K (upd H5 l (.lst (row.map nm))) (.ref l) := gr_not (isb_lst upd_same) (by decide)
    refine gd_lst (K := K) (Tp.of tpx s5') hp5 (by show 1 ≠ 5; decide) (by show 1 < 4000; decide) (fun y hy => ?_) (fun y rest e0 => ?_) qx
    · rw [List.mem_singleton] at hy
      subst hy
      exact gr_gr1 g5
    · cases e0
      exact g5
  case e5 =>
    intro H5 Q5 tpx hrx qx
    have hr5 := rowK hrx
    refine ⟨_, rfl, _, rfl, _, rfl, noPart (slA_ints hr5 nms_int fun H6 c ys s6 hc hlc hints => ⟨(by show 2 ≤ sizeLine; decide), fun p5 hp5 => ?_⟩)⟩
    refine gd_lst (K := K) (Tp.of tpx s6) hp5 (by show 2 ≠ 5; decide) (by show 2 < 4000; decide) (fun y hy => ?_) (fun y rest e0 => ?_) qx
    · rcases List.mem_cons.mp hy with rfl | hy
      · exact gr_gr1 (rgr (Rd.same hr5 s6))
      · rw [List.mem_singleton] at hy
        subst hy
        exact gr1_tup hc (by omega) fun z hz => lv_int (hints z hz)
    · cases e0
      exact rgr (Rd.same hr5 s6)
  case e6 =>
    intro H5 Q5 tpx hrx qx
    have hr5 := rowK hrx
    refine ⟨_, rfl, _, rfl, _, rfl, (by show 1 ≤ sizeLine; decide), fun c hc => ?_⟩
    have s5' := same_new (o := .tup [V.int ((n : Nat) : Int)]) hc
    refine catA_one (Rd.same hr5 s5') upd_same (by omega) fun H6 d6 s6 hd6 => ⟨(by show 2 ≤ sizeLine; decide), fun p5 hp5 => ?_⟩
    refine gd_lst (K := K) (Tp.of tpx (s5'.trans s6)) hp5 (by show 2 ≠ 5; decide) (by show 2 < 4000; decide) (fun y hy => ?_) (fun y rest e0 => ?_) qx
    · rcases List.mem_cons.mp hy with rfl | hy
      · exact gr_gr1 (rgr (Rd.same hr5 (s5'.trans s6)))
      · rw [List.mem_singleton] at hy
        subst hy
        refine gr1_tup hd6 (by rw [List.length_append, rlen]; show n + 1 < 4000; omega) fun z hz => lv_int ?_
        rcases List.mem_append.mp hz with hz | hz
        · exact nms_int z hz
        · rw [List.mem_singleton] at hz
          exact ⟨_, hz⟩
    · cases e0
      exact rgr (Rd.same hr5 (s5'.trans s6))
  case e7 =>
    intro H5 Q5 tpx hrx qx
    have hr5 := rowK hrx
    refine ⟨_, rfl, _, rfl, noPart ⟨1, rfl, _, rfl, slA_ints hr5 nms_int fun H6 c ys s6 hc hlc hints => ⟨(by show 1 ≤ sizeLine; decide), fun c2 hc2 => ?_⟩⟩⟩
    have s7' := same_new (o := .tup [V.bl true]) hc2
    refine catA_one (Rd.same hc s7') upd_same (by omega) fun H8' d6 s8' hd6 => ⟨(by show 2 ≤ sizeLine; decide), fun p5 hp5 => ?_⟩
    have s58 := s6.trans (s7'.trans s8')
    refine gd_lst (K := K) (Tp.of tpx s58) hp5 (by show 2 ≠ 5; decide) (by show 2 < 4000; decide) (fun y hy => ?_) (fun y rest e0 => ?_) qx
    · rcases List.mem_cons.mp hy with rfl | hy
      · exact gr_gr1 (rgr (Rd.same hr5 s58))
      · rw [List.mem_singleton] at hy
        subst hy
        refine gr1_tup hd6 (by rw [List.length_append]; show ys.length + 1 < 4000; omega) fun z hz => ?_
        rcases List.mem_append.mp hz with hz | hz
        · exact lv_int (hints z hz)
        · rw [List.mem_singleton] at hz
          subst hz
          exact .inr ⟨.bool, by decide, by decide, by decide, .base (.bl true)⟩
    · cases e0
      exact rgr (Rd.same hr5 s58)
  case e8 =>
    intro H5 Q5 tpx hrx qx
    have hr5 := rowK hrx
    refine ⟨_, rfl, (by show 1 ≤ sizeLine; decide), fun l hl => ⟨l, 1001, [V.ref ra], rfl, rfl, upd_same, by decide, by decide, (by show 1 * 1001 ≤ sizeLine; exact sz_le (by decide)), fun p5 hp5 => ?_⟩⟩
    have s5' := same_new (o := .lst [V.ref ra]) hl
    rw [rep_flat]
    refine gd_lst (K := K) (Tp.of tpx s5') hp5 (by rw [List.length_replicate]; decide) (by rw [List.length_replicate]; decide) (fun y hy => ?_) (fun y rest e0 => ?_) qx
    · rw [List.eq_of_mem_replicate hy]
      exact gr_gr1 (rgr (Rd.same hr5 s5'))
    · have hy : y ∈ List.replicate (1001 : Int).toNat (V.ref ra) := by rw [e0]; simp
      rw [List.eq_of_mem_replicate hy]
      exact rgr (Rd.same hr5 s5')
  have hrow15 := hrow.fk T15.fk
  refine seq_catT (n := 7) (K := K) (row := row) (by decide) (gat_cons ?f1 (gat_cons ?f2 (gat_cons (get_of (ge_lstD (by decide) (ga_cons gr_st (ge_tupR (by decide) ga_nil) ga_nil))) (gat_cons ?f4 (gat_cons ?f5 (gat_cons ?f6 (gat_cons ?f7 gat_nil))))))) rfl hW hWt (by omega) gW T15.t1 hrow15 fun H16 c zs T16 hct hzs gz lz => ?_
  case f1 =>
    intro H5 Q5 tpx hrx qx
    have hr5 := rowK hrx
    refine ⟨_, rfl, (by show 1 ≤ sizeLine; decide), fun l hl => ⟨l, 1000, [V.ref ra], rfl, rfl, upd_same, by decide, by decide, (by show 1 * 1000 ≤ sizeLine; exact sz_le (by decide)), fun p5 hp5 => ?_⟩⟩
    have s5' := same_new (o := .lst [V.ref ra]) hl
    rw [rep_flat]
    refine gd_lst (K := K) (Tp.of tpx s5') hp5 (by rw [List.length_replicate]; decide) (by rw [List.length_replicate]; decide) (fun y hy => ?_) (fun y rest e0 => ?_) qx
    · rw [List.eq_of_mem_replicate hy]
      exact gr_gr1 (rgr (Rd.same hr5 s5'))
    · have hy : y ∈ List.replicate (1000 : Int).toNat (V.ref ra) := by rw [e0]; simp
      rw [List.eq_of_mem_replicate hy]
      exact rgr (Rd.same hr5 s5')
  case f2 =>
    intro H5 Q5 tpx hrx qx
    refine ⟨(by show 1 ≤ sizeLine; decide), fun l hl => ⟨l, 2, [V.int 0], rfl, rfl, .inl (.inl upd_same), by simp, by decide, by decide, by decide, fun d hd => ⟨(by show 1 ≤ sizeLine; decide), fun p5 hp5 => ?_⟩⟩⟩
    have s5' := (same_new (o := .tup [V.int 0]) hl).trans (same_new (o := .tup (List.replicate (2 : Int).toNat [V.int 0]).flatten) hd)
    have g5 : Gr K (upd (upd H5 l (.tup [V.int 0])) d (.tup (List.replicate (2 : Int).toNat [V.int 0]).flatten)) (.ref d) := gr_tup (.inl upd_same) (.inl (by decide)) fun y hy => by
      rw [rep_flat] at hy
      exact .inl ⟨0, List.eq_of_mem_replicate hy⟩
    refine gd_lst (K := K) (Tp.of tpx s5') hp5 (by show 1 ≠ 5; decide) (by show 1 < 4000; decide) (fun y hy => ?_) (fun y rest e0 => ?_) qx
    · rw [List.mem_singleton] at hy
      subst hy
      exact gr_gr1 g5
    · cases e0
      exact g5
  case f4 =>
    intro H5 Q5 tpx hrx qx
    refine ⟨9, rfl, RgOk.of_le (by decide) (by decide) (by decide) (by decide), fun d hd => ⟨(by show 1 ≤ sizeLine; decide), fun p5 hp5 => ?_⟩⟩
    have s5' := same_new (o := .tup (rgV 0 9)) hd
    have g5 : Gr K (upd H5 d (.tup (rgV 0 9))) (.ref d) := gr_tup (.inl upd_same) (.inr ⟨by rw [rgV_length]; decide, by rw [rgV_length]; decide⟩) fun y hy => by
      unfold rgV at hy
      obtain ⟨j, _, rfl⟩ := List.mem_map.mp hy
      exact .inl ⟨_, rfl⟩
    refine gd_lst (K := K) (Tp.of tpx s5') hp5 (by show 1 ≠ 5; decide) (by show 1 < 4000; decide) (fun y hy => ?_) (fun y rest e0 => ?_) qx
    · rw [List.mem_singleton] at hy
      subst hy
      exact gr_gr1 g5
    · cases e0
      exact g5
  case f5 =>
    intro H5 Q5 tpx hrx qx
    exact ⟨_, rfl, t, L, ns, rfl, tpx, fun H' v T hv => qx H' v T hv⟩
  case f6 =>
    intro H5 Q5 tpx hrx qx p5 hp5
    exact ⟨_, rfl, upd_same, [((Sum.inl 0 : Key), V.ref ra)], rfl, (by show 1 ≤ 15; decide), qx _ _ (Tp.of tpx (same_mut (same_new hp5) hp5)) (.inl ⟨.dict, by decide, by decide, .base (.dK upd_same)⟩)⟩
  case f7 =>
    intro H5 Q5 tpx hrx qx
    have hr5 := rowK hrx
    refine ⟨_, rfl, qx _ _ (Tp.rfl' tpx) (gd_mk (.inr hr5) (by omega) fun y hy => lv_gr (lv_int (nms_int y hy)))⟩
  have lz : zs.length = 15 := by rw [lz, lW]
  have TT := (T15.trans T16)
  have hR16 := hR14.tp TT
  have hw16 := hw14.tp TT
  have tp16 := T16.t1
  clear hev14 hR14 hw14 tp14 hrow hrow15 hra hW gW lW hWt
  refine ⟨_, rfl, _, rfl, t, L, ns, 15, rfl, by decide, by decide, tp16, fun H17 d7 hd7 T17 => ?_⟩
  have hz7 : d7 < zs.length := by omega
  refine ⟨c, zs, (d7 : Int), zs[d7], rfl, rfl, .inl (.inl (T17.keep hzs hct)), atI_nat (List.getElem?_eq_getElem hz7), ?_⟩
  have hg := T17.gd (gz _ (List.getElem_mem hz7))
  generalize zs[d7] = thing at hg
  obtain ⟨th, hth, hsz, hf5⟩ := gd_thd hg
  have hR17 := hR16.tp T17
  have hw17 := hw16.tp T17
  clear hR16 hw16 tp16 hzs gz lz hg
  refine nxset (i := 11) ?_
  refine ⟨(by show 2 ≤ sizeLine; decide), fun dl hdl => ?_⟩
  have s17' := same_new (o := .lst [V.str (Str.ofString "rows"), V.str (Str.ofString "told")]) hdl
  refine ⟨_, rfl, thing, th, rfl, thd_same hth s17', hsz, fun H18 s18 => .inr ⟨areRows th, rfl, ?_⟩⟩
  have eat : ∀ k : Bool, atI [V.str (Str.ofString "rows"), V.str (Str.ofString "told")] (if k = true then 1 else 0) = some (V.str (if k = true then (Str.ofString "told") else (Str.ofString "rows"))) := fun k => by cases k <;> rfl
  refine ⟨dl, _, _, _, rfl, rfl, .inl (.inl (s18 _ _ upd_same)), eat (areRows th), ?_⟩
  have s178 := s17'.trans s18
  have hth18 := thd_same hth s178
  have hR18 := hR17.same s178
  have hw18 := hw17.same s178
  clear hth hR17 hw17
  refine nxset (i := 12) ?_
  refine ifs_false (fun Z z => ?_) fun H19 s19 => ?_
  · refine ⟨_, rfl, 0, thing, rfl, .inl ⟨.inl rfl, th, hth18, hsz, hf5, fun H19 s19 => ⟨_, rfl, rfl, _, rfl, ?_⟩⟩⟩
    rw [decide_eq_true rfl]
    refine iteF ?_
    refine ⟨_, rfl, 1, thing, rfl, .inl ⟨.inr rfl, th, thd_same hth18 s19, hsz, hf5, fun H20' s20 => ⟨_, rfl, rfl, _, rfl, ?_⟩⟩⟩
    rw [decide_eq_true rfl]
    exact z _ (s19.trans s20)
  have hR19 := hR18.same s19
  have hw19 := hw18.same s19
  refine ⟨(by decide), fun u6 hu6 => ?_⟩
  have s20 := same_new (o := .tup []) hu6
  intro x6 dx6 hx6 hdx6 hne6
  have po6 : Po 6 [] := ⟨fun _ h => (nomatch h), List.Pairwise.nil, fun _ _ _ h => (nomatch h), List.range 6, ⟨by decide, rfl, by decide⟩, fun _ _ h => (nomatch h)⟩
  refine webK (K := K) (ad := ad) (n := 6) (ps := []) hx6 hdx6 hne6 ⟨[], upd_same, .nil⟩ po6 (by decide) (by decide) (by decide) fun H21 s21 hw21 => ⟨rfl, ?_⟩
  clear hx6 hdx6 hne6
  refine ⟨2, .ref x6, rfl, .inr ⟨rfl, x6, rfl, hw21, fun H22 s22 => ⟨rfl, _, rfl, ?_⟩⟩⟩
  have sl := s20.trans (s21.trans s22)
  refine iteT ?_
  refine ⟨_, rfl, .inl ⟨R, rows, n, rfl, ⟨(hR19.same sl).ltf.r, hallp, hne, hn1, hn5, by omega⟩, fun H23 y s23 hy => ?_⟩⟩
  rw [hord] at hy
  have hwl := (hw19.same sl).same s23
  obtain ⟨dy, fs, hy1, hyf⟩ := id hy
  obtain ⟨dx, gs, hx1, hxf⟩ := id hwl
  refine ⟨_, rfl, y, x, dy, dx, fs, gs, rfl, rfl, hy1, hx1, y, x, n, n, ps, ps, rfl, hy, hwl, ?_⟩
  rw [decide_eq_true rfl, decide_eq_true rfl]
  exact ⟨_, rfl, q _⟩
end
end Ev

set_option maxRecDepth 100000
set_option maxHeartbeats 8000000
namespace Ev
open PySem PySem.Spec PyProof.Rows L2 EvM
/-! ### what the written part says -/
/-- how a def's arguments bind -/
def BindB (x q : Str) (st : Stmt) (ps : List Str) : Prop := ∀ (kV doc pm : Value) (an : Option Addr) (cdv ct : Value) (us : List Value), us.length = ps.length → bindArgs (PySem.W.fnOf x q (defArgs st) (defBody st) (defScope st) .none kV doc pm an cdv ct) ⟨us, []⟩ = pure (ps.zip us)
theorem bb_is_integer : BindB "is_integer" "is_integer" s_is_integer ["thing"] := fun _ _ _ _ _ _ us hl => match us, hl with | [_], _ => rfl
theorem bb_is_within : BindB "is_within" "is_within" s_is_within ["thing", "least", "most"] := fun _ _ _ _ _ _ us hl => match us, hl with | [_, _, _], _ => rfl
theorem bb_is_pair : BindB "is_pair" "is_pair" s_is_pair ["thing"] := fun _ _ _ _ _ _ us hl => match us, hl with | [_], _ => rfl
theorem bb_is_listed : BindB "is_listed" "is_listed" s_is_listed ["thing"] := fun _ _ _ _ _ _ us hl => match us, hl with | [_], _ => rfl
theorem bb_is_ascending : BindB "is_ascending" "is_ascending" s_is_ascending ["items"] := fun _ _ _ _ _ _ us hl => match us, hl with | [_], _ => rfl
theorem bb_are_names : BindB "are_names" "are_names" s_are_names ["many", "thing"] := fun _ _ _ _ _ _ us hl => match us, hl with | [_, _], _ => rfl
theorem bb_check_many : BindB "check_many" "check_many" s_check_many ["number", "most"] := fun _ _ _ _ _ _ us hl => match us, hl with | [_, _], _ => rfl
theorem bb_closed : BindB "closed" "closed" s_closed ["many", "pairs"] := fun _ _ _ _ _ _ us hl => match us, hl with | [_, _], _ => rfl
theorem bb_are_befores : BindB "are_befores" "are_befores" s_are_befores ["many", "thing"] := fun _ _ _ _ _ _ us hl => match us, hl with | [_, _], _ => rfl
theorem bb_raw_web : BindB "raw_web" "raw_web" s_raw_web ["many", "every"] := fun _ _ _ _ _ _ us hl => match us, hl with | [_, _], _ => rfl
theorem bb_free_names : BindB "free_names" "free_names" s_free_names ["web", "lot"] := fun _ _ _ _ _ _ us hl => match us, hl with | [_, _], _ => rfl
theorem bb_with_name : BindB "with_name" "with_name" s_with_name ["lot", "name"] := fun _ _ _ _ _ _ us hl => match us, hl with | [_, _], _ => rfl
theorem bb_lots_of : BindB "lots_of" "lots_of" s_lots_of ["web"] := fun _ _ _ _ _ _ us hl => match us, hl with | [_], _ => rfl
theorem bb_rests : BindB "rests" "rests" s_rests ["web"] := fun _ _ _ _ _ _ us hl => match us, hl with | [_], _ => rfl
theorem bb_count : BindB "count" "count" s_count ["web"] := fun _ _ _ _ _ _ us hl => match us, hl with | [_], _ => rfl
theorem bb_all_orders : BindB "all_orders" "all_orders" s_all_orders ["web"] := fun _ _ _ _ _ _ us hl => match us, hl with | [_], _ => rfl
theorem bb_are_rows : BindB "are_rows" "are_rows" s_are_rows ["thing"] := fun _ _ _ _ _ _ us hl => match us, hl with | [_], _ => rfl
theorem bb_check_rows : BindB "check_rows" "check_rows" s_check_rows ["thing"] := fun _ _ _ _ _ _ us hl => match us, hl with | [_], _ => rfl
theorem bb_common_of : BindB "common_of" "common_of" s_common_of ["rows"] := fun _ _ _ _ _ _ us hl => match us, hl with | [_], _ => rfl
theorem bb_common_web : BindB "common_web" "common_web" s_common_web ["rows"] := fun _ _ _ _ _ _ us hl => match us, hl with | [_], _ => rfl
theorem bb_are_all : BindB "are_all" "are_all" s_are_all ["rows"] := fun _ _ _ _ _ _ us hl => match us, hl with | [_], _ => rfl
theorem bb_told_by : BindB "told_by" "told_by" s_told_by ["web", "chosen", "left", "more"] := fun _ _ _ _ _ _ us hl => match us, hl with | [_, _, _, _], _ => rfl
theorem bb_fewest_rows : BindB "fewest_rows" "fewest_rows" s_fewest_rows ["web"] := fun _ _ _ _ _ _ us hl => match us, hl with | [_], _ => rfl
theorem bb_l_flag : BindB "_law_flag" "_law_flag" s_l_flag ["_law_told", "_law_due"] := fun _ _ _ _ _ _ us hl => match us, hl with | [_, _], _ => rfl
theorem bb_l_tape : BindB "_law_tape" "_law_tape" s_l_tape ["_law_script"] := fun _ _ _ _ _ _ us hl => match us, hl with | [_], _ => rfl
theorem bb_l_pick : BindB "_law_pick" "_law_pick" s_l_pick ["_law_tape_here", "_law_many"] := fun _ _ _ _ _ _ us hl => match us, hl with | [_, _], _ => rfl
theorem bb_l_closed : BindB "_law_closed" "_law_closed" s_l_closed ["_law_pairs_here"] := fun _ _ _ _ _ _ us hl => match us, hl with | [_], _ => rfl
theorem bb_l_pairs : BindB "_law_pairs" "_law_pairs" s_l_pairs ["_law_tape_here", "_law_many"] := fun _ _ _ _ _ _ us hl => match us, hl with | [_, _], _ => rfl
theorem bb_l_free : BindB "_law_free" "_law_free" s_l_free ["_law_befores", "_law_many", "_law_row"] := fun _ _ _ _ _ _ us hl => match us, hl with | [_, _, _], _ => rfl
theorem bb_l_orders : BindB "_law_orders" "_law_orders" s_l_orders ["_law_befores", "_law_many"] := fun _ _ _ _ _ _ us hl => match us, hl with | [_, _], _ => rfl
theorem bb_l_odd : BindB "_law_odd" "_law_odd" s_l_odd ["_law_tape_here"] := fun _ _ _ _ _ _ us hl => match us, hl with | [_], _ => rfl
theorem bb_l_is_int : BindB "_law_is_int" "_law_is_int" s_l_is_int ["_law_thing", "_law_least", "_law_most"] := fun _ _ _ _ _ _ us hl => match us, hl with | [_, _, _], _ => rfl
theorem bb_l_are_names : BindB "_law_are_names" "_law_are_names" s_l_are_names ["_law_many", "_law_thing"] := fun _ _ _ _ _ _ us hl => match us, hl with | [_, _], _ => rfl
theorem bb_l_common : BindB "_law_common" "_law_common" s_l_common ["_law_rows"] := fun _ _ _ _ _ _ us hl => match us, hl with | [_], _ => rfl
theorem bb_l_right : BindB "_law_right" "_law_right" s_l_right ["_law_rows"] := fun _ _ _ _ _ _ us hl => match us, hl with | [_], _ => rfl
theorem bb_l_fewest : BindB "_law_fewest" "_law_fewest" s_l_fewest ["_law_every", "_law_many"] := fun _ _ _ _ _ _ us hl => match us, hl with | [_, _], _ => rfl
theorem bb_l_tried : BindB "_law_tried" "_law_tried" s_l_tried ["_law_kind", "_law_thing"] := fun _ _ _ _ _ _ us hl => match us, hl with | [_, _], _ => rfl
theorem bb_l_are_rows : BindB "_law_are_rows" "_law_are_rows" s_l_are_rows ["_law_thing"] := fun _ _ _ _ _ _ us hl => match us, hl with | [_], _ => rfl
theorem bb_law : BindB "law" "law" s_law ["_law_script"] := fun _ _ _ _ _ _ us hl => match us, hl with | [_], _ => rfl
theorem bb_dW : BindB "__init__" "Web.__init__" s_Web_init ["self", "many", "befores"] := fun _ _ _ _ _ _ us hl => match us, hl with | [_, _, _], _ => rfl
theorem bb_dK : BindB "keep" "Web.keep" s_Web_keep ["self", "many", "every"] := fun _ _ _ _ _ _ us hl => match us, hl with | [_, _, _], _ => rfl
theorem bb_dE : BindB "__eq__" "Web.__eq__" s_Web_eq ["self", "other"] := fun _ _ _ _ _ _ us hl => match us, hl with | [_, _], _ => rfl
theorem bb_dR : BindB "__init__" "RawWeb.__init__" s_RawWeb_init ["self", "many", "every"] := fun _ _ _ _ _ _ us hl => match us, hl with | [_, _, _], _ => rfl
theorem bb_dT : BindB "__init__" "TooMany.__init__" s_TooMany_init ["self", "most"] := fun _ _ _ _ _ _ us hl => match us, hl with | [_, _], _ => rfl
section
variable {K : PySem.W.Frag} {h : Heap} {mg : Str → Option Value} {C D f : Addr}
theorem def_mk {x : Str} {st : Stmt} {ps : List Str} {oc : Value} {od an : Option Addr} {osl : Array (Option Value)} {kV doc pm cdv ct : Value} (X : K.In h) (G : h.Ns mainGlobals mg) (b : BindB x x st ps) (a : PySem.W.nsIn K mainGlobals x = some (some (.ref f)))
    (l : K.lookup f = some ⟨oc, od, .func (PySem.W.fnOf x x (defArgs st) (defBody st) (defScope st) .none kV doc pm an cdv ct), osl⟩) (c : PySem.W.codeIn K cdv x = true) (k : PySem.W.keepIn K (.ref f) = true) : Def K mg x st ps :=
  ⟨f, _, fun_mk l c k, (fun_mk l c k).binds b, PySem.W.mg_of X G a⟩
theorem mtd_mk {x q : Str} {st : Stmt} {ps : List Str} {oc : Value} {od an : Option Addr} {osl : Array (Option Value)} {kV doc pm cdv ct : Value} (b : BindB x q st ps)
    (l : K.lookup f = some ⟨oc, od, .func (PySem.W.fnOf x q (defArgs st) (defBody st) (defScope st) .none kV doc pm an cdv ct), osl⟩) (c : PySem.W.codeIn K cdv q = true) (k : PySem.W.keepIn K (.ref f) = true) : Mtd K x q st ps f :=
  ⟨_, fun_mk l c k, (fun_mk l c k).binds b⟩
theorem glb_mk {x : Str} {v : V} {u : Value} (X : K.In h) (G : h.Ns mainGlobals mg) (a : PySem.W.nsIn K mainGlobals x = some (some u)) (r : RelV v u) : ∃ u, mg x = some u ∧ RelV v u := ⟨u, PySem.W.mg_of X G a, r⟩
theorem kit_mine : PySem.W.kitOne K (.ref C) (.ref C) = some true := if_pos (by simp)
theorem kit_cls (h2 : PySem.W.isClsIn K D = true) (h3 : PySem.W.typeIn K (.ref D) = some (.type "type")) {b : Bool} (h4 : PySem.W.subIn K (.ref C) (.ref D) = some b) : PySem.W.kitCls K (.ref C) (.ref D) = some b := by
  have h2' : (PySem.W.clsIn K D).isSome = true := h2
  have e2 : ((PySem.W.clsIn K D).isSome && PySem.W.typeIn K (.ref D) == some (.type "type")) = true := by
    rw [h2', h3] <;> rfl
  exact (if_pos e2).trans h4
theorem kit_not (hne : C ≠ D) (h2 : PySem.W.isClsIn K D = true) (h3 : PySem.W.typeIn K (.ref D) = some (.type "type")) (h4 : PySem.W.subIn K (.ref C) (.ref D) = some false) : PySem.W.kitOne K (.ref C) (.ref D) = some false := by
  have e : ¬ ((Value.ref C == Value.ref D) = true) := by
    intro q
    have q2 := beq_iff_eq.mp q
    cases q2
    exact hne rfl
  exact (if_neg e).trans (kit_cls h2 h3 h4)
theorem exm_mk (h1 : PySem.W.subIn K (.ref D) (.type "BaseException") = some true) (h2 : PySem.W.isClsIn K D = true) (h3 : PySem.W.typeIn K (.ref D) = some (.type "type")) (h4 : PySem.W.subIn K (.ref C) (.ref D) = some true) : PySem.W.exmOne K (.ref C) (.ref D) = some true := by
  have e1 : (PySem.W.subIn K (.ref D) (.type "BaseException") == some true) = true := by rw [h1] <;> rfl
  exact (if_pos e1).trans (kit_cls h2 h3 h4)
theorem oex_mk {E N : Addr} {nm q : Str} {bs : List Value} {sn : List Str} {sub : List Value} {ab : Bool} {col : Option Bool} {dd : Option Addr} {k0 k1 k2 k3 k5 : Option Value}
    (l : K.lookup C = some (excClassObj nm q C N bs [.ref E, .type "ValueError", .type "Exception", .type "BaseException", .type "object"] true sn sub ab col dd k0 k1 k2 k3 k5 "ValueError.__new__")) (sa : PySem.W.findIn K (.ref C) "__setattr__" = some (some (.builtin "object.__setattr__")))
    (eC : PySem.W.subIn K (.ref C) (.type "BaseException") = some true) (tC : PySem.W.typeIn K (.ref C) = some (.type "type")) (kC : PySem.W.keepIn K (.ref C) = true) : OexC K C :=
  ⟨⟨_, _, _, _, _, _, _, _, _, _, _, _, _, _, _, l, rfl⟩, sa, eC, tC, kC⟩
theorem fin_mk {P : Program} {w : World} {fa : Addr} {ad : Ad} (hfa : mg "law" = some (.ref fa)) (T : Txt K mg) (F : Cf K mg ad) (b : BindB "law" "law" s_law ["_law_script"]) (X : K.In h) (G : h.Ns mainGlobals mg) {oc : Value} {od an : Option Addr} {osl : Array (Option Value)} {kV doc pm cdv ct : Value} (a : PySem.W.nsIn K mainGlobals "law" = some (some (.ref f)))
    (l : K.lookup f = some ⟨oc, od, .func (PySem.W.fnOf "law" "law" (defArgs s_law) (defBody s_law) (defScope s_law) .none kV doc pm an cdv ct), osl⟩) (c : PySem.W.codeIn K cdv "law" = true) (k : PySem.W.keepIn K (.ref f) = true) :
    ∃ fd : FuncData, (∀ (s : Shared) (u : Value), BindsTo s fd ⟨[u], []⟩ [("_law_script", u)]) ∧ ∀ base : Heap, K.In base → base.Ns mainGlobals mg → FnOk P w K mg base CX0 11 fa fd ["_law_script"] (spLaw K) := by
  have e := hfa.symm.trans (PySem.W.mg_of X G a)
  cases e
  refine ⟨PySem.W.fnOf "law" "law" (defArgs s_law) (defBody s_law) (defScope s_law) .none kV doc pm an cdv ct, fun s u => .of_eq rfl, fun base _ _ => ?_⟩
  exact ok_law0 (P := P) (w := w) (base := base) T F (fun_mk l c k)
end
theorem cf_mk {K : PySem.W.Frag} {mg : Str → Option Value} {CW CR CN CT CO fW fK fE fR fT : Addr} (mW : mg "Web" = some (.ref CW))
    (mR : mg "RawWeb" = some (.ref CR))
    (mN : mg "NoRows" = some (.ref CN))
    (mT : mg "TooMany" = some (.ref CT))
    (mO : mg "OrderError" = some (.ref CO))
    (cW : Cls K CW)
    (cR : Cls K CR)
    (nW : NoAttr K CW "many" ∧ NoAttr K CW "befores" ∧ NoAttr K CW "ahead" ∧ NoAttr K CW "later")
    (nR : NoAttr K CR "many" ∧ NoAttr K CR "befores" ∧ NoAttr K CR "ahead" ∧ NoAttr K CR "later")
    (kW : Mk K CW fW)
    (kR : Mk K CR fR)
    (eW : Meth K CW "keep" fK)
    (eR : Meth K CR "keep" fK)
    (iW : C8.InsC K CW)
    (o2 : Own2 K CR CW fE)
    (dW : Mtd K "__init__" "Web.__init__" s_Web_init ["self", "many", "befores"] fW)
    (dK : Mtd K "keep" "Web.keep" s_Web_keep ["self", "many", "every"] fK)
    (dE : Mtd K "__eq__" "Web.__eq__" s_Web_eq ["self", "other"] fE)
    (dR : Mtd K "__init__" "RawWeb.__init__" s_RawWeb_init ["self", "many", "every"] fR)
    (dT : Mtd K "__init__" "TooMany.__init__" s_TooMany_init ["self", "most"] fT)
    (xN : PySem.W.excIn K CN [.type "ValueError", .type "Exception", .type "BaseException", .type "object"] "ValueError.__new__" = true)
    (pN : PySem.W.keepIn K (.ref CN) = true)
    (bN : PySem.W.subIn K (.ref CN) (.type "BaseException") = some true)
    (tN : PySem.W.typeIn K (.ref CN) = some (.type "type"))
    (eN : ExcC K CN)
    (hNO : PySem.W.exmOne K (.ref CN) (.ref CO) = some true)
    (iNN : PySem.W.kitOne K (.ref CN) (.ref CN) = some true)
    (iNT : PySem.W.kitOne K (.ref CN) (.ref CT) = some false)
    (oT : OexC K CT)
    (iT : PySem.W.findIn K (.ref CT) "__init__" = some (some (.ref fT)))
    (tT : PySem.W.typeIn K (.ref fT) = some (.type "function"))
    (nT : PySem.W.findIn K (.ref CT) "most" = some none)
    (eT : ExcC K CT)
    (xT : XfC K CT)
    (hTO : PySem.W.exmOne K (.ref CT) (.ref CO) = some true)
    (iTN : PySem.W.kitOne K (.ref CT) (.ref CN) = some false)
    (iTT : PySem.W.kitOne K (.ref CT) (.ref CT) = some true) :
    Cf K mg ⟨CW, CR, CN, CT, CO, fW, fK, fE, fR, fT⟩ := ⟨mW, mR, mN, mT, mO, cW, cR, nW, nR, kW, kR, eW, eR, iW, o2, dW, dK, dE, dR, dT, xN, pN, bN, tN, eN, hNO, iNN, iNT, oT, iT, tT, nT, eT, xT, hTO, iTN, iTT⟩
end Ev
open PySem PySem.W PyProof.Rows
theorem PySem.Challenge.cw_evenorders_k95_whole_webs_common_to_rows_holds : PySem.Challenge.rw_evenorders_k95_whole_webs_common_to_rows.Holds := by
  w_on; o_law; k_head; (case hw => w_witness2)
  k_fill
  refine L2.walk_ofK (l := PySem.Challenge.rw_evenorders_k95_whole_webs_common_to_rows) (n := 63) (k := 11) (x := "_law_script") (CX := L2.CX0) (sp := Ev.spLaw) rfl (by decide) rfl ⟨rfl, by decide, by decide⟩ (fun w h Y => PySem.W.kIn_of Y) ?F (fun K H a ns hl _ hS => ⟨a, ns, rfl, hS, Nat.le_trans hl (by decide), fun _ => rfl⟩) (fun _ _ _ _ z => z)
  case F =>
    intro w mg fa h KX G hmg
    replace hmg : mg "law" = some (.ref fa) := hmg
    refine' Ev.fin_mk  hmg ?T ?F Ev.bb_law KX G ?la ?ll ?lc ?lk
    (case la => k_is); (case ll => k_is); (case lc => k_is); (case lk => k_is)
    case T =>
      refine' ⟨?d_is_integer, ?d_is_within, ?d_is_pair, ?d_is_listed, ?d_is_ascending, ?d_are_names, ?d_check_many, ?d_closed, ?d_are_befores, ?d_raw_web, ?d_free_names, ?d_with_name, ?d_lots_of, ?d_rests, ?d_count, ?d_all_orders, ?d_are_rows, ?d_check_rows, ?d_common_of, ?d_common_web, ?d_are_all, ?d_told_by, ?d_fewest_rows, ?d_l_flag, ?d_l_tape, ?d_l_pick, ?d_l_closed, ?d_l_pairs, ?d_l_free, ?d_l_orders, ?d_l_odd, ?d_l_is_int, ?d_l_are_names, ?d_l_common, ?d_l_right, ?d_l_fewest, ?d_l_tried, ?d_l_are_rows, ?n_len, ?n_isinstance, ?n_range, ?n_sorted, ?n_tuple, ?n_list, ?n_set, ?n_all, ?n_any, ?n_sum, ?n_int, ?n_enumerate, ?n_reversed, ?n_bool, ?g_MOST_NAMES, ?g_MOST_ROWS, ?g_MOST_TOLD⟩
      (case d_is_integer => (refine' Ev.def_mk KX G Ev.bb_is_integer ?a ?l ?c ?k; (case a => k_is); (case l => k_is); (case c => k_is); (case k => k_is)))
      (case d_is_within => (refine' Ev.def_mk KX G Ev.bb_is_within ?a ?l ?c ?k; (case a => k_is); (case l => k_is); (case c => k_is); (case k => k_is)))
      (case d_is_pair => (refine' Ev.def_mk KX G Ev.bb_is_pair ?a ?l ?c ?k; (case a => k_is); (case l => k_is); (case c => k_is); (case k => k_is)))
      (case d_is_listed => (refine' Ev.def_mk KX G Ev.bb_is_listed ?a ?l ?c ?k; (case a => k_is); (case l => k_is); (case c => k_is); (case k => k_is)))
      (case d_is_ascending => (refine' Ev.def_mk KX G Ev.bb_is_ascending ?a ?l ?c ?k; (case a => k_is); (case l => k_is); (case c => k_is); (case k => k_is)))
      (case d_are_names => (refine' Ev.def_mk KX G Ev.bb_are_names ?a ?l ?c ?k; (case a => k_is); (case l => k_is); (case c => k_is); (case k => k_is)))
      (case d_check_many => (refine' Ev.def_mk KX G Ev.bb_check_many ?a ?l ?c ?k; (case a => k_is); (case l => k_is); (case c => k_is); (case k => k_is)))
      (case d_closed => (refine' Ev.def_mk KX G Ev.bb_closed ?a ?l ?c ?k; (case a => k_is); (case l => k_is); (case c => k_is); (case k => k_is)))
      (case d_are_befores => (refine' Ev.def_mk KX G Ev.bb_are_befores ?a ?l ?c ?k; (case a => k_is); (case l => k_is); (case c => k_is); (case k => k_is)))
      (case d_raw_web => (refine' Ev.def_mk KX G Ev.bb_raw_web ?a ?l ?c ?k; (case a => k_is); (case l => k_is); (case c => k_is); (case k => k_is)))
      (case d_free_names => (refine' Ev.def_mk KX G Ev.bb_free_names ?a ?l ?c ?k; (case a => k_is); (case l => k_is); (case c => k_is); (case k => k_is)))
      (case d_with_name => (refine' Ev.def_mk KX G Ev.bb_with_name ?a ?l ?c ?k; (case a => k_is); (case l => k_is); (case c => k_is); (case k => k_is)))
      (case d_lots_of => (refine' Ev.def_mk KX G Ev.bb_lots_of ?a ?l ?c ?k; (case a => k_is); (case l => k_is); (case c => k_is); (case k => k_is)))
      (case d_rests => (refine' Ev.def_mk KX G Ev.bb_rests ?a ?l ?c ?k; (case a => k_is); (case l => k_is); (case c => k_is); (case k => k_is)))
      (case d_count => (refine' Ev.def_mk KX G Ev.bb_count ?a ?l ?c ?k; (case a => k_is); (case l => k_is); (case c => k_is); (case k => k_is)))
      (case d_all_orders => (refine' Ev.def_mk KX G Ev.bb_all_orders ?a ?l ?c ?k; (case a => k_is); (case l => k_is); (case c => k_is); (case k => k_is)))
      (case d_are_rows => (refine' Ev.def_mk KX G Ev.bb_are_rows ?a ?l ?c ?k; (case a => k_is); (case l => k_is); (case c => k_is); (case k => k_is)))
      (case d_check_rows => (refine' Ev.def_mk KX G Ev.bb_check_rows ?a ?l ?c ?k; (case a => k_is); (case l => k_is); (case c => k_is); (case k => k_is)))
      (case d_common_of => (refine' Ev.def_mk KX G Ev.bb_common_of ?a ?l ?c ?k; (case a => k_is); (case l => k_is); (case c => k_is); (case k => k_is)))
      (case d_common_web => (refine' Ev.def_mk KX G Ev.bb_common_web ?a ?l ?c ?k; (case a => k_is); (case l => k_is); (case c => k_is); (case k => k_is)))
      (case d_are_all => (refine' Ev.def_mk KX G Ev.bb_are_all ?a ?l ?c ?k; (case a => k_is); (case l => k_is); (case c => k_is); (case k => k_is)))
      (case d_told_by => (refine' Ev.def_mk KX G Ev.bb_told_by ?a ?l ?c ?k; (case a => k_is); (case l => k_is); (case c => k_is); (case k => k_is)))
      (case d_fewest_rows => (refine' Ev.def_mk KX G Ev.bb_fewest_rows ?a ?l ?c ?k; (case a => k_is); (case l => k_is); (case c => k_is); (case k => k_is)))
      (case d_l_flag => (refine' Ev.def_mk KX G Ev.bb_l_flag ?a ?l ?c ?k; (case a => k_is); (case l => k_is); (case c => k_is); (case k => k_is)))
      (case d_l_tape => (refine' Ev.def_mk KX G Ev.bb_l_tape ?a ?l ?c ?k; (case a => k_is); (case l => k_is); (case c => k_is); (case k => k_is)))
      (case d_l_pick => (refine' Ev.def_mk KX G Ev.bb_l_pick ?a ?l ?c ?k; (case a => k_is); (case l => k_is); (case c => k_is); (case k => k_is)))
      (case d_l_closed => (refine' Ev.def_mk KX G Ev.bb_l_closed ?a ?l ?c ?k; (case a => k_is); (case l => k_is); (case c => k_is); (case k => k_is)))
      (case d_l_pairs => (refine' Ev.def_mk KX G Ev.bb_l_pairs ?a ?l ?c ?k; (case a => k_is); (case l => k_is); (case c => k_is); (case k => k_is)))
      (case d_l_free => (refine' Ev.def_mk KX G Ev.bb_l_free ?a ?l ?c ?k; (case a => k_is); (case l => k_is); (case c => k_is); (case k => k_is)))
      (case d_l_orders => (refine' Ev.def_mk KX G Ev.bb_l_orders ?a ?l ?c ?k; (case a => k_is); (case l => k_is); (case c => k_is); (case k => k_is)))
      (case d_l_odd => (refine' Ev.def_mk KX G Ev.bb_l_odd ?a ?l ?c ?k; (case a => k_is); (case l => k_is); (case c => k_is); (case k => k_is)))
      (case d_l_is_int => (refine' Ev.def_mk KX G Ev.bb_l_is_int ?a ?l ?c ?k; (case a => k_is); (case l => k_is); (case c => k_is); (case k => k_is)))
      (case d_l_are_names => (refine' Ev.def_mk KX G Ev.bb_l_are_names ?a ?l ?c ?k; (case a => k_is); (case l => k_is); (case c => k_is); (case k => k_is)))
      (case d_l_common => (refine' Ev.def_mk KX G Ev.bb_l_common ?a ?l ?c ?k; (case a => k_is); (case l => k_is); (case c => k_is); (case k => k_is)))
      (case d_l_right => (refine' Ev.def_mk KX G Ev.bb_l_right ?a ?l ?c ?k; (case a => k_is); (case l => k_is); (case c => k_is); (case k => k_is)))
      (case d_l_fewest => (refine' Ev.def_mk KX G Ev.bb_l_fewest ?a ?l ?c ?k; (case a => k_is); (case l => k_is); (case c => k_is); (case k => k_is)))
      (case d_l_tried => (refine' Ev.def_mk KX G Ev.bb_l_tried ?a ?l ?c ?k; (case a => k_is); (case l => k_is); (case c => k_is); (case k => k_is)))
      (case d_l_are_rows => (refine' Ev.def_mk KX G Ev.bb_l_are_rows ?a ?l ?c ?k; (case a => k_is); (case l => k_is); (case c => k_is); (case k => k_is)))
      (case n_len => (refine' PySem.W.mg_none_of KX G ?a; (case a => k_is)))
      (case n_isinstance => (refine' PySem.W.mg_none_of KX G ?a; (case a => k_is)))
      (case n_range => (refine' PySem.W.mg_none_of KX G ?a; (case a => k_is)))
      (case n_sorted => (refine' PySem.W.mg_none_of KX G ?a; (case a => k_is)))
      (case n_tuple => (refine' PySem.W.mg_none_of KX G ?a; (case a => k_is)))
      (case n_list => (refine' PySem.W.mg_none_of KX G ?a; (case a => k_is)))
      (case n_set => (refine' PySem.W.mg_none_of KX G ?a; (case a => k_is)))
      (case n_all => (refine' PySem.W.mg_none_of KX G ?a; (case a => k_is)))
      (case n_any => (refine' PySem.W.mg_none_of KX G ?a; (case a => k_is)))
      (case n_sum => (refine' PySem.W.mg_none_of KX G ?a; (case a => k_is)))
      (case n_int => (refine' PySem.W.mg_none_of KX G ?a; (case a => k_is)))
      (case n_enumerate => (refine' PySem.W.mg_none_of KX G ?a; (case a => k_is)))
      (case n_reversed => (refine' PySem.W.mg_none_of KX G ?a; (case a => k_is)))
      (case n_bool => (refine' PySem.W.mg_none_of KX G ?a; (case a => k_is)))
      (case g_MOST_NAMES => (refine' Ev.glb_mk KX G ?a ?r; (case a => k_is); (case r => exact ⟨_, rfl⟩)))
      (case g_MOST_ROWS => (refine' Ev.glb_mk KX G ?a ?r; (case a => k_is); (case r => exact ⟨_, rfl⟩)))
      (case g_MOST_TOLD => (refine' Ev.glb_mk KX G ?a ?r; (case a => k_is); (case r => exact ⟨_, rfl⟩)))
    case F =>
      refine' Ev.cf_mk ?mW ?mR ?mN ?mT ?mO ?cW ?cR ?nW ?nR ?kW ?kR ?eW ?eR ?iW ?o2 ?dW ?dK ?dE ?dR ?dT ?xN ?pN ?bN ?tN ?eN ?hNO ?iNN ?iNT ?oT ?iT ?tT ?nT ?eT ?xT ?hTO ?iTN ?iTT
      (case mW => (refine' PySem.W.mg_of KX G ?a; (case a => k_is)))
      (case mR => (refine' PySem.W.mg_of KX G ?a; (case a => k_is)))
      (case mN => (refine' PySem.W.mg_of KX G ?a; (case a => k_is)))
      (case mT => (refine' PySem.W.mg_of KX G ?a; (case a => k_is)))
      (case mO => (refine' PySem.W.mg_of KX G ?a; (case a => k_is)))
      (case kW => (refine' ⟨?mk, ?i, ?f, ?k⟩; (case mk => k_is); (case i => k_is); (case f => k_is); (case k => k_is)))
      (case kR => (refine' ⟨?mk, ?i, ?f, ?k⟩; (case mk => k_is); (case i => k_is); (case f => k_is); (case k => k_is)))
      (case eW => (refine' ⟨?i, ?f, ?k⟩; (case i => k_is); (case f => k_is); (case k => k_is)))
      (case eR => (refine' ⟨?i, ?f, ?k⟩; (case i => k_is); (case f => k_is); (case k => k_is)))
      (case o2 => (refine' ⟨?e, ?n, ?m, ?z, ?f⟩; (case e => k_is); (case n => k_is); (case m => k_is); (case z => k_is); (case f => k_is)))
      (case iT => k_is)
      (case cW => (refine' ⟨?pg, ?hd, ?po, ?sa⟩; (case pg => k_is); (case hd => k_is); (case po => k_is); (case sa => k_is)))
      (case cR => (refine' ⟨?pg, ?hd, ?po, ?sa⟩; (case pg => k_is); (case hd => k_is); (case po => k_is); (case sa => k_is)))
      (case nW => (refine' ⟨?a, ?b, ?c, ?d⟩; (case a => (show PySem.W.findIn _ _ _ = _; k_is)); (case b => (show PySem.W.findIn _ _ _ = _; k_is)); (case c => (show PySem.W.findIn _ _ _ = _; k_is)); (case d => (show PySem.W.findIn _ _ _ = _; k_is))))
      (case nR => (refine' ⟨?a, ?b, ?c, ?d⟩; (case a => (show PySem.W.findIn _ _ _ = _; k_is)); (case b => (show PySem.W.findIn _ _ _ = _; k_is)); (case c => (show PySem.W.findIn _ _ _ = _; k_is)); (case d => (show PySem.W.findIn _ _ _ = _; k_is))))
      (case iW => (refine' ⟨⟨?pg, ?hd, ?po, ?sa⟩, ?ha, ?hn, ?ht, ?hm, Ev.kit_mine⟩; (case pg => k_is); (case hd => k_is); (case po => k_is); (case sa => k_is); (case ha => k_is); (case hn => k_is); (case ht => k_is); (case hm => k_is)))
      (case dW => (refine' Ev.mtd_mk Ev.bb_dW ?l ?c ?k; (case l => k_is); (case c => k_is); (case k => k_is)))
      (case dK => (refine' Ev.mtd_mk Ev.bb_dK ?l ?c ?k; (case l => k_is); (case c => k_is); (case k => k_is)))
      (case dE => (refine' Ev.mtd_mk Ev.bb_dE ?l ?c ?k; (case l => k_is); (case c => k_is); (case k => k_is)))
      (case dR => (refine' Ev.mtd_mk Ev.bb_dR ?l ?c ?k; (case l => k_is); (case c => k_is); (case k => k_is)))
      (case dT => (refine' Ev.mtd_mk Ev.bb_dT ?l ?c ?k; (case l => k_is); (case c => k_is); (case k => k_is)))
      (case xN => k_exc)
      (case pN => k_is)
      (case bN => k_is)
      (case tN => k_is)
      (case eN => (refine' ⟨?a, ?b, ?c, ?d, ?e, ?f, ?g, ?h⟩; (case a => k_is); (case b => k_is); (case c => k_is); (case d => k_is); (case e => k_is); (case f => k_is); (case g => k_is); (case h => k_is)))
      (case eT => (refine' ⟨?a, ?b, ?c, ?d, ?e, ?f, ?g, ?h⟩; (case a => k_is); (case b => k_is); (case c => k_is); (case d => k_is); (case e => k_is); (case f => k_is); (case g => k_is); (case h => k_is)))
      (case hNO => (refine' Ev.exm_mk ?a ?b ?c ?d; (case a => k_is); (case b => k_is); (case c => k_is); (case d => k_is)))
      (case hTO => (refine' Ev.exm_mk ?a ?b ?c ?d; (case a => k_is); (case b => k_is); (case c => k_is); (case d => k_is)))
      (case iNN => exact Ev.kit_mine)
      (case iTT => exact Ev.kit_mine)
      (case iNT => (refine' Ev.kit_not ?n ?a ?b ?c; (case n => decide); (case a => k_is); (case b => k_is); (case c => k_is)))
      (case iTN => (refine' Ev.kit_not ?n ?a ?b ?c; (case n => decide); (case a => k_is); (case b => k_is); (case c => k_is)))
      (case oT => (refine' Ev.oex_mk ?l ?a ?b ?c ?d; (case l => k_is); (case a => k_is); (case b => k_is); (case c => k_is); (case d => k_is)))
      (case tT => k_is)
      (case nT => k_is)
      (case xT => (refine' ⟨?a, ?b, ?c, ?d⟩; (case a => k_is); (case b => k_is); (case c => k_is); (case d => k_is)))
