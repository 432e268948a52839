import PyProof.Rows.All
import Wide.All
import OpenK.AllK
import Wide.FinOn
import HandS.ForMost
import HandS.IsInst
import HandS.SortKw
import HandS.Zip
import HandS.Flow
import HandS.Steps
import PySem.Challenge.RW_baycart_k57_whole_ticks_and_skips
import KE.DataMinMax
import KE.KDictKeyed
import KE.KeyNested
import HandS.Walk
set_option Elab.async false
set_option maxRecDepth 100000
set_option maxHeartbeats 4000000
set_option linter.all false
/-! The plain law, part 1: the row of bays, the itinerary, one stop, the run over all stops. -/
namespace Bay
structure Par where
  n : Nat
  tk : Nat → Int
  src : Nat → Nat
  dst : Nat → Nat
  gaps : List Int
  most : Nat
def Par.L (p : Par) : Nat := p.gaps.length
def Par.g (p : Par) (i : Nat) : Int := p.gaps.getD i 0
def Par.R (p : Par) : Int := 2 * p.gaps.sum
def Par.dir (p : Par) (i : Nat) : Bool := decide (p.src i < p.dst i)
structure Par.Ok (p : Par) : Prop where
  hL : 1 ≤ p.L
  hg : ∀ x ∈ p.gaps, 1 ≤ x
  hm : 1 ≤ p.most
  tk0 : ∀ i, i < p.n → 0 ≤ p.tk i
  srt : ∀ i j, i ≤ j → j < p.n → p.tk i ≤ p.tk j
  sb : ∀ i, i < p.n → p.src i ≤ p.L
  db : ∀ i, i < p.n → p.dst i ≤ p.L
  ne : ∀ i, i < p.n → p.src i ≠ p.dst i

section itinerary
variable (p : Par)
def ph (k : Nat) : Nat := k % (2 * p.L)
def bay (k : Nat) : Nat := if ph p k ≤ p.L then ph p k else 2 * p.L - ph p k
def up (k : Nat) : Bool := decide (ph p k < p.L)
def len (k : Nat) : Int := if ph p k < p.L then p.g (ph p k) else p.g (2 * p.L - 1 - ph p k)
def time : Nat → Int
  | 0 => 0
  | k + 1 => time k + len p k
variable {p}
theorem ph_lt (o : p.Ok) (k : Nat) : ph p k < 2 * p.L := Nat.mod_lt _ (by have := o.hL; omega)
theorem ph_zero : ph p 0 = 0 := Nat.zero_mod _
theorem ph_succ (o : p.Ok) (k : Nat) : ph p (k + 1) = if ph p k + 1 < 2 * p.L then ph p k + 1 else 0 := by
  have h := ph_lt o k
  have e : ph p (k + 1) = (ph p k + 1) % (2 * p.L) := by
    unfold ph
    rw [Nat.add_mod, Nat.add_mod (k % (2 * p.L)) 1, Nat.mod_mod]
  rw [e]
  by_cases c : ph p k + 1 < 2 * p.L
  · rw [if_pos c, Nat.mod_eq_of_lt c]
  · have : ph p k + 1 = 2 * p.L := by omega
    rw [if_neg c, this, Nat.mod_self]
theorem ph_round (k q : Nat) : ph p (k + 2 * p.L * q) = ph p k := by
  unfold ph
  rw [Nat.add_mul_mod_self_left]
theorem bay_zero : bay p 0 = 0 := by unfold bay; rw [ph_zero]; simp
theorem up_zero (o : p.Ok) : up p 0 = true := by
  unfold up; rw [ph_zero]; have := o.hL; exact decide_eq_true (by omega)
theorem bay_le (o : p.Ok) (k : Nat) : bay p k ≤ p.L := by
  have := ph_lt o k
  unfold bay; split <;> omega
theorem up_iff (k : Nat) : up p k = true ↔ ph p k < p.L := by unfold up; simp
theorem up_false_iff (k : Nat) : up p k = false ↔ p.L ≤ ph p k := by unfold up; simp
theorem bay_up {k : Nat} (h : up p k = true) : bay p k = ph p k ∧ bay p k < p.L := by
  have := (up_iff k).mp h
  unfold bay; rw [if_pos (by omega)]; exact ⟨rfl, this⟩
theorem bay_down (o : p.Ok) {k : Nat} (h : up p k = false) : bay p k = 2 * p.L - ph p k ∧ 1 ≤ bay p k := by
  have h1 := (up_false_iff k).mp h
  have h2 := ph_lt o k
  unfold bay
  split <;> omega
theorem bay_succ_up (o : p.Ok) {k : Nat} (h : up p k = true) : bay p (k + 1) = bay p k + 1 := by
  have h1 := (up_iff k).mp h
  have h2 := ph_succ o k
  have := o.hL
  rw [if_pos (by omega)] at h2
  rw [(bay_up h).1]
  unfold bay
  rw [h2]; split <;> omega
theorem bay_succ_down (o : p.Ok) {k : Nat} (h : up p k = false) : bay p (k + 1) = bay p k - 1 := by
  have h1 := (up_false_iff k).mp h
  have h2 := ph_succ o k
  have h3 := ph_lt o k
  rw [(bay_down o h).1]
  by_cases c : ph p k + 1 < 2 * p.L
  · rw [if_pos c] at h2
    unfold bay
    rw [h2]; split <;> omega
  · rw [if_neg c] at h2
    unfold bay
    rw [h2]; split <;> omega
theorem up_succ_up (o : p.Ok) {k : Nat} (h : up p k = true) : up p (k + 1) = decide (bay p (k + 1) < p.L) := by
  have h1 := (up_iff k).mp h
  have h2 := ph_succ o k
  have := o.hL
  rw [if_pos (by omega)] at h2
  rw [bay_succ_up o h, (bay_up h).1]
  unfold up
  rw [h2]
theorem up_succ_down (o : p.Ok) {k : Nat} (h : up p k = false) : up p (k + 1) = decide (bay p (k + 1) = 0) := by
  have h1 := (up_false_iff k).mp h
  have h2 := ph_succ o k
  have h3 := ph_lt o k
  have h4 := o.hL
  rw [bay_succ_down o h, (bay_down o h).1]
  unfold up
  by_cases c : ph p k + 1 < 2 * p.L
  · rw [if_pos c] at h2
    rw [h2]
    rw [decide_eq_false (by omega), decide_eq_false (by omega)]
  · rw [if_neg c] at h2
    rw [h2]
    rw [decide_eq_true (by omega), decide_eq_true (by omega)]
theorem len_up {k : Nat} (h : up p k = true) : len p k = p.g (bay p k) := by
  unfold len
  rw [if_pos ((up_iff k).mp h), (bay_up h).1]
theorem len_down (o : p.Ok) {k : Nat} (h : up p k = false) : len p k = p.g (bay p k - 1) := by
  have h1 := (up_false_iff k).mp h
  unfold len
  rw [if_neg (by omega), (bay_down o h).1]
  congr 1
  have := ph_lt o k
  omega
theorem g_pos (o : p.Ok) {i : Nat} (h : i < p.L) : 1 ≤ p.g i := by
  unfold Par.g
  have h' : i < p.gaps.length := h
  rw [List.getD_eq_getElem?_getD, List.getElem?_eq_getElem h']
  exact o.hg _ (List.getElem_mem h')
theorem len_pos (o : p.Ok) (k : Nat) : 1 ≤ len p k := by
  have h2 := ph_lt o k
  unfold len
  split
  · exact g_pos o (by assumption)
  · exact g_pos o (by omega)
theorem time_succ (k : Nat) : time p (k + 1) = time p k + len p k := rfl
theorem time_lt (o : p.Ok) (k : Nat) : time p k < time p (k + 1) := by
  have := len_pos o k
  rw [time_succ]; omega
theorem time_mono (o : p.Ok) {j k : Nat} (h : j ≤ k) : time p j ≤ time p k := by
  induction h with
  | refl => exact Int.le_refl _
  | step _ ih => exact Int.le_trans ih (Int.le_of_lt (time_lt o _))
theorem time_smono (o : p.Ok) {j k : Nat} (h : j < k) : time p j < time p k :=
  Int.lt_of_lt_of_le (time_lt o j) (time_mono o h)
theorem time_inj (o : p.Ok) {j k : Nat} (h : time p j = time p k) : j = k := by
  rcases Nat.lt_trichotomy j k with c | c | c
  · have := time_smono o c; omega
  · exact c
  · have := time_smono o c; omega
theorem time_le_iff (o : p.Ok) {j k : Nat} : time p j ≤ time p k ↔ j ≤ k := by
  constructor
  · intro h
    rcases Nat.lt_or_ge k j with c | c
    · have := time_smono o c; omega
    · exact c
  · exact time_mono o
theorem time_lt_iff (o : p.Ok) {j k : Nat} : time p j < time p k ↔ j < k := by
  constructor
  · intro h
    rcases Nat.lt_or_ge j k with c | c
    · exact c
    · have := time_mono o c; omega
  · exact time_smono o
theorem time_nonneg (o : p.Ok) (k : Nat) : 0 ≤ time p k := time_mono o (Nat.zero_le k)
theorem time_ge (o : p.Ok) : ∀ k : Nat, (k : Int) ≤ time p k
  | 0 => Int.le_refl _
  | k + 1 => by
    have := time_ge o k
    have := time_lt o k
    omega
-- the round
theorem ph_of_lt {k : Nat} (h : k < 2 * p.L) : ph p k = k := Nat.mod_eq_of_lt h
theorem sum_take_succ (l : List Int) (i : Nat) (h : i < l.length) : (l.take (i + 1)).sum = (l.take i).sum + l.getD i 0 := by
  rw [List.take_add_one, List.getD_eq_getElem?_getD, List.getElem?_eq_getElem h, List.sum_append]
  show _ + (([l[i]] : List Int).sum) = _
  simp only [List.sum_cons, List.sum_nil, Option.getD_some]
  omega
theorem time_first : ∀ k : Nat, k ≤ p.L → time p k = (p.gaps.take k).sum
  | 0, _ => by simp [time]
  | k + 1, h => by
    have ih := time_first k (by omega)
    have e : ph p k = k := ph_of_lt (by omega)
    rw [time_succ, ih]
    unfold len
    rw [e, if_pos (by omega)]
    exact (sum_take_succ _ _ h).symm
theorem time_second : ∀ j : Nat, j ≤ p.L → time p (p.L + j) = 2 * p.gaps.sum - (p.gaps.take (p.L - j)).sum
  | 0, _ => by
    rw [Nat.add_zero, time_first _ (Nat.le_refl _), Nat.sub_zero]
    have : p.gaps.take p.L = p.gaps := List.take_length
    rw [this]; omega
  | j + 1, h => by
    have ih := time_second j (by omega)
    have e : ph p (p.L + j) = p.L + j := ph_of_lt (by omega)
    show time p ((p.L + j) + 1) = _
    rw [time_succ, ih]
    unfold len
    rw [e, if_neg (by omega)]
    have q : 2 * p.L - 1 - (p.L + j) = p.L - (j + 1) := by omega
    rw [q]
    have s := sum_take_succ p.gaps (p.L - (j + 1)) (by show p.L - (j + 1) < p.L; omega)
    have z : p.L - (j + 1) + 1 = p.L - j := by omega
    rw [z] at s
    unfold Par.g
    omega
theorem time_period : time p (2 * p.L) = p.R := by
  have := time_second p.L (Nat.le_refl _)
  have e : p.L + p.L = 2 * p.L := by omega
  rw [e] at this
  rw [this]
  simp [Par.R]
theorem len_round (k q : Nat) : len p (k + 2 * p.L * q) = len p k := by unfold len; rw [ph_round]
theorem bay_round (k q : Nat) : bay p (k + 2 * p.L * q) = bay p k := by unfold bay; rw [ph_round]
theorem up_round (k q : Nat) : up p (k + 2 * p.L * q) = up p k := by unfold up; rw [ph_round]
theorem time_shift : ∀ k : Nat, time p (k + 2 * p.L) = time p k + p.R
  | 0 => by rw [Nat.zero_add, time_period]; simp [time]
  | k + 1 => by
    have ih := time_shift k
    have e : k + 1 + 2 * p.L = (k + 2 * p.L) + 1 := by omega
    have := len_round (p := p) k 1
    rw [Nat.mul_one] at this
    rw [e, time_succ, ih, this, time_succ]
    omega
theorem time_round (k : Nat) : ∀ q : Nat, time p (k + 2 * p.L * q) = time p k + q * p.R
  | 0 => by simp
  | q + 1 => by
    have ih := time_round k q
    have e : k + 2 * p.L * (q + 1) = (k + 2 * p.L * q) + 2 * p.L := by rw [Nat.mul_add]; omega
    rw [e, time_shift, ih]
    have : ((q + 1 : Nat) : Int) * p.R = q * p.R + p.R := by
      rw [Int.natCast_add, Int.add_mul]; simp
    rw [this]; omega
theorem R_pos (o : p.Ok) : 2 ≤ p.R := by
  have h1 := time_ge o (2 * p.L)
  rw [time_period] at h1
  have := o.hL
  omega
end itinerary
end Bay

/-! The plain law, part 2: one stop, the run over all stops, what holds ahead of each stop. -/
namespace Bay
structure M where
  tak : Nat → Option Int
  hom : Nat → Option Int
  rid : List Nat
  arr : List Nat
def M.init : M := ⟨fun _ => none, fun _ => none, [], []⟩
/-- what waits at bay b for direction u, of the first c orders -/
def lineOf (p : Par) (c : Nat) (tak : Nat → Option Int) (b : Nat) (u : Bool) : List Nat :=
  (List.range c).filter fun i => decide (p.src i = b) && (p.dir i == u) && (tak i).isNone
/-- how many orders have come by a tick -/
def come (p : Par) (t : Int) : Nat := ((List.range p.n).filter fun i => decide (p.tk i ≤ t)).length
def outOf (p : Par) (b : Nat) (s : M) : List Nat := s.rid.filter fun i => decide (p.dst i = b)
def keptOf (p : Par) (b : Nat) (s : M) : List Nat := s.rid.filter fun i => !decide (p.dst i = b)
def newOf (p : Par) (t : Int) (b : Nat) (u : Bool) (s : M) : List Nat := (lineOf p (come p t) s.tak b u).take (p.most - (keptOf p b s).length)
def stopM (p : Par) (t : Int) (b : Nat) (u : Bool) (s : M) : M where
  tak := fun i => if i ∈ newOf p t b u s then some t else s.tak i
  hom := fun i => if i ∈ outOf p b s then some t else s.hom i
  rid := keptOf p b s ++ newOf p t b u s
  arr := s.arr ++ outOf p b s
def run (p : Par) : Nat → M
  | 0 => M.init
  | k + 1 => stopM p (time p k) (bay p k) (up p k) (run p k)

section
variable {p : Par}
theorem mem_line {c : Nat} {tak : Nat → Option Int} {b : Nat} {u : Bool} {i : Nat} :
    i ∈ lineOf p c tak b u ↔ i < c ∧ p.src i = b ∧ p.dir i = u ∧ tak i = none := by
  unfold lineOf
  rw [List.mem_filter]
  simp [and_assoc]
theorem line_nodup {c : Nat} {tak : Nat → Option Int} {b : Nat} {u : Bool} : (lineOf p c tak b u).Nodup :=
  List.Nodup.sublist List.filter_sublist List.nodup_range
/-- the orders that have come are the first ones -/
theorem come_iff_aux (f : Nat → Int) : ∀ n : Nat, (∀ i j, i ≤ j → j < n → f i ≤ f j) → ∀ t : Int,
    ((List.range n).filter fun i => decide (f i ≤ t)).length ≤ n ∧
    (∀ i, i < n → (f i ≤ t ↔ i < ((List.range n).filter fun i => decide (f i ≤ t)).length))
  | 0, _, t => ⟨by simp, fun i h => by omega⟩
  | n + 1, hs, t => by
    obtain ⟨h1, h2⟩ := come_iff_aux f n (fun i j h hj => hs i j h (by omega)) t
    rw [List.range_succ, List.filter_append]
    by_cases c : f n ≤ t
    · have e : (List.range n).filter (fun i => decide (f i ≤ t)) = List.range n := by
        rw [List.filter_eq_self]
        intro a ha
        have : a < n := List.mem_range.mp ha
        have := hs a n (by omega) (by omega)
        exact decide_eq_true (by omega)
      rw [e]
      have e2 : ([n].filter fun i => decide (f i ≤ t)) = [n] := by simp [c]
      rw [e2]
      simp only [List.length_append, List.length_range, List.length_singleton]
      refine ⟨Nat.le_refl _, fun i hi => ⟨fun _ => hi, fun _ => ?_⟩⟩
      have := hs i n (by omega) (by omega)
      omega
    · have e2 : ([n].filter fun i => decide (f i ≤ t)) = [] := by simp [c]
      rw [e2, List.append_nil]
      refine ⟨by omega, fun i hi => ?_⟩
      by_cases hi' : i < n
      · exact h2 i hi'
      · have : i = n := by omega
        subst this
        constructor
        · intro z; exact absurd z c
        · intro z; omega
theorem come_le (o : p.Ok) (t : Int) : come p t ≤ p.n := (come_iff_aux p.tk p.n o.srt t).1
theorem come_iff (o : p.Ok) (t : Int) {i : Nat} (h : i < p.n) : p.tk i ≤ t ↔ i < come p t := (come_iff_aux p.tk p.n o.srt t).2 i h
/-- the count of those that have come is told by its two sides -/
theorem come_eq (o : p.Ok) {t : Int} {c : Nat} (hc : c ≤ p.n) (h1 : ∀ i, i < c → p.tk i ≤ t) (h2 : c < p.n → t < p.tk c) : c = come p t := by
  have hl := come_le o t
  rcases Nat.lt_trichotomy c (come p t) with z | z | z
  · have := (come_iff o t (show c < p.n by omega)).mpr z
    have := h2 (by omega)
    omega
  · exact z
  · have := (come_iff o t (show come p t < p.n by omega)).mp (h1 _ z)
    omega

/-- what holds ahead of stop k -/
structure Good (p : Par) (k : Nat) (s : M) : Prop where
  takB : ∀ i t, s.tak i = some t → i < p.n ∧ ∃ j, j < k ∧ t = time p j ∧ bay p j = p.src i
  homB : ∀ i t, s.hom i = some t → ∃ j, j < k ∧ t = time p j ∧ bay p j = p.dst i
  ht : ∀ i, s.hom i ≠ none → s.tak i ≠ none
  rid : ∀ i, i ∈ s.rid ↔ s.tak i ≠ none ∧ s.hom i = none
  ridN : s.rid.Nodup
  arr : ∀ i, i ∈ s.arr ↔ s.hom i ≠ none
  arrN : s.arr.Nodup
  most : s.rid.length ≤ p.most
  ahead : ∀ i, i ∈ s.rid → ∃ j, k = j + 1 ∧ p.dir i = up p j ∧ (p.dir i = true → bay p k ≤ p.dst i) ∧ (p.dir i = false → p.dst i ≤ bay p k)
theorem good_init : Good p 0 M.init where
  takB := fun _ _ h => nomatch h
  homB := fun _ _ h => nomatch h
  ht := fun _ h => absurd rfl h
  rid := fun i => ⟨fun h => (nomatch h), fun h => absurd rfl h.1⟩
  ridN := List.nodup_nil
  arr := fun i => ⟨fun h => (nomatch h), fun h => absurd rfl h⟩
  arrN := List.nodup_nil
  most := Nat.zero_le _
  ahead := fun _ h => nomatch h
theorem mem_out {b : Nat} {s : M} {i : Nat} : i ∈ outOf p b s ↔ i ∈ s.rid ∧ p.dst i = b := by unfold outOf; rw [List.mem_filter]; simp
theorem mem_kept {b : Nat} {s : M} {i : Nat} : i ∈ keptOf p b s ↔ i ∈ s.rid ∧ p.dst i ≠ b := by unfold keptOf; rw [List.mem_filter]; simp
theorem mem_new (o : p.Ok) {t : Int} {b : Nat} {u : Bool} {s : M} {i : Nat} (h : i ∈ newOf p t b u s) : i < p.n ∧ p.src i = b ∧ p.dir i = u ∧ s.tak i = none := by
  obtain ⟨h1, h2, h3, h4⟩ := mem_line.mp (List.mem_of_mem_take h)
  exact ⟨Nat.lt_of_lt_of_le h1 (come_le o _), h2, h3, h4⟩
theorem new_nodup {t : Int} {b : Nat} {u : Bool} {s : M} : (newOf p t b u s).Nodup := List.Nodup.sublist (List.take_sublist _ _) line_nodup
theorem new_len {t : Int} {b : Nat} {u : Bool} {s : M} : (newOf p t b u s).length ≤ p.most - (keptOf p b s).length := List.length_take_le _ _
theorem kept_len {b : Nat} {s : M} : (keptOf p b s).length ≤ s.rid.length := List.length_filter_le _ _
theorem good_step (o : p.Ok) {k : Nat} {s : M} (G : Good p k s) : Good p (k + 1) (stopM p (time p k) (bay p k) (up p k) s) := by
  have hb := bay_le o k
  have new : ∀ i, i ∈ newOf p (time p k) (bay p k) (up p k) s → i < p.n ∧ p.src i = bay p k ∧ p.dir i = up p k ∧ s.tak i = none := fun i hi => mem_new o hi
  have newN : (newOf p (time p k) (bay p k) (up p k) s).Nodup := new_nodup
  have lnw : (newOf p (time p k) (bay p k) (up p k) s).length ≤ p.most - (keptOf p (bay p k) s).length := new_len
  have lkept : (keptOf p (bay p k) s).length ≤ p.most := Nat.le_trans kept_len G.most
  have mout : ∀ i, i ∈ outOf p (bay p k) s ↔ i ∈ s.rid ∧ p.dst i = bay p k := fun i => mem_out
  have mkept : ∀ i, i ∈ keptOf p (bay p k) s ↔ i ∈ s.rid ∧ p.dst i ≠ bay p k := fun i => mem_kept
  have outN : (outOf p (bay p k) s).Nodup := List.Nodup.sublist List.filter_sublist G.ridN
  have keptN : (keptOf p (bay p k) s).Nodup := List.Nodup.sublist List.filter_sublist G.ridN
  unfold stopM
  generalize newOf p (time p k) (bay p k) (up p k) s = nw at new newN lnw
  generalize outOf p (bay p k) s = out at mout outN
  generalize keptOf p (bay p k) s = kept at mkept keptN lkept lnw
  have nothome : ∀ i, s.tak i = none → s.hom i = none := fun i h => by
    cases e : s.hom i with
    | none => rfl
    | some v => exact absurd h (G.ht i (by rw [e]; simp))
  refine ⟨fun i t h => ?_, fun i t h => ?_, fun i h => ?_, fun i => ?_, ?_, fun i => ?_, ?_, ?_, fun i h => ?_⟩
  · by_cases c : i ∈ nw
    · simp only [if_pos c] at h
      obtain ⟨a, b, _⟩ := new i c
      exact ⟨a, k, by omega, (Option.some.inj h).symm, b.symm⟩
    · simp only [if_neg c] at h
      obtain ⟨a, j, b, d, e⟩ := G.takB i t h
      exact ⟨a, j, by omega, d, e⟩
  · by_cases c : i ∈ out
    · simp only [if_pos c] at h
      exact ⟨k, by omega, (Option.some.inj h).symm, ((mout i).mp c).2.symm⟩
    · simp only [if_neg c] at h
      obtain ⟨j, b, d⟩ := G.homB i t h
      exact ⟨j, by omega, d⟩
  · by_cases c : i ∈ nw
    · simp [if_pos c]
    · simp only [if_neg c]
      by_cases c2 : i ∈ out
      · exact ((G.rid i).mp ((mout i).mp c2).1).1
      · simp only [if_neg c2] at h
        exact G.ht i h
  · rw [List.mem_append, mkept]
    by_cases c : i ∈ nw
    · obtain ⟨a, b, d, e⟩ := new i c
      have nr : i ∉ s.rid := fun z => ((G.rid i).mp z).1 e
      have no : i ∉ out := fun z => nr ((mout i).mp z).1
      simp only [if_pos c, if_neg no]
      exact ⟨fun _ => ⟨by simp, nothome i e⟩, fun _ => .inr c⟩
    · simp only [if_neg c]
      by_cases c2 : i ∈ out
      · simp only [if_pos c2]
        exact ⟨fun z => z.elim (fun z => absurd ((mout i).mp c2).2 z.2) (fun z => absurd z c), fun z => nomatch z.2⟩
      · simp only [if_neg c2]
        rw [← G.rid i]
        refine ⟨fun z => z.elim (fun z => z.1) (fun z => absurd z c), fun z => .inl ⟨z, fun q => c2 ((mout i).mpr ⟨z, q⟩)⟩⟩
  · rw [List.nodup_append]
    refine ⟨keptN, newN, fun a ha b hb e => ?_⟩
    subst e
    exact ((G.rid a).mp ((mkept a).mp ha).1).1 (new a hb).2.2.2
  · rw [List.mem_append, G.arr]
    by_cases c2 : i ∈ out
    · simp [c2]
    · simp only [if_neg c2]
      exact ⟨fun z => z.elim id (fun z => absurd z c2), fun z => .inl z⟩
  · rw [List.nodup_append]
    refine ⟨G.arrN, outN, fun a ha b hb e => ?_⟩
    subst e
    exact ((G.arr a).mp ha) ((G.rid a).mp ((mout a).mp hb).1).2
  · rw [List.length_append]
    omega
  · refine ⟨k, rfl, ?_⟩
    rw [List.mem_append, mkept] at h
    rcases h with ⟨h, hd⟩ | h
    · obtain ⟨j, ek, e1, e2, e3⟩ := G.ahead i h
      have hin : i < p.n := by
        have := ((G.rid i).mp h).1
        cases q : s.tak i with
        | none => exact absurd q this
        | some t => exact (G.takB i t q).1
      have hdb := o.db i hin
      cases hu : p.dir i with
      | true =>
        have l := e2 hu
        rw [hu] at e1
        have u1 : up p k = true := by
          rw [ek, up_succ_up o e1.symm, ← ek]
          exact decide_eq_true (by omega)
        refine ⟨u1.symm, fun _ => ?_, fun z => nomatch z⟩
        rw [bay_succ_up o u1]; omega
      | false =>
        have l := e3 hu
        rw [hu] at e1
        have u1 : up p k = false := by
          rw [ek, up_succ_down o e1.symm, ← ek]
          exact decide_eq_false (by omega)
        refine ⟨u1.symm, fun z => (nomatch z), fun _ => ?_⟩
        rw [bay_succ_down o u1]; omega
    · obtain ⟨a, b, d, e⟩ := new i h
      have ne := o.ne i a
      cases hu : p.dir i with
      | true =>
        have u1 : up p k = true := by rw [← d]; exact hu
        have : p.src i < p.dst i := of_decide_eq_true hu
        refine ⟨u1.symm, fun _ => ?_, fun z => nomatch z⟩
        rw [bay_succ_up o u1]; omega
      | false =>
        have u1 : up p k = false := by rw [← d]; exact hu
        have : ¬ p.src i < p.dst i := of_decide_eq_false hu
        refine ⟨u1.symm, fun z => (nomatch z), fun _ => ?_⟩
        rw [bay_succ_down o u1]; omega
theorem good_run (o : p.Ok) : ∀ k : Nat, Good p k (run p k)
  | 0 => good_init
  | k + 1 => good_step o (good_run o k)
/-! written once -/
theorem tak_step (k i : Nat) : (run p (k + 1)).tak i = (run p k).tak i ∨ ((run p k).tak i = none ∧ (run p (k + 1)).tak i = some (time p k)) := by
  show (stopM p (time p k) (bay p k) (up p k) (run p k)).tak i = _ ∨ (_ ∧ (stopM p (time p k) (bay p k) (up p k) (run p k)).tak i = _)
  unfold stopM
  dsimp only
  split
  · rename_i h
    exact .inr ⟨(mem_line.mp (List.mem_of_mem_take h)).2.2.2, rfl⟩
  · exact .inl rfl
theorem hom_step (k i : Nat) (G : Good p k (run p k)) : (run p (k + 1)).hom i = (run p k).hom i ∨ ((run p k).hom i = none ∧ (run p (k + 1)).hom i = some (time p k)) := by
  show (stopM p (time p k) (bay p k) (up p k) (run p k)).hom i = _ ∨ (_ ∧ (stopM p (time p k) (bay p k) (up p k) (run p k)).hom i = _)
  unfold stopM
  dsimp only
  split
  · rename_i h
    exact .inr ⟨((G.rid i).mp (mem_out.mp h).1).2, rfl⟩
  · exact .inl rfl
theorem tak_keep (o : p.Ok) {k m : Nat} (h : k ≤ m) {i : Nat} {t : Int} (e : (run p k).tak i = some t) : (run p m).tak i = some t := by
  induction h with
  | refl => exact e
  | step _ ih =>
    rcases tak_step _ i with q | ⟨q, _⟩
    · rw [q]; exact ih
    · rw [ih] at q; cases q
theorem hom_keep (o : p.Ok) {k m : Nat} (h : k ≤ m) {i : Nat} {t : Int} (e : (run p k).hom i = some t) : (run p m).hom i = some t := by
  induction h with
  | refl => exact e
  | step _ ih =>
    rcases hom_step _ i (good_run o _) with q | ⟨q, _⟩
    · rw [q]; exact ih
    · rw [ih] at q; cases q
theorem tak_back (o : p.Ok) {k m : Nat} (h : k ≤ m) {i : Nat} {t : Int} (e : (run p m).tak i = some t) (ht : t < time p k) : (run p k).tak i = some t := by
  induction h with
  | refl => exact e
  | @step m hm ih =>
    rcases tak_step _ i with q | ⟨_, q⟩
    · rw [q] at e; exact ih e
    · rw [q] at e
      have e' : time p m = t := Option.some.inj e
      have := time_mono o hm
      omega
theorem hom_back (o : p.Ok) {k m : Nat} (h : k ≤ m) {i : Nat} {t : Int} (e : (run p m).hom i = some t) (ht : t < time p k) : (run p k).hom i = some t := by
  induction h with
  | refl => exact e
  | @step m hm ih =>
    rcases hom_step _ i (good_run o m) with q | ⟨_, q⟩
    · rw [q] at e; exact ih e
    · rw [q] at e
      have e' : time p m = t := Option.some.inj e
      have := time_mono o hm
      omega
end
end Bay

set_option linter.unusedVariables false
/-! The plain law, part 3: all is home by a bound; what the law asks. -/
namespace Bay
section
variable {p : Par}
/-- the orders that are not yet taken ahead of stop k -/
def untak (p : Par) (k : Nat) : List Nat := (List.range p.n).filter fun i => ((run p k).tak i).isNone
theorem mem_untak {k i : Nat} : i ∈ untak p k ↔ i < p.n ∧ (run p k).tak i = none := by
  unfold untak; rw [List.mem_filter]; simp
theorem untak_nodup {k : Nat} : (untak p k).Nodup := List.Nodup.sublist List.filter_sublist List.nodup_range
theorem untak_len {k : Nat} : (untak p k).length ≤ p.n := by
  have := List.length_filter_le (fun i => ((run p k).tak i).isNone) (List.range p.n)
  rw [List.length_range] at this
  exact this
/-- an order waits at stop k and is not taken: the trolley is full behind it -/
theorem full_of (o : p.Ok) {k i : Nat} (hi : i < p.n) (ht : p.tk i ≤ time p k) (hb : bay p k = p.src i) (hu : up p k = p.dir i) (hn : (run p (k + 1)).tak i = none) : ∃ r, r ∈ (run p (k + 1)).rid := by
  have hn0 : (run p k).tak i = none := by
    rcases tak_step (p := p) k i with q | ⟨q, _⟩
    · rw [← q]; exact hn
    · exact q
  have hin : i ∈ lineOf p (come p (time p k)) (run p k).tak (bay p k) (up p k) :=
    mem_line.mpr ⟨(come_iff o _ hi).mp ht, hb.symm, hu.symm, hn0⟩
  have nnew : i ∉ newOf p (time p k) (bay p k) (up p k) (run p k) := fun z => by
    have e : (run p (k + 1)).tak i = (if i ∈ newOf p (time p k) (bay p k) (up p k) (run p k) then some (time p k) else (run p k).tak i) := rfl
    rw [if_pos z] at e
    rw [e] at hn; cases hn
  have hr : (run p (k + 1)).rid = keptOf p (bay p k) (run p k) ++ newOf p (time p k) (bay p k) (up p k) (run p k) := rfl
  cases e : (run p (k + 1)).rid with
  | cons r rest => exact ⟨r, List.mem_cons_self⟩
  | nil =>
    rw [e] at hr
    have h1 := List.append_eq_nil_iff.mp hr.symm
    have hm := o.hm
    have z : newOf p (time p k) (bay p k) (up p k) (run p k) = (lineOf p (come p (time p k)) (run p k).tak (bay p k) (up p k)).take (p.most - (keptOf p (bay p k) (run p k)).length) := rfl
    rw [h1.1, h1.2, List.length_nil, Nat.sub_zero] at z
    cases e2 : lineOf p (come p (time p k)) (run p k).tak (bay p k) (up p k) with
    | nil => rw [e2] at hin; cases hin
    | cons a r =>
      rw [e2] at z
      cases e3 : p.most with
      | zero => omega
      | succ m => rw [e3] at z; cases z
/-- at bay 0 the trolley is emptied -/
theorem anchor_empty (o : p.Ok) (q : Nat) {i : Nat} (h : i ∈ (run p (2 * p.L * q)).rid) : (run p (2 * p.L * q + 1)).hom i ≠ none := by
  have hb : bay p (2 * p.L * q) = 0 := by
    have := bay_round (p := p) 0 q
    rw [Nat.zero_add] at this
    rw [this, bay_zero]
  have G := good_run o (2 * p.L * q)
  obtain ⟨j, e, e1, e2, e3⟩ := G.ahead i h
  have hd : p.dst i = 0 := by
    cases hu : p.dir i with
    | false => have := e3 hu; omega
    | true =>
      exfalso
      rw [hu] at e1
      have l := (bay_up e1.symm).2
      have s := bay_succ_up o e1.symm
      rw [← e, hb] at s
      omega
  have : (run p (2 * p.L * q + 1)).hom i = (if i ∈ outOf p (bay p (2 * p.L * q)) (run p (2 * p.L * q)) then some (time p (2 * p.L * q)) else (run p (2 * p.L * q)).hom i) := rfl
  rw [this, if_pos (mem_out.mpr ⟨h, by rw [hd, hb]⟩)]
  simp
/-- where a box waits for its direction: a stop of each round -/
theorem stop_of (o : p.Ok) {i : Nat} (hi : i < p.n) (q : Nat) : ∃ k, 2 * p.L * q ≤ k ∧ k < 2 * p.L * (q + 1) ∧ bay p k = p.src i ∧ up p k = p.dir i := by
  have hs := o.sb i hi
  have hd := o.db i hi
  have hne := o.ne i hi
  have hL := o.hL
  have e : 2 * p.L * (q + 1) = 2 * p.L * q + 2 * p.L := by rw [Nat.mul_add]; omega
  cases hu : p.dir i with
  | true =>
    have l : p.src i < p.dst i := of_decide_eq_true hu
    refine ⟨p.src i + 2 * p.L * q, by omega, by omega, ?_, ?_⟩
    · rw [bay_round]
      unfold bay; rw [ph_of_lt (by omega), if_pos (by omega)]
    · rw [up_round]
      unfold up; rw [ph_of_lt (by omega)]; exact decide_eq_true (by omega)
  | false =>
    have l : ¬ p.src i < p.dst i := of_decide_eq_false hu
    refine ⟨(2 * p.L - p.src i) + 2 * p.L * q, by omega, by omega, ?_, ?_⟩
    · rw [bay_round]
      unfold bay; rw [ph_of_lt (by omega)]
      split <;> omega
    · rw [up_round]
      unfold up; rw [ph_of_lt (by omega)]; exact decide_eq_false (by omega)
theorem tak_none_back (o : p.Ok) {k m : Nat} (h : k ≤ m) {i : Nat} (e : (run p m).tak i = none) : (run p k).tak i = none := by
  cases q : (run p k).tak i with
  | none => rfl
  | some t => rw [tak_keep o h q] at e; cases e
/-- in a round behind the last tick one more is taken -/
theorem untak_less (o : p.Ok) (q : Nat) (hT : ∀ i, i < p.n → p.tk i ≤ time p (2 * p.L * q)) (hpos : untak p (2 * p.L * q) ≠ []) :
    (untak p (2 * p.L * (q + 1))).length < (untak p (2 * p.L * q)).length := by
  have e : 2 * p.L * (q + 1) = 2 * p.L * q + 2 * p.L := by rw [Nat.mul_add]; omega
  have hle : 2 * p.L * q ≤ 2 * p.L * (q + 1) := by omega
  have sub : untak p (2 * p.L * (q + 1)) ⊆ untak p (2 * p.L * q) := fun i hi => by
    obtain ⟨h1, h2⟩ := mem_untak.mp hi
    exact mem_untak.mpr ⟨h1, tak_none_back o hle h2⟩
  -- one that is not there any more
  obtain ⟨r, hr1, hr2⟩ : ∃ r, r ∈ untak p (2 * p.L * q) ∧ r ∉ untak p (2 * p.L * (q + 1)) := by
    obtain ⟨i, hi⟩ := List.exists_mem_of_ne_nil _ hpos
    by_cases c : i ∈ untak p (2 * p.L * (q + 1))
    · obtain ⟨hin, hn⟩ := mem_untak.mp c
      obtain ⟨k, k1, k2, kb, ku⟩ := stop_of o hin q
      obtain ⟨r, hr⟩ := full_of o hin (Int.le_trans (hT i hin) (time_mono o k1)) kb ku (tak_none_back o (show k + 1 ≤ _ by omega) hn)
      have G := good_run o (k + 1)
      obtain ⟨hrt, hrh⟩ := (G.rid r).mp hr
      obtain ⟨t, ht⟩ : ∃ t, (run p (k + 1)).tak r = some t := Option.ne_none_iff_exists'.mp hrt
      have hrn := (G.takB r t ht).1
      refine ⟨r, mem_untak.mpr ⟨hrn, ?_⟩, fun z => ?_⟩
      · cases q0 : (run p (2 * p.L * q)).tak r with
        | none => rfl
        | some t' =>
          exfalso
          have G0 := good_run o (2 * p.L * q)
          -- it rides at the anchor, or is home
          have hh : (run p (2 * p.L * q + 1)).hom r ≠ none := by
            cases q1 : (run p (2 * p.L * q)).hom r with
            | none => exact anchor_empty o q ((G0.rid r).mpr ⟨by rw [q0]; simp, q1⟩)
            | some h => rw [hom_keep o (Nat.le_succ _) q1]; simp
          obtain ⟨h, hh'⟩ := Option.ne_none_iff_exists'.mp hh
          rw [hom_keep o (show 2 * p.L * q + 1 ≤ k + 1 by omega) hh'] at hrh
          cases hrh
      · obtain ⟨_, z⟩ := mem_untak.mp z
        rw [tak_keep o (show k + 1 ≤ _ by omega) ht] at z
        cases z
    · exact ⟨i, hi, c⟩
  have nd : (r :: untak p (2 * p.L * (q + 1))).Nodup := List.nodup_cons.mpr ⟨hr2, untak_nodup⟩
  have := nd.length_le_of_subset (l₂ := untak p (2 * p.L * q)) (fun i hi => by
    rcases List.mem_cons.mp hi with h | h
    · rw [h]; exact hr1
    · exact sub h)
  rw [List.length_cons] at this
  omega
theorem untak_nil (o : p.Ok) (q0 : Nat) (hT : ∀ i, i < p.n → p.tk i ≤ time p (2 * p.L * q0)) : ∀ m : Nat, (untak p (2 * p.L * (q0 + m))).length ≤ p.n - m
  | 0 => untak_len
  | m + 1 => by
    have ih := untak_nil o q0 hT m
    by_cases c : untak p (2 * p.L * (q0 + m)) = []
    · have : untak p (2 * p.L * (q0 + m + 1)) = [] := by
        cases e : untak p (2 * p.L * (q0 + m + 1)) with
        | nil => rfl
        | cons i r =>
          have hi : i ∈ untak p (2 * p.L * (q0 + m + 1)) := by rw [e]; exact List.mem_cons_self
          obtain ⟨h1, h2⟩ := mem_untak.mp hi
          have : i ∈ untak p (2 * p.L * (q0 + m)) := mem_untak.mpr ⟨h1, tak_none_back o (Nat.mul_le_mul_left _ (by omega)) h2⟩
          rw [c] at this; cases this
      show (untak p (2 * p.L * (q0 + m + 1))).length ≤ _
      rw [this]; exact Nat.zero_le _
    · have := untak_less o (q0 + m) (fun i hi => Int.le_trans (hT i hi) (time_mono o (Nat.mul_le_mul_left _ (by omega)))) c
      show (untak p (2 * p.L * (q0 + m + 1))).length ≤ _
      omega
/-- the last tick of an order -/
def Par.last (p : Par) : Int := if p.n = 0 then 0 else p.tk (p.n - 1)
/-- the first round's number behind the last tick -/
def q0 (p : Par) : Nat := (p.last / p.R + 1).toNat
/-- the stop at bay 0 behind which all is home -/
def kLast (p : Par) : Nat := 2 * p.L * (q0 p + p.n)
theorem time_anchor (q : Nat) : time p (2 * p.L * q) = q * p.R := by
  have := time_round (p := p) 0 q
  rw [Nat.zero_add] at this
  rw [this]; simp [time]
theorem last_nonneg (o : p.Ok) : 0 ≤ p.last := by
  unfold Par.last; split
  · exact Int.le_refl _
  · exact o.tk0 _ (by omega)
theorem q0_bounds (o : p.Ok) : p.last ≤ (q0 p : Int) * p.R ∧ (q0 p : Int) * p.R ≤ p.last + p.R := by
  have hR := R_pos o
  have h0 := last_nonneg o
  have hq : 0 ≤ p.last / p.R := Int.ediv_nonneg h0 (by omega)
  have e : ((q0 p : Nat) : Int) = p.last / p.R + 1 := by unfold q0; omega
  rw [e, Int.add_mul, Int.one_mul]
  have h1 := Int.emod_nonneg p.last (b := p.R) (by omega)
  have h2 := Int.emod_lt_of_pos p.last (b := p.R) (by omega)
  have h3 := Int.mul_ediv_add_emod p.last p.R
  rw [Int.mul_comm] at h3
  omega
theorem le_last (o : p.Ok) {i : Nat} (h : i < p.n) : p.tk i ≤ p.last := by
  unfold Par.last
  rw [if_neg (by omega)]
  exact o.srt i _ (by omega) (by omega)
theorem all_taken (o : p.Ok) {i : Nat} (h : i < p.n) : (run p (kLast p)).tak i ≠ none := fun z => by
  have := untak_nil o (q0 p) (fun j hj => by rw [time_anchor]; exact Int.le_trans (le_last o hj) (q0_bounds o).1) p.n
  rw [Nat.sub_self] at this
  have hm : i ∈ untak p (2 * p.L * (q0 p + p.n)) := mem_untak.mpr ⟨h, z⟩
  rw [List.eq_nil_of_length_eq_zero (Nat.le_zero.mp this)] at hm
  cases hm
theorem all_home (o : p.Ok) {i : Nat} (h : i < p.n) : (run p (kLast p + 1)).hom i ≠ none := by
  cases q1 : (run p (kLast p)).hom i with
  | none => exact anchor_empty o _ (((good_run o _).rid i).mpr ⟨all_taken o h, q1⟩)
  | some t => rw [hom_keep o (Nat.le_succ _) q1]; simp
theorem time_kLast (o : p.Ok) : time p (kLast p) ≤ p.last + (p.n + 1) * p.R := by
  unfold kLast
  rw [time_anchor, Int.natCast_add, Int.add_mul, Int.add_mul, Int.one_mul]
  have := (q0_bounds o).2
  omega
/-! ### the end -/
def fT (p : Par) (i : Nat) : Int := ((run p (kLast p + 1)).tak i).getD 0
def fH (p : Par) (i : Nat) : Int := ((run p (kLast p + 1)).hom i).getD 0
theorem tak_end (o : p.Ok) {i : Nat} (h : i < p.n) : (run p (kLast p + 1)).tak i = some (fT p i) := by
  obtain ⟨t, e⟩ := Option.ne_none_iff_exists'.mp (all_taken o h)
  have := tak_keep o (Nat.le_succ _) e
  unfold fT
  rw [this]; rfl
theorem hom_end (o : p.Ok) {i : Nat} (h : i < p.n) : (run p (kLast p + 1)).hom i = some (fH p i) := by
  obtain ⟨t, e⟩ := Option.ne_none_iff_exists'.mp (all_home o h)
  unfold fH
  rw [e]; rfl
theorem fH_le (o : p.Ok) {i : Nat} (h : i < p.n) : fH p i ≤ p.last + (p.n + 1) * p.R := by
  obtain ⟨j, hj, e, _⟩ := (good_run o _).homB i _ (hom_end o h)
  rw [e]
  exact Int.le_trans (time_mono o (by omega)) (time_kLast o)
theorem fH_nonneg (o : p.Ok) {i : Nat} (h : i < p.n) : 0 ≤ fH p i := by
  obtain ⟨j, hj, e, _⟩ := (good_run o _).homB i _ (hom_end o h)
  rw [e]; exact time_nonneg o _
/-- a state behind the ticks up to t -/
def At (p : Par) (k : Nat) (t : Int) : Prop := t < time p k ∧ ∀ j, j < k → time p j ≤ t
theorem tak_at (o : p.Ok) {k : Nat} {t : Int} (A : At p k t) {i : Nat} (h : i < p.n) : (run p k).tak i ≠ none ↔ fT p i ≤ t := by
  constructor
  · intro z
    obtain ⟨s, e⟩ := Option.ne_none_iff_exists'.mp z
    obtain ⟨_, j, hj, es, _⟩ := (good_run o k).takB i s e
    have : s = fT p i := by
      rcases Nat.le_total k (kLast p + 1) with c | c
      · have := tak_keep o c e
        rw [tak_end o h] at this
        exact (Option.some.inj this).symm
      · have := tak_keep o c (tak_end o h)
        rw [e] at this
        exact Option.some.inj this
    rw [← this, es]
    exact A.2 j hj
  · intro z
    rcases Nat.le_total k (kLast p + 1) with c | c
    · rw [tak_back o c (tak_end o h) (Int.lt_of_le_of_lt z A.1)]; simp
    · rw [tak_keep o c (tak_end o h)]; simp
theorem hom_at (o : p.Ok) {k : Nat} {t : Int} (A : At p k t) {i : Nat} (h : i < p.n) : (run p k).hom i ≠ none ↔ fH p i ≤ t := by
  constructor
  · intro z
    obtain ⟨s, e⟩ := Option.ne_none_iff_exists'.mp z
    obtain ⟨j, hj, es, _⟩ := (good_run o k).homB i s e
    have : s = fH p i := by
      rcases Nat.le_total k (kLast p + 1) with c | c
      · have := hom_keep o c e
        rw [hom_end o h] at this
        exact (Option.some.inj this).symm
      · have := hom_keep o c (hom_end o h)
        rw [e] at this
        exact Option.some.inj this
    rw [← this, es]
    exact A.2 j hj
  · intro z
    rcases Nat.le_total k (kLast p + 1) with c | c
    · rw [hom_back o c (hom_end o h) (Int.lt_of_le_of_lt z A.1)]; simp
    · rw [hom_keep o c (hom_end o h)]; simp
theorem rid_lt (o : p.Ok) {k i : Nat} (h : i ∈ (run p k).rid) : i < p.n := by
  have G := good_run o k
  obtain ⟨s, e⟩ := Option.ne_none_iff_exists'.mp ((G.rid i).mp h).1
  exact (G.takB i s e).1
theorem arr_lt (o : p.Ok) {k i : Nat} (h : i ∈ (run p k).arr) : i < p.n := by
  have G := good_run o k
  obtain ⟨s, e⟩ := Option.ne_none_iff_exists'.mp (G.ht i ((G.arr i).mp h))
  exact (G.takB i s e).1
/-- those that ride behind tick t are those whose ticks lie about it -/
theorem rid_perm (o : p.Ok) {k : Nat} {t : Int} (A : At p k t) : ((run p k).rid).Perm ((List.range p.n).filter fun i => decide (fT p i ≤ t) && decide (t < fH p i)) := by
  have G := good_run o k
  refine (List.perm_ext_iff_of_nodup G.ridN (List.Nodup.sublist List.filter_sublist List.nodup_range)).mpr fun i => ?_
  rw [List.mem_filter, G.rid, List.mem_range]
  constructor
  · intro z
    have hi := rid_lt o ((G.rid i).mpr z)
    refine ⟨hi, ?_⟩
    rw [decide_eq_true ((tak_at o A hi).mp z.1), Bool.true_and]
    refine decide_eq_true ?_
    rcases Int.lt_or_le t (fH p i) with c | c
    · exact c
    · exact absurd z.2 ((hom_at o A hi).mpr c)
  · rintro ⟨hi, z⟩
    rw [Bool.and_eq_true] at z
    refine ⟨(tak_at o A hi).mpr (of_decide_eq_true z.1), ?_⟩
    cases e : (run p k).hom i with
    | none => rfl
    | some s =>
      have := (hom_at o A hi).mp (by rw [e]; simp)
      have := of_decide_eq_true z.2
      omega
theorem arr_perm (o : p.Ok) {k : Nat} {t : Int} (A : At p k t) : ((run p k).arr).Perm ((List.range p.n).filter fun i => decide (fH p i ≤ t)) := by
  have G := good_run o k
  refine (List.perm_ext_iff_of_nodup G.arrN (List.Nodup.sublist List.filter_sublist List.nodup_range)).mpr fun i => ?_
  rw [List.mem_filter, G.arr, List.mem_range]
  constructor
  · intro z
    have hi := arr_lt o ((G.arr i).mpr z)
    exact ⟨hi, decide_eq_true ((hom_at o A hi).mp z)⟩
  · rintro ⟨hi, z⟩
    exact (hom_at o A hi).mpr (of_decide_eq_true z)
/-- a box is taken at its bay, put at the one that it wants -/
theorem fT_stop (o : p.Ok) {i : Nat} (h : i < p.n) : ∃ j, fT p i = time p j ∧ bay p j = p.src i := by
  obtain ⟨_, j, _, e, b⟩ := (good_run o _).takB i _ (tak_end o h)
  exact ⟨j, e, b⟩
theorem fH_stop (o : p.Ok) {i : Nat} (h : i < p.n) : ∃ j, fH p i = time p j ∧ bay p j = p.dst i := by
  obtain ⟨j, _, e, b⟩ := (good_run o _).homB i _ (hom_end o h)
  exact ⟨j, e, b⟩
/-! ### how many are not home; the end of the tour -/
theorem arr_len (o : p.Ok) (k : Nat) : (run p k).arr.length ≤ p.n := by
  have := (good_run o k).arrN.length_le_of_subset (l₂ := List.range p.n) fun i hi => List.mem_range.mpr (arr_lt o hi)
  rw [List.length_range] at this
  exact this
theorem home_of_full (o : p.Ok) {k : Nat} (e : (run p k).arr.length = p.n) {i : Nat} (h : i < p.n) : (run p k).hom i ≠ none := by
  rw [← (good_run o k).arr]
  refine Decidable.byContradiction fun z => ?_
  have nd : (i :: (run p k).arr).Nodup := List.nodup_cons.mpr ⟨z, (good_run o k).arrN⟩
  have := nd.length_le_of_subset (l₂ := List.range p.n) fun j hj => by
    rcases List.mem_cons.mp hj with q | q
    · rw [q]; exact List.mem_range.mpr h
    · exact List.mem_range.mpr (arr_lt o q)
  rw [List.length_range, List.length_cons] at this
  omega
theorem full_of_home (o : p.Ok) {k : Nat} (e : ∀ i, i < p.n → (run p k).hom i ≠ none) : (run p k).arr.length = p.n := by
  have h1 := arr_len o k
  have h2 := (List.nodup_range (n := p.n)).length_le_of_subset (l₂ := (run p k).arr) fun i hi => ((good_run o k).arr i).mpr (e i (List.mem_range.mp hi))
  rw [List.length_range] at h2
  omega
/-- while not all are home the stop is at most the last one -/
theorem le_kLast (o : p.Ok) {k : Nat} (h : (run p k).arr.length < p.n) : k ≤ kLast p := by
  rcases Nat.lt_or_ge (kLast p) k with c | c
  · exfalso
    have := full_of_home o (k := k) fun i hi => by rw [hom_keep o c (hom_end o hi)]; simp
    omega
  · exact c
/-- when all are home the ticks are those of the end -/
theorem tak_full (o : p.Ok) {k : Nat} (e : (run p k).arr.length = p.n) {i : Nat} (h : i < p.n) : (run p k).tak i = some (fT p i) ∧ (run p k).hom i = some (fH p i) := by
  have h1 := home_of_full o e h
  have h2 := (good_run o k).ht i h1
  obtain ⟨s, e1⟩ := Option.ne_none_iff_exists'.mp h1
  obtain ⟨t, e2⟩ := Option.ne_none_iff_exists'.mp h2
  rcases Nat.le_total k (kLast p + 1) with c | c
  · have a := tak_keep o c e2
    have b := hom_keep o c e1
    rw [tak_end o h] at a
    rw [hom_end o h] at b
    rw [e1, e2, ← a, ← b]
    exact ⟨rfl, rfl⟩
  · exact ⟨tak_keep o c (tak_end o h), hom_keep o c (hom_end o h)⟩
/-! ### rounds in which nothing is done -/
theorem run_still (o : p.Ok) {k c : Nat} (hr : (run p k).rid = []) (hc : ∀ i, i < c → (run p k).tak i ≠ none) : ∀ m : Nat, (∀ j, k ≤ j → j < k + m → c < p.n → time p j < p.tk c) → run p (k + m) = run p k
  | 0, _ => rfl
  | m + 1, h => by
    have ih := run_still o hr hc m fun j h1 h2 => h j h1 (by omega)
    show stopM p (time p (k + m)) (bay p (k + m)) (up p (k + m)) (run p (k + m)) = _
    rw [ih]
    have hk : keptOf p (bay p (k + m)) (run p k) = [] := by unfold keptOf; rw [hr]; rfl
    have ho : outOf p (bay p (k + m)) (run p k) = [] := by unfold outOf; rw [hr]; rfl
    have hn : newOf p (time p (k + m)) (bay p (k + m)) (up p (k + m)) (run p k) = [] := by
      unfold newOf
      have : lineOf p (come p (time p (k + m))) (run p k).tak (bay p (k + m)) (up p (k + m)) = [] := by
        cases e : lineOf p (come p (time p (k + m))) (run p k).tak (bay p (k + m)) (up p (k + m)) with
        | nil => rfl
        | cons i r =>
          exfalso
          have hi : i ∈ lineOf p (come p (time p (k + m))) (run p k).tak (bay p (k + m)) (up p (k + m)) := by rw [e]; exact List.mem_cons_self
          obtain ⟨h1, _, _, h4⟩ := mem_line.mp hi
          have hin : i < p.n := Nat.lt_of_lt_of_le h1 (come_le o _)
          have ht := (come_iff o _ hin).mpr h1
          rcases Nat.lt_or_ge i c with z | z
          · exact hc i z h4
          · have l := h (k + m) (by omega) (by omega) (by omega)
            have := o.srt c i z hin
            omega
      rw [this]; simp
    cases e : run p k with
    | mk a b r f =>
      unfold stopM
      rw [e] at hk ho hn hr
      rw [hk, ho, hn]
      dsimp only at hr
      subst hr
      simp
end
end Bay

/-! The walk, part 0: the text by places, what the top has written. -/
namespace Bay
open PySem L2
def top (i : Nat) : Stmt := PySem.Challenge.pw_baycart_k57_whole_ticks_and_skips.main.body.getD i (.Pass ⟨0, 0, 0, 0⟩)
abbrev sIsWhole : Stmt := top 7
abbrev sIsName : Stmt := top 8
abbrev sIsBetween : Stmt := top 15
abbrev sLookAisle : Stmt := top 16
abbrev sIsOrder : Stmt := top 17
abbrev sLookOrders : Stmt := top 18
abbrev sIsUpward : Stmt := top 20
abbrev sRoundOf : Stmt := top 21
abbrev sTourInit : Stmt := inClass (top 23) 0
abbrev sSkip : Stmt := inClass (top 23) 1
abbrev sLieDown : Stmt := inClass (top 23) 2
abbrev sStop : Stmt := inClass (top 23) 3
abbrev sTourLeave : Stmt := inClass (top 23) 4
abbrev sHomesOf : Stmt := top 24
abbrev sEndOf : Stmt := top 25
abbrev sNamesOf : Stmt := top 27
abbrev sSweepInit : Stmt := inClass (top 28) 0
abbrev sNextTick : Stmt := inClass (top 28) 1
abbrev sTurn : Stmt := inClass (top 28) 2
abbrev sPut : Stmt := inClass (top 28) 3
abbrev sTake : Stmt := inClass (top 28) 4
abbrev sSweepLeave : Stmt := inClass (top 28) 5
abbrev sLPool : Stmt := top 30
abbrev sLTake : Stmt := top 31
abbrev sLAisle : Stmt := top 32
abbrev sLName : Stmt := top 33
abbrev sLOrders : Stmt := top 34
abbrev sLAreHomes : Stmt := top 35
abbrev sLAlike : Stmt := top 36
abbrev sLaw : Stmt := top 37
/-- a def of the top that keeps a promise, as its callers name it -/
structure Df (P : Program) (w : World) (K : PySem.W.Frag) (mg : Str → Option Value) (base : Heap) (k : Nat) (x : Str) (ps : List Str) (sp : Sp) (f : Addr) (fd : FuncData) : Prop where
  ok : FnOk P w K mg base CX0 k f fd ps sp
  gl : mg x = some (.ref f)
  kp : PySem.W.keepIn K (.ref f) = true
  bd : Binds K fd ps []
/-- a method that keeps a promise -/
structure Mf (P : Program) (w : World) (K : PySem.W.Frag) (mg : Str → Option Value) (base : Heap) (k : Nat) (C : Addr) (x : Str) (ps : List Str) (sp : Sp) (f : Addr) (fd : FuncData) : Prop where
  ok : FnOk P w K mg base CX0 k f fd ps sp
  me : Meth K C x f
  bd : Binds K fd ps []
theorem Df.mono {P w K mg base k j x ps sp f fd} (D : Df P w K mg base k x ps sp f fd) (h : k ≤ j) : Df P w K mg base j x ps sp f fd := ⟨D.ok.mono h, D.gl, D.kp, D.bd⟩
/-- built-in names that the text has not bound, constants -/
structure Txt (mg : Str → Option Value) : Prop where
  isinstance : mg "isinstance" = none
  int : mg "int" = none
  bool : mg "bool" = none
  str : mg "str" = none
  tuple : mg "tuple" = none
  list : mg "list" = none
  len : mg "len" = none
  all : mg "all" = none
  sum : mg "sum" = none
  max : mg "max" = none
  min : mg "min" = none
  range : mg "range" = none
  zip : mg "zip" = none
  sorted : mg "sorted" = none
  letters : ∃ t, mg "LETTERS" = some (.str "abcdefghijklmnopqrstuvwxyz" t)
  longest : ∃ t, mg "LONGEST" = some (.int 8 t)
  mostGaps : ∃ t, mg "MOST_GAPS" = some (.int 15 t)
  longestGap : ∃ t, mg "LONGEST_GAP" = some (.int 1000 t)
  mostLoad : ∃ t, mg "MOST_LOAD" = some (.int 20 t)
  mostOrders : ∃ t, mg "MOST_ORDERS" = some (.int 60 t)
  latest : ∃ t, mg "LATEST" = some (.int 1000000000 t)
end Bay

namespace Bay
open PySem L2
theorem bt_isinstance : bootBuiltins "isinstance" = some (.builtin "isinstance") := by decide +kernel
theorem bt_int : bootBuiltins "int" = some (.type "int") := by decide +kernel
theorem bt_bool : bootBuiltins "bool" = some (.type "bool") := by decide +kernel
theorem bt_str : bootBuiltins "str" = some (.type "str") := by decide +kernel
theorem bt_tuple : bootBuiltins "tuple" = some (.type "tuple") := by decide +kernel
theorem bt_list : bootBuiltins "list" = some (.type "list") := by decide +kernel
theorem bt_all : bootBuiltins "all" = some (.builtin "all") := by decide +kernel
theorem bt_sum : bootBuiltins "sum" = some (.builtin "sum") := by decide +kernel
theorem bt_max : bootBuiltins "max" = some (.builtin "max") := by decide +kernel
theorem bt_min : bootBuiltins "min" = some (.builtin "min") := by decide +kernel
theorem bt_sorted : bootBuiltins "sorted" = some (.builtin "sorted") := by decide +kernel
def spIsWhole : Sp := fun vs H Q _ => ∃ i : Int, vs = [.int i] ∧ Q (.bl true) H
section
variable {P : Program} {w : World} {K : PySem.W.Frag} {mg : Str → Option Value} {base : Heap}
theorem scIsWhole : FnScope ["thing"] ["thing"] (defScope sIsWhole) := ⟨rfl, rfl, rfl, by decide +kernel, rfl, by decide +kernel, by decide +kernel⟩
theorem ok_isWhole {f : Addr} {fd : FuncData} (F : Fun K "is_whole" "is_whole" sIsWhole f fd) (T : Txt mg) : FnOk P w K mg base CX0 1 f fd ["thing"] spIsWhole := by
  refine F.ok scIsWhole (fun vs H Q E h => ?_) (fun cdv A outer s H vs Q E hr h => ?_)
  · obtain ⟨i, rfl, _⟩ := h
    rfl
  · obtain ⟨i, rfl, k⟩ := h
    refine ⟨_, pss_one (ps_ret (pe_and (pe_callB call_isi (by rfl) T.isinstance bt_isinstance (pa_cons (pv 0) (pa_cons (pe_bltn (v := .ty "int") (by rfl) T.int bt_int rfl) pa_nil)))
      (pe_one (pe_not (pe_callB call_isi (by rfl) T.isinstance bt_isinstance (pa_cons (pv 0) (pa_cons (pe_bltn (v := .ty "bool") (by rfl) T.bool bt_bool rfl) pa_nil))))))), ?_⟩
    refine ⟨_, rfl, _, _, _, _, _, rfl, .ty "int", .base (.int i), kit_ty (r := true) (by decide +kernel), _, rfl, iteT ?_⟩
    exact ⟨_, rfl, _, _, _, _, _, rfl, .ty "bool", .base (.int i), kit_ty (r := false) (by decide +kernel), _, rfl, k⟩
end
end Bay

/-! Rules of our own: max(.., default=d), sign * n, a dict whose keys are (int, bool). -/
namespace Bay
open PySem PySem.Spec PyProof.Rows L2
section
variable {X : Cx}
theorem reads_ints {h : Heap} : ∀ {ns : List Int} {its : List Value}, Vals (ns.map V.int) its → ReadsAll h its (ns.map PyData.int) []
  | [], _, .nil => .nil
  | n :: ns, _, .cons r t => by
    obtain ⟨tk, rfl⟩ := r
    exact .cons (as := []) (bs := []) (.int n tk) (reads_ints t)
theorem depth_ints : ∀ ns : List Int, PyData.depthAll (ns.map PyData.int) = 0
  | [] => rfl
  | n :: ns => by
    show max (PyData.depth (.int n)) (PyData.depthAll (ns.map PyData.int)) = 0
    rw [depth_ints ns]
    rfl
/-- max(ns, default=d) of a list of ints -/
def rMaxDef (K : PySem.W.Frag) : List V → List V → Hp → VK → Prop := fun vs zs H Q => ∃ (a : Addr) (ns : List Int) (d : V), vs = [V.ref a] ∧ zs = [d] ∧ SqL K H a (ns.map V.int) ∧ (ns = [] → Q d H) ∧ ∀ n r, ns = n :: r → Q (.int (r.foldl max n)) H
theorem cr_maxDef {k : Nat} (hc : X.calm = true) (hr : Room k X.A) : CallRK X (.builtin "max") [Str.ofString "default"] (rMaxDef X.K) := by
  intro pins s σ H xs zs us ws Q I r1 r2 h
  obtain ⟨a, ns, d, rfl, rfl, hs, h0, h1⟩ := h
  obtain ⟨its, rv, hl, _⟩ := I.list hs
  rw [Vals.ref1 r1]
  obtain ⟨dv, rfl, rd⟩ := vals1 r2
  have hu : X.A.units + 1 + PyData.depthAll (ns.map PyData.int) < cLine := by
    rw [depth_ints]
    have := hr.un
    omega
  have ha : PySem.W.AlikeAll (ns.map PyData.int) := by
    refine ⟨fun x hx y hy => ?_, fun x hx => ?_⟩
    · obtain ⟨i, _, rfl⟩ := List.mem_map.mp hx
      obtain ⟨j, _, rfl⟩ := List.mem_map.mp hy
      rfl
    · obtain ⟨i, _, rfl⟩ := List.mem_map.mp hx
      intro z
      cases z
  refine PySem.W.max_list_default (I.ok.hd hc) hl.isList (by simpa using reads_ints rv) ha hu (fun e h' tk kk => ⟨d, H, I.kept kk, rd, h0 (List.map_eq_nil_iff.mp e)⟩) fun y ys i v h' tk bs e hv hrd kk => ?_
  cases ns with
  | nil => cases e
  | cons n r =>
    injection e with e1 e2
    subst e1 e2
    rw [PySem.W.maxD_ints] at hrd
    cases hrd with
    | int _ t => exact ⟨.int _, H, I.kept kk, ⟨_, rfl⟩, h1 n r rfl⟩
theorem foldl_max_mem : ∀ (r : List Int) (n : Int), r.foldl max n ∈ n :: r ∧ ∀ y ∈ n :: r, y ≤ r.foldl max n
  | [], n => ⟨by simp, fun y hy => by simp at hy; subst hy; exact Int.le_refl _⟩
  | a :: r, n => by
    obtain ⟨h1, h2⟩ := foldl_max_mem r (max n a)
    show r.foldl max (max n a) ∈ _ ∧ ∀ y ∈ _, y ≤ r.foldl max (max n a)
    have h3 := h2 (max n a) List.mem_cons_self
    refine ⟨?_, fun y hy => ?_⟩
    · rcases List.mem_cons.mp h1 with e | e
      · rw [e]
        rcases Int.le_total n a with c | c
        · rw [Int.max_eq_right c]; simp
        · rw [Int.max_eq_left c]; simp
      · exact List.mem_cons_of_mem _ (List.mem_cons_of_mem _ e)
    · rcases List.mem_cons.mp hy with e | e
      · subst e
        have := Int.le_max_left y a
        omega
      · rcases List.mem_cons.mp e with e | e
        · subst e
          have := Int.le_max_right n y
          omega
        · exact h2 y (List.mem_cons_of_mem _ e)
/-- the greatest of a list, 0 without items -/
def maxOf : List Int → Int
  | [] => 0
  | n :: r => r.foldl max n
/-- c * n, one sign -/
def rRepS : R2 := fun x y H Q => ∃ (c : Nat) (n : Int), x = .str ⟨#[c]⟩ ∧ y = .int n ∧ 0 ≤ n ∧ n ≤ 100 ∧ Q (.str ⟨(List.replicate n.toNat c).toArray⟩) H
theorem foldl_rep (c : Nat) : ∀ (n : Nat) (a : Array Nat), (List.replicate n #[c]).foldl (· ++ ·) a = a ++ (List.replicate n c).toArray
  | 0, a => by simp
  | n + 1, a => by
    rw [List.replicate_succ, List.foldl_cons, foldl_rep c n]
    rw [Array.append_assoc]
    congr 1
    rw [List.replicate_succ]
    simp
theorem op_repS : OpR X (binaryOp .Mult) rRepS := by
  intro pins s σ H x y v u Q I rx ry h
  obtain ⟨c, n, rfl, rfl, h1, h2, q⟩ := h
  obtain ⟨t, rfl⟩ := rx
  obtain ⟨t', rfl⟩ := ry
  refine PySem.P.mul_str ?_ ?_ ?_ ?_
  · rw [decide_eq_false (by omega), decide_eq_false (by omega)]; rfl
  · intro h3 _ h4
    have e : ((⟨#[c]⟩ : Str).length : Int) = 1 := rfl
    rw [e] at h4
    have : (1 : Int) ≤ (2 ^ 63 - 1) / n := by
      rw [Int.le_ediv_iff_mul_le (by omega)]
      omega
    omega
  · intro h3 _
    have e : (⟨#[c]⟩ : Str).length = 1 := rfl
    rw [e]
    unfold Builtin.Str.tooLong
    refine decide_eq_false ?_
    have : sizeLine = 16777216 := sizeLine_eq
    omega
  · by_cases c1 : n < 1
    · rw [if_pos c1]
      have e : n = 0 := by omega
      subst e
      exact ⟨by decide, ⟨.str _, H, I.tok _, ⟨_, rfl⟩, q⟩⟩
    · rw [if_neg c1]
      by_cases c2 : n = 1
      · subst c2
        rw [if_pos (by rfl)]
        exact ⟨.str _, H, I, ⟨_, rfl⟩, q⟩
      · have hb : ¬ (n == 1 || (⟨#[c]⟩ : Str).length == 0) = true := by
          have e : (⟨#[c]⟩ : Str).length = 1 := rfl
          rw [e]
          simp [c2]
        rw [if_neg hb]
        rw [foldl_rep]
        simp only [Array.empty_append]
        refine ⟨?_, ⟨.str _, H, I.tok _, ⟨_, rfl⟩, q⟩⟩
        have : sizeLine = 16777216 := sizeLine_eq
        have e : (⟨(List.replicate n.toNat c).toArray⟩ : Str).length = n.toNat := by
          show (List.replicate n.toNat c).toArray.size = n.toNat
          simp
        omega
/-! ### a dict whose keys are tuples (int, bool), its values lists -/
abbrev LX := List ((Int × Bool) × Addr × Addr)
def lkey (k : Int × Bool) : NestedKey := .tup [.num k.1, .num (if k.2 = true then 1 else 0)]
theorem lkey_inj {k k' : Int × Bool} (h : lkey k = lkey k') : k = k' := by
  obtain ⟨a, b⟩ := k
  obtain ⟨a', b'⟩ := k'
  unfold lkey at h
  injection h with h
  injection h with h1 h2
  injection h1 with h1
  injection h2 with h2 _
  injection h2 with h2
  dsimp only at h1 h2
  subst h1
  cases b <;> cases b' <;> simp_all
def toH (x : (Int × Bool) × Addr × Addr) : NestedKey × Addr × Value := (lkey x.1, x.2.1, .ref x.2.2)
/-- the list that stands by a key -/
def atL (xs : LX) (k : Int × Bool) : Option (Addr × Addr) := (xs.find? fun x => decide (x.1 = k)).map (·.2)
def putL (xs : LX) (k : Int × Bool) (a l : Addr) : LX := if (atL xs k).isSome then xs.map (fun x => if x.1 = k then (x.1, x.2.1, l) else x) else xs ++ [(k, a, l)]
theorem atKey_toH (xs : LX) (k : Int × Bool) : atKey (xs.map toH) (lkey k) = (atL xs k).map fun p => (p.1, Value.ref p.2) := by
  unfold atKey atL
  induction xs with
  | nil => rfl
  | cons x r ih =>
    rw [List.map_cons, List.find?_cons, List.find?_cons]
    have e : decide ((toH x).1 = lkey k) = decide (x.1 = k) := by
      by_cases c : x.1 = k
      · rw [decide_eq_true c]
        exact decide_eq_true (by show lkey x.1 = lkey k; rw [c])
      · rw [decide_eq_false c]
        exact decide_eq_false fun z => c (lkey_inj z)
    rw [e]
    cases decide (x.1 = k) with
    | true => rfl
    | false => exact ih
theorem storedH_toH (xs : LX) (k : Int × Bool) (a l : Addr) : storedH (xs.map toH) (lkey k) a (.ref l) = (putL xs k a l).map toH := by
  unfold storedH putL
  rw [atKey_toH]
  cases e : atL xs k with
  | none => simp [toH]
  | some p =>
    simp only [Option.map_some, Option.isSome_some, if_true, List.map_map]
    refine List.map_congr_left fun x _ => ?_
    show putAt (lkey k) (Value.ref l) (toH x) = toH (if x.1 = k then (x.1, x.2.1, l) else x)
    unfold putAt
    by_cases c : x.1 = k
    · rw [if_pos c]
      have c' : (toH x).1 = lkey k := by show lkey x.1 = lkey k; rw [c]
      rw [if_pos c']
      rfl
    · rw [if_neg c]
      have c' : ¬ (toH x).1 = lkey k := fun z => c (lkey_inj z)
      rw [if_neg c']
/-- what is true of the dict's one object -/
def lphi (P : Program) (w : World) (d : Addr) (xs : LX) : Heap → Prop := fun h => (d == sysModules) = false ∧
  ∃ o es ep, h.get? d = some o ∧ o.ExactDict ∧ o.data = .dict es ep ∧ es.toList = (xs.map toH).map (entryOfKey (nestedKind P w)) ∧ ((xs.map toH).map (·.1)).Nodup
def LO (P : Program) (w : World) (d : Addr) (xs : LX) : HO := .ext (lphi P w d xs)
/-- the dict stands at d with the entries xs, their keys' tuples stand -/
structure LD (P : Program) (w : World) (H : Hp) (d : Addr) (xs : LX) : Prop where
  at_ : H d = some (LO P w d xs)
  key : ∀ x ∈ xs, H x.2.1 = some (.tup [.int x.1.1, .bl x.1.2])
theorem lo_ok {P : Program} {w : World} {H : Hp} {h : Heap} {d : Addr} {xs : LX} (q : lphi P w d xs h) : ObjOk P w H h d (LO P w d xs) := by
  obtain ⟨hd, o, es, ep, h1, h2⟩ := q
  refine ⟨⟨hd, o, es, ep, h1, h2⟩, ⟨o, h1⟩, fun g1 g2 z k => ?_⟩
  obtain ⟨hd, o, es, ep, h1, h2⟩ := z
  exact ⟨hd, o, es, ep, k o h1, h2⟩
section
variable {pins : List (Addr × Obj)} {σ : L2.St} {H : Hp} {s : Shared} {d : Addr} {xs : LX}
theorem key_is (I : Inv X pins σ H s) {a : Addr} {k : Int × Bool} (h : H a = some (.tup [.int k.1, .bl k.2])) : (nestedKind X.prog X.w).is s.heap (lkey k) a := by
  obtain ⟨_, its, rv, o, h1, h2, n, h3⟩ := (show ObjOk X.prog X.w H s.heap a (.tup _) from I.hok a _ h)
  obtain ⟨u1, u2, e, r1, r2⟩ := vals2 rv
  subst e
  obtain ⟨t, e1⟩ := (show ∃ t, u1 = Value.int k.1 t from r1)
  have e2 : u2 = Value.bool k.2 := r2
  subst e1 e2
  exact ⟨.tup h1 h2 h3 (.cons (.int _ _) (.cons (.bool rfl) .nil)), by unfold lkey; simp [NestedKey.depth, NestedKey.depthAll]⟩
theorem LD.dict (I : Inv X pins σ H s) (L : LD X.prog X.w H d xs) : (d == sysModules) = false ∧ s.heap.DictOfH (nestedKind X.prog X.w) d (xs.map toH) := by
  obtain ⟨⟨hd, o, es, ep, h1, h2, h3, h4, h5⟩, _⟩ := (show ObjOk X.prog X.w H s.heap d (LO X.prog X.w d xs) from I.hok d _ L.at_)
  refine ⟨hd, o, es, ep, h1, h2, h3, h4, fun x hx => ?_, h5⟩
  obtain ⟨y, hy, rfl⟩ := List.mem_map.mp hx
  exact key_is I (L.key y hy)
theorem LD.nodup (I : Inv X pins σ H s) (L : LD X.prog X.w H d xs) : (xs.map (·.1)).Nodup := by
  obtain ⟨_, o, es, ep, h1, h2, h3, h4, _, h5⟩ := L.dict I
  rw [List.map_map] at h5
  have e : (xs.map ((fun x : NestedKey × Addr × Value => x.1) ∘ toH)) = (xs.map (·.1)).map lkey := by rw [List.map_map]; rfl
  rw [e] at h5
  generalize xs.map (·.1) = l at h5
  induction l with
  | nil => exact List.nodup_nil
  | cons a r ih =>
    rw [List.map_cons, List.nodup_cons] at h5
    exact List.nodup_cons.mpr ⟨fun z => h5.1 (List.mem_map.mpr ⟨a, z, rfl⟩), ih h5.2⟩
theorem dd_lphi {P : Program} {w : World} {h : Heap} (hd : (d == sysModules) = false) (dd : h.DictOfH (nestedKind P w) d (xs.map toH)) : lphi P w d xs h := by
  obtain ⟨o, es, ep, h1, h2, h3, h4, _, h5⟩ := dd
  exact ⟨hd, o, es, ep, h1, h2, h3, h4, h5⟩
theorem putL_len (xs : LX) (k : Int × Bool) (a l : Addr) : (putL xs k a l).length ≤ xs.length + 1 := by
  unfold putL
  split <;> simp
theorem ext_write {h' : Heap} {t' : Nat} {o : HO} (I : Inv X pins σ H s) (mu : Mut (H d)) (hs : Heap.SameBut d s.heap h') (he : ∃ q, h'.get? d = some q) (new : ObjOk X.prog X.w (upd H d o) h' d o) :
    Inv X pins σ (upd H d o) { s with heap := h', toks := t' } :=
  I.write (x := d) (e := d) mu (.inl rfl) (fun b q hb z => (hs.2 b hb).trans z) he new
/-- {} that will have such keys -/
def tLNew (P : Program) (w : World) : TE := fun _ H Q => ∀ p, H p = none → Q (.ref p) (upd H p (LO P w p []))
theorem pe_lnew {pos : Pos} : PE X (.Dict [] [] pos) (tLNew X.prog X.w) := ⟨fun pins s σ H Q I h => by
  obtain ⟨_, hd, _⟩ := dk_empty (P := X.prog) (w := X.w) (H := upd H s.heap.objs.size (.dK [])) s.heap I.big
  refine wpAny_Dict_empty ⟨.ref s.heap.objs.size, _, I.laid (a := s.heap.objs.size) (o := LO X.prog X.w s.heap.objs.size []) (t' := s.toks) (fun _ _ q => Heap.get?_push_of_some _ q) (Nat.le_refl _) ?_, rfl, h _ (I.hok.fresh (Nat.le_refl _))⟩
  exact lo_ok (dd_lphi hd (Heap.DictOfH.new s.heap))⟩
/-- d.get(k, z), z a new list: the list L that stands by k, or the empty one -/
def tLGet (P : Program) (w : World) (td ty tx : TE) : TE := fun σ H Q => td σ H fun x H1 => ∃ d, x = .ref d ∧ (∃ xs, LD P w H1 d xs) ∧ ty σ H1 fun y H2 => tx σ H2 fun z H3 =>
  ∃ (xs : LX) (k : Int × Bool) (a l : Addr) (L : List V) (G : Addr → Prop), LD P w H3 d xs ∧ y = .ref a ∧ z = .ref l ∧ H3 a = some (.tup [.int k.1, .bl k.2]) ∧ (∀ p, atL xs k = some p → H3 p.2 = some (.lst L) ∧ G p.2) ∧ (atL xs k = none → H3 l = some (.lst L) ∧ G l) ∧
    ∀ la, H3 la = some (.lst L) → G la → Q (.ref la) H3
theorem lroom {k : Nat} (hr : Room k X.A) : (nestedKind X.prog X.w).room X.A.in1 := by
  have h := hr.un
  show X.A.units + 1 + 8 < cLine
  omega
theorem ld_ty (I : Inv X pins σ H s) (L : LD X.prog X.w H d xs) : s.TypeIs (.ref d) "dict" ∧ ∀ a, Value.ref d = .ref a → ∃ ob, s.heap.get? a = some ob ∧ ob.dict = none := by
  obtain ⟨_, dd⟩ := L.dict I
  refine ⟨dd.typeIs, fun a e => ?_⟩
  obtain ⟨o, es, ep, h1, h2, _⟩ := dd
  cases e
  exact ⟨o, h1, h2.2.1⟩
theorem pe_lget {o e f : Expr} {td ty tx : TE} {apos cpos : Pos} {k : Nat} (hr : Room k X.A) (ho : PE X o td) (he : PE X e ty) (hf : PE X f tx) (m : M2 X o "get" apos e f cpos) :
    PE X (.Call (.Attribute o "get" apos) [e, f] [] cpos) (tLGet X.prog X.w td ty tx) := by
  refine ⟨fun pins s σ H Q I h => ?_⟩
  refine wpAny_Call_method m.base m.few m.line PySem.F.plainAttrs_dict PySem.F.slot_dict_get PySem.F.type_dict_get (thn (ho.run pins s σ H _ I h) fun u s1 ⟨x, H1, I1, rx, d, ex, ⟨xs0, L0⟩, q1⟩ => ?_)
  subst ex
  obtain rfl : u = Value.ref d := rx
  obtain ⟨t1, t2⟩ := ld_ty I1 L0
  refine ⟨t1, t2, ?_⟩
  rw [m.trees]
  refine Calls.callWith_builtin rfl (Calls.evalArgs_plain (Calls.spliced_cons (thn (he.run pins s1 σ H1 _ I1 q1) fun iv s2 ⟨y, H2, I2, ry, q2⟩ =>
    Calls.spliced_cons (thn (hf.run pins s2 σ H2 _ I2 q2) fun fv s3 ⟨z, H3, I3, rz, xs, k, a, l, lst, G, L, ey, ez, ha, q3, q4, q5⟩ => Calls.spliced_nil ?_))))
  subst ey ez
  cases (show iv = Value.ref a from ry)
  obtain ⟨hd, dd⟩ := L.dict I3
  refine call_meetsIn PySem.F.slot_dict_get dd.typeIs PySem.F.entry_dict_get (PySem.F.args_dict_get_3 _ _ _) (meetsH_dict_get_default (nestedKind X.prog X.w) d a hd fv) ⟨lroom hr, lkey k, xs.map toH, key_is I3 ha, dd, ?_⟩
  rw [atKey_toH]
  cases e : atL xs k with
  | none => exact ⟨.ref l, H3, I3.tok _, rz, q5 _ (q4 e).1 (q4 e).2⟩
  | some p => exact ⟨.ref p.2, H3, I3.tok _, rfl, q5 _ (q3 p e).1 (q3 p e).2⟩
/-- d.setdefault(k, z), z a list's place -/
def tLSetd (P : Program) (w : World) (td ty tx : TE) : TE := fun σ H Q => td σ H fun x H1 => ∃ d, x = .ref d ∧ (∃ xs, LD P w H1 d xs) ∧ ty σ H1 fun y H2 => tx σ H2 fun z H3 =>
  ∃ (xs : LX) (k : Int × Bool) (a l : Addr), LD P w H3 d xs ∧ y = .ref a ∧ z = .ref l ∧ H3 a = some (.tup [.int k.1, .bl k.2]) ∧ xs.length ≤ 1000 ∧ (∀ p, atL xs k = some p → Q (.ref p.2) H3) ∧
    (atL xs k = none → Q (.ref l) (upd H3 d (LO P w d (xs ++ [(k, a, l)]))))
theorem pe_lsetd {o e f : Expr} {td ty tx : TE} {apos cpos : Pos} {k : Nat} (hr : Room k X.A) (ho : PE X o td) (he : PE X e ty) (hf : PE X f tx) (m : M2 X o "setdefault" apos e f cpos) :
    PE X (.Call (.Attribute o "setdefault" apos) [e, f] [] cpos) (tLSetd X.prog X.w td ty tx) := by
  refine ⟨fun pins s σ H Q I h => ?_⟩
  refine wpAny_Call_method m.base m.few m.line PySem.F.plainAttrs_dict PySem.F.slot_dict_setdefault PySem.F.type_dict_setdefault (thn (ho.run pins s σ H _ I h) fun u s1 ⟨x, H1, I1, rx, d, ex, ⟨xs0, L0⟩, q1⟩ => ?_)
  subst ex
  obtain rfl : u = Value.ref d := rx
  obtain ⟨t1, t2⟩ := ld_ty I1 L0
  refine ⟨t1, t2, ?_⟩
  rw [m.trees]
  refine Calls.callWith_builtin rfl (Calls.evalArgs_plain (Calls.spliced_cons (thn (he.run pins s1 σ H1 _ I1 q1) fun iv s2 ⟨y, H2, I2, ry, q2⟩ =>
    Calls.spliced_cons (thn (hf.run pins s2 σ H2 _ I2 q2) fun fv s3 ⟨z, H3, I3, rz, xs, k, a, l, L, ey, ez, ha, hn, q3, q4⟩ => Calls.spliced_nil ?_))))
  subst ey ez
  cases (show iv = Value.ref a from ry)
  cases (show fv = Value.ref l from rz)
  obtain ⟨hd, dd⟩ := L.dict I3
  have hz : (xs.map toH).length ≤ sizeLine := by
    rw [List.length_map, sizeLine_eq]; omega
  refine call_setdefault_heap (hsz := hz) (lroom hr) (key_is I3 ha) hd dd (fun p hp => ?_) fun hno h' dd' hs => ?_
  · rw [atKey_toH] at hp
    cases e : atL xs k with
    | none => rw [e] at hp; cases hp
    | some p' =>
      rw [e] at hp
      cases hp
      exact ⟨.ref p'.2, H3, I3.tok _, rfl, q3 p' e⟩
  · have hno' : atL xs k = none := by
      rw [atKey_toH] at hno
      cases e : atL xs k with
      | none => rfl
      | some p' => rw [e] at hno; cases hno
    rw [storedH_toH] at dd'
    have e2 : putL xs k a l = xs ++ [(k, a, l)] := by unfold putL; rw [hno']; rfl
    rw [e2] at dd'
    have he : ∃ q, h'.get? d = some q := let ⟨q, _, _, hq, _⟩ := dd'; ⟨q, hq⟩
    exact ⟨.ref l, _, ext_write I3 (by rw [L.at_]; exact True.intro) hs he (lo_ok (dd_lphi hd dd')), rfl, q4 hno'⟩
/-- d[k] = v, by values -/
def rSetLn (P : Program) (w : World) : TSet := fun o i v H Q => ∃ (d : Addr) (xs : LX) (k : Int × Bool) (a l : Addr), o = .ref d ∧ i = .ref a ∧ v = .ref l ∧ LD P w H d xs ∧ H a = some (.tup [.int k.1, .bl k.2]) ∧ xs.length ≤ 1000 ∧
  Q (upd H d (LO P w d (putL xs k a l)))
theorem set_lines {k : Nat} (hr : Room k X.A) : PSet X (rSetLn X.prog X.w) := by
  intro pins s σ H o i v ov iv u Q I ro ri rv h
  obtain ⟨d, xs, k, a, l, rfl, rfl, rfl, L, ha, hn, q⟩ := h
  cases (show ov = Value.ref d from ro)
  cases (show iv = Value.ref a from ri)
  cases (show u = Value.ref l from rv)
  obtain ⟨hd, dd⟩ := L.dict I
  have hz : (xs.map toH).length ≤ sizeLine := by
    rw [List.length_map, sizeLine_eq]; omega
  refine wpAny_setItem_heap (hsz := hz) (lroom hr) (key_is I ha) dd fun h' dd' hs => ?_
  rw [storedH_toH] at dd'
  have he : ∃ q, h'.get? d = some q := let ⟨q, _, _, hq, _⟩ := dd'; ⟨q, hq⟩
  exact ⟨_, ext_write I (by rw [L.at_]; exact True.intro) hs he (lo_ok (dd_lphi hd dd')), q⟩
end
end
end Bay

/-! Small defs: is_between, is_upward, round_of, is_name, names_of. -/
namespace Bay
open PySem L2 PyProof.Rows
/-! ### data -/
structure Ord where
  name : Str
  tick : Int
  src : Nat
  dst : Nat
def Ord.vs (o : Ord) : List V := [.str o.name, .int o.tick, .int (o.src : Int), .int (o.dst : Int)]
def refs (r : Nat → Addr) (l : List Nat) : List V := l.map fun i => V.ref (r i)
structure OrdersAt (H : Hp) (lo : Addr) (n : Nat) (r : Nat → Addr) (ord : Nat → Ord) : Prop where
  lst : H lo = some (.lst (refs r (List.range n)))
  at_ : ∀ i, i < n → H (r i) = some (.tup (ord i).vs)
structure AisleAt (H : Hp) (a : Addr) (gaps : List Int) (most : Int) : Prop where
  ex : ∃ g, H a = some (.tup [.ref g, .int most]) ∧ H g = some (.lst (gaps.map V.int))
theorem OrdersAt.same {H H' : Hp} {lo n r ord} (O : OrdersAt H lo n r ord) (s : Same H H') : OrdersAt H' lo n r ord := ⟨s _ _ O.lst, fun i h => s _ _ (O.at_ i h)⟩
theorem AisleAt.same {H H' : Hp} {a gaps most} (O : AisleAt H a gaps most) (s : Same H H') : AisleAt H' a gaps most := let ⟨g, h1, h2⟩ := O.ex; ⟨g, s _ _ h1, s _ _ h2⟩
theorem same_new {H : Hp} {p : Addr} {o : HO} (h : H p = none) : Same H (upd H p o) := fun b u e => by rw [upd_ne (ne_of_none e h)]; exact e
theorem Same.new {H H' : Hp} {p : Addr} {o : HO} (s : Same H H') (h : H' p = none) : Same H (upd H' p o) := s.trans (same_new h)
/-- an object that H0 does not track is changed -/
theorem Same.but {H H' : Hp} {p : Addr} {o : HO} (s : Same H H') (h : H p = none) : Same H (upd H' p o) := fun b u e => by rw [upd_ne (ne_of_none e h)]; exact s b u e
theorem tyesT {σ : L2.St} {H : Hp} {A B : Hp → Prop} (h : A H) : tYes σ H fun b H3 => if b = true then A H3 else B H3 := by
  show if true = true then A H else B H
  rw [if_pos rfl]
  exact h
/-! ### comprehensions that change nothing that is tracked -/
theorem lc_listF {α : Type} {K : PySem.W.Frag} {a : Addr} {g : TG} {tt : TT} {te : TE} {vs : List Nat} {σ : L2.St} {H1 : Hp} {D : Addr} {Qd : Hp → Prop} (l : List α) (v : α → V) (keep : α → Bool) (f : α → V)
    (hD : H1 D = none) (hl : SqL K H1 a (l.map v)) (hn : l.length < 16777216)
    (hs : ∀ (x : α) (H : Hp) (R : Hp → Prop) (R' : V → Hp → Prop), x ∈ l → Same H1 H → (keep x = false → ∀ H3, Same H H3 → R H3) → (keep x = true → ∀ H4, Same H H4 → R' (f x) H4) →
      g (v x) (wipe σ vs) H fun σ2 H2 => wipe σ2 vs = wipe σ vs ∧ tt σ2 H2 fun b H3 => if b = true then te σ2 H3 R' else R H3)
    (hd : ∀ H, Same H1 H → H D = some (.lst ((l.filter keep).map f)) → Qd H) :
    ∃ W : Nat → Nat → Hp → Prop, (∃ m, W 0 m (upd H1 D (.lst []))) ∧ ∀ i m H, W i m H →
      ((Itl K a).stop i H ∧ Qd H) ∨ ((Itl K a).go i H ∧ ∃ Nx : Hp → Prop, (∀ H', Nx H' → ∃ m', m' < m ∧ W (i + 1) m' H') ∧ ∀ x H', (Itl K a).yld i H x H' → g x (wipe σ vs) H' fun σ2 H2 => wipe σ2 vs = wipe σ vs ∧ tt σ2 H2 fun b H3 =>
        if b = true then te σ2 H3 fun y H4 => ∃ acc, H4 D = some (.lst acc) ∧ acc.length < sizeLine ∧ Nx (upd H4 D (.lst (acc ++ [y]))) else Nx H3) := by
  refine lc_list (K := K) (a := a) (xs := l.map v) (fun i H => Same H1 H ∧ H D = some (.lst (((l.take i).filter keep).map f))) ⟨same_new hD, upd_same⟩ (fun i H _ q => q.1.seq hl) ?_ ?_
  · rintro i x H hx ⟨s, q⟩
    rw [List.getElem?_map] at hx
    cases e : l[i]? with
    | none => rw [e] at hx; cases hx
    | some y =>
      rw [e] at hx
      cases hx
      have hy : y ∈ l := List.mem_of_getElem? e
      have et : l.take (i + 1) = l.take i ++ [y] := by rw [List.take_add_one, e]; rfl
      have lenb : (((l.take i).filter keep).map f).length < sizeLine := by
        have h1 := List.length_filter_le keep (l.take i)
        have h2 := List.length_take_le i l
        have h3 : (l.take i).length ≤ l.length := by rw [List.length_take]; exact Nat.min_le_right _ _
        rw [List.length_map, sizeLine_eq]
        omega
      refine hs y H _ _ hy s (fun k H3 s3 => ⟨s.trans s3, ?_⟩) fun k H4 s4 => ⟨_, s4 _ _ q, lenb, Same.but (s.trans s4) hD, ?_⟩
      · rw [et, List.filter_append]
        have : [y].filter keep = [] := by simp [k]
        rw [this, List.append_nil]
        exact s3 _ _ q
      · rw [upd_same, et, List.filter_append]
        have : [y].filter keep = [y] := by simp [k]
        rw [this, List.map_append]
        rfl
  · rintro H ⟨s, q⟩
    rw [List.length_map, List.take_length] at q
    exact hd H s q
def spIsBetween : Sp := fun vs H Q _ => ∃ i lo hi : Int, vs = [.int i, .int lo, .int hi] ∧ lo ≤ i ∧ i ≤ hi ∧ Q (.bl true) H
def spIsUpward : Sp := fun vs H Q _ => ∃ (a : Addr) (o : Ord), vs = [.ref a] ∧ H a = some (.tup o.vs) ∧ Q (.bl (decide (o.src < o.dst))) H
def spRoundOf : Sp := fun vs H Q _ => ∃ (a : Addr) (gaps : List Int) (most : Int), vs = [.ref a] ∧ AisleAt H a gaps most ∧ Q (.int (2 * gaps.sum)) H
def letters : Str := "abcdefghijklmnopqrstuvwxyz"
def NameOk (z : Str) : Prop := 1 ≤ z.length ∧ z.length ≤ 8 ∧ ∀ c ∈ z.cps.toList, c ∈ letters.cps.toList
def spIsName : Sp := fun vs H Q _ => ∃ z : Str, vs = [.str z] ∧ NameOk z ∧ ∀ H', Same H H' → Q (.bl true) H'
/-- names_of: a new list of the names, sorted -/
def spNamesOf : Sp := fun vs H Q _ => ∃ (a : Addr) (l : List Nat) (r : Nat → Addr) (ord : Nat → Ord), vs = [.ref a] ∧ H a = some (.lst (refs r l)) ∧ (∀ i ∈ l, H (r i) = some (.tup (ord i).vs)) ∧ l.length < 64 ∧
  ∀ (ys : List Str) (p : Addr) (H' : Hp), ys.Perm (l.map fun i => (ord i).name) → sortedS ys = true → Same H H' → H p = none → H' p = some (.lst (ys.map V.str)) → Q (.ref p) H'
section
variable {P : Program} {w : World} {K : PySem.W.Frag} {mg : Str → Option Value} {base : Heap}
theorem scIsBetween : FnScope ["thing", "least", "greatest"] ["thing", "least", "greatest"] (defScope sIsBetween) := ⟨rfl, rfl, rfl, by decide +kernel, rfl, by decide +kernel, by decide +kernel⟩
theorem ok_isBetween {f : Addr} {fd : FuncData} (F : Fun K "is_between" "is_between" sIsBetween f fd) (T : Txt mg) {f1 fd1} (D1 : Df P w K mg base 1 "is_whole" ["thing"] spIsWhole f1 fd1) : FnOk P w K mg base CX0 2 f fd ["thing", "least", "greatest"] spIsBetween := by
  refine F.ok scIsBetween (fun vs H Q E h => ?_) (fun cdv A outer s H vs Q E hr h => ?_)
  · obtain ⟨i, lo, hi, rfl, _⟩ := h
    rfl
  · obtain ⟨i, lo, hi, rfl, h1, h2, k⟩ := h
    refine ⟨_, pss_one (ps_ret (pe_and (pe_call D1.ok hr rfl D1.gl D1.kp D1.bd .nil pass0 (pa_cons (pv 0) pa_nil)) (pe_one (pe_chain op_le op_le (pv 1) (pv 0) (pv 2))))), ?_⟩
    refine ⟨_, rfl, i, rfl, _, rfl, iteT ?_⟩
    refine ⟨_, rfl, _, rfl, _, _, rfl, rfl, _, rfl, ?_⟩
    rw [decide_eq_true h1]
    refine iteT ⟨_, rfl, _, _, rfl, rfl, ?_⟩
    show Q (V.bl (decide (i ≤ hi))) H
    rw [decide_eq_true h2]
    exact k
theorem scIsUpward : FnScope ["order"] ["order"] (defScope sIsUpward) := ⟨rfl, rfl, rfl, by decide +kernel, rfl, by decide +kernel, by decide +kernel⟩
theorem ok_isUpward {f : Addr} {fd : FuncData} (F : Fun K "is_upward" "is_upward" sIsUpward f fd) : FnOk P w K mg base CX0 1 f fd ["order"] spIsUpward := by
  refine F.ok scIsUpward (fun vs H Q E h => ?_) (fun cdv A outer s H vs Q E hr h => ?_)
  · obtain ⟨a, o, rfl, _⟩ := h
    rfl
  · obtain ⟨a, o, rfl, ha, k⟩ := h
    refine ⟨_, pss_one (ps_ret (pe_cmpR op_lt (pe_ix ix_tup (pv 0) pe_int (fun _ _ => rfl)) (pe_ix ix_tup (pv 0) pe_int (fun _ _ => rfl)) (nomark _))), ?_⟩
    refine ⟨_, rfl, a, _, _, _, rfl, rfl, SqT.of ha, at_of (j := 2) rfl rfl, _, rfl, a, _, _, _, rfl, rfl, SqT.of ha, at_of (j := 3) rfl rfl, _, _, rfl, rfl, ?_⟩
    have e : decide ((o.src : Int) < (o.dst : Int)) = decide (o.src < o.dst) := decide_eq_decide.mpr (by omega)
    show Q (V.bl (decide ((o.src : Int) < (o.dst : Int)))) H
    rw [e]
    exact k
theorem scRoundOf : FnScope ["aisle"] ["aisle"] (defScope sRoundOf) := ⟨rfl, rfl, rfl, by decide +kernel, rfl, by decide +kernel, by decide +kernel⟩
theorem ok_roundOf {f : Addr} {fd : FuncData} (F : Fun K "round_of" "round_of" sRoundOf f fd) (T : Txt mg) : FnOk P w K mg base CX0 1 f fd ["aisle"] spRoundOf := by
  refine F.ok scRoundOf (fun vs H Q E h => ?_) (fun cdv A outer s H vs Q E hr h => ?_)
  · obtain ⟨a, gaps, most, rfl, _⟩ := h
    rfl
  · obtain ⟨a, gaps, most, rfl, ⟨g, ha, hg⟩, k⟩ := h
    refine ⟨_, pss_one (ps_ret (pe_op op_mul pe_int (pe_callB (cr_sum rfl) (by rfl) T.sum bt_sum (pa_cons (pe_ix ix_tup (pv 0) pe_int (fun _ _ => rfl)) pa_nil)))), ?_⟩
    refine ⟨_, rfl, a, _, _, _, rfl, rfl, SqT.of ha, at_of (j := 0) rfl rfl, g, gaps, rfl, SqL.of hg, _, _, rfl, rfl, .inl (by decide), k⟩
theorem scIsName : FnScope ["thing", "sign"] ["thing"] (defScope sIsName) := ⟨rfl, rfl, rfl, by decide +kernel, rfl, by decide +kernel, by decide +kernel⟩
theorem all_true (n : Nat) : (List.replicate n true).all id = true := by
  induction n with
  | zero => rfl
  | succ n ih => rw [List.replicate_succ, List.all_cons, ih]; rfl
theorem ok_isName {f : Addr} {fd : FuncData} (F : Fun K "is_name" "is_name" sIsName f fd) (T : Txt mg) : FnOk P w K mg base CX0 1 f fd ["thing"] spIsName := by
  obtain ⟨tL, hL⟩ := T.letters
  obtain ⟨t8, h8⟩ := T.longest
  refine F.ok scIsName (fun vs H Q E h => ?_) (fun cdv A outer s H vs Q E hr h => ?_)
  · obtain ⟨z, rfl, _⟩ := h
    rfl
  · obtain ⟨z, rfl, ⟨n1, n2, n3⟩, k⟩ := h
    refine ⟨_, pss_cons (ps_if (PW.pt (pw_or (pt_not (pt_val (pe_callB call_isi (by rfl) T.isinstance bt_isinstance (pa_cons (pv 0) (pa_cons (pe_bltn (v := .ty "str") (by rfl) T.str bt_str rfl) pa_nil)))))
        (pw_or1 (pt_not (pt_chain op_le op_le pe_int (pe_callB call_len_str (by rfl) T.len PySem.boot_len (pa_cons (pv 0) pa_nil)) (pe_glob (v := .int 8) rfl h8 ⟨_, rfl⟩)))))) pss_never pss_nil)
      (pss_one (ps_ret (pe_callB (cr_all rfl) (by rfl) T.all bt_all (pa_cons (pe_lc (own := [("sign", 1)]) (g := gName 1) (by rfl) scIsName.nd (pi_str (pv 0)) (blkOk_by (own := [("sign", 1)]) (N := ["thing", "sign"]) (sc := defScope sIsName) (by decide +kernel))
        (fun _ _ _ _ _ => pg_name (i := 1) scIsName.nd rfl (Or.inl rfl)) (fun _ _ _ _ _ => pts_nil) (fun _ _ _ _ _ => pe_cmpR op_in_sign (pv 1) (pe_glob (v := .str letters) rfl hL ⟨_, rfl⟩) rfl)) pa_nil)))), ?_⟩
    have hz : z.length ≤ sizeLine := by rw [sizeLine_eq]; omega
    refine ⟨_, rfl, _, _, _, _, _, rfl, .ty "str", .base (.str z), kit_ty (r := true) (by decide +kernel), true, rfl, ?_⟩
    refine iteF ?_
    refine ⟨_, rfl, z, rfl, hz, _, _, rfl, rfl, _, rfl, ?_⟩
    have e1 : decide ((1 : Int) ≤ ((z.length : Nat) : Int)) = true := decide_eq_true (by omega)
    have e2 : decide (((z.length : Nat) : Int) ≤ (8 : Int)) = true := decide_eq_true (by omega)
    rw [e1]
    refine iteT ⟨_, _, rfl, rfl, _, rfl, ?_⟩
    rw [e2]
    refine iteF ?_
    refine ⟨_, rfl, z, rfl, fun D hD => ?_⟩
    refine lc_it (walk_str (z := z)) (fun i H' => Same H H' ∧ H' D = some (.lst ((List.replicate i true).map V.bl))) ⟨same_new hD, upd_same⟩ (fun _ _ _ _ => trivial) ?_ ?_
    · rintro i x H1 H2 hi ⟨s1, q1⟩ ⟨rfl, c, hc, rfl⟩
      refine ⟨rfl, ?_⟩
      refine tyesT ?_
      have hm : c ∈ letters.cps.toList := n3 c (by
        rw [← Array.getElem?_toList] at hc
        exact List.mem_of_getElem? hc)
      refine ⟨_, rfl, c, letters, rfl, rfl, _, q1, ?_, Same.but s1 hD, ?_⟩
      · rw [List.length_map, List.length_replicate, sizeLine_eq]
        have : z.cps.size = z.length := rfl
        omega
      · rw [upd_same, decide_eq_true hm, List.replicate_succ', List.map_append]
        rfl
    · rintro H1 ⟨s1, q1⟩
      refine ⟨D, _, rfl, SqL.of q1, ?_⟩
      rw [all_true]
      exact k _ s1
theorem scNamesOf : FnScope ["orders", "order"] ["orders"] (defScope sNamesOf) := ⟨rfl, rfl, rfl, by decide +kernel, rfl, by decide +kernel, by decide +kernel⟩
theorem ok_namesOf {f : Addr} {fd : FuncData} (F : Fun K "names_of" "names_of" sNamesOf f fd) (T : Txt mg) : FnOk P w K mg base CX0 1 f fd ["orders"] spNamesOf := by
  refine F.ok scNamesOf (fun vs H Q E h => ?_) (fun cdv A outer s H vs Q E hr h => ?_)
  · obtain ⟨a, l, r, ord, rfl, _⟩ := h
    rfl
  · obtain ⟨a, l, r, ord, rfl, ha, hat, hlen, k⟩ := h
    refine ⟨_, pss_one (ps_ret (pe_callB cr_sortedS (by rfl) T.sorted bt_sorted (pa_cons (pe_lc (own := [("order", 1)]) (g := gName 1) (by rfl) scNamesOf.nd (pi_list (pv 0)) (blkOk_by (own := [("order", 1)]) (N := ["orders", "order"]) (sc := defScope sNamesOf) (by decide +kernel))
      (fun _ _ _ _ _ => pg_name (i := 1) scNamesOf.nd rfl (Or.inl rfl)) (fun _ _ _ _ _ => pts_nil) (fun _ _ _ _ _ => pe_ix (r := rIxT K) ix_tup (pv 1) pe_int (fun _ _ => rfl))) pa_nil))), ?_⟩
    refine ⟨_, rfl, a, rfl, ⟨_, SqL.of ha⟩, fun D hD => ?_⟩
    refine lc_listF l (fun i => V.ref (r i)) (fun _ => true) (fun i => .str (ord i).name) hD (SqL.of ha) (by omega) ?_ ?_
    · intro i H1 R R' hi s1 _ k2
      refine ⟨rfl, tyesT ⟨_, rfl, r i, _, _, _, rfl, rfl, SqT.of (s1 _ _ (hat i hi)), at_of (j := 0) rfl rfl, k2 rfl _ (Same.refl _)⟩⟩
    · intro H1 s1 q1
      have e : (l.filter fun _ => true).map (fun i => V.str (ord i).name) = (l.map fun i => (ord i).name).map V.str := by
        rw [List.filter_eq_self.mpr (fun _ _ => rfl), List.map_map]; rfl
      rw [e] at q1
      refine ⟨D, _, rfl, SqL.of q1, by rw [List.length_map]; exact hlen, fun ys p hp hsd hn => ?_⟩
      exact k ys p _ hp hsd (Same.new s1 hn) (Same.free s1 hn) upd_same
end
end Bay

/-! look_at_aisle, is_order, look_at_orders. -/
namespace Bay
open PySem L2 PyProof.Rows
structure AisleOk (gaps : List Int) (most : Int) : Prop where
  l1 : 1 ≤ gaps.length
  l2 : gaps.length ≤ 15
  g1 : ∀ x ∈ gaps, 1 ≤ x
  g2 : ∀ x ∈ gaps, x ≤ 1000
  m1 : 1 ≤ most
  m2 : most ≤ 20
structure OrdOk (o : Ord) (L : Nat) : Prop where
  nm : NameOk o.name
  t0 : 0 ≤ o.tick
  t1 : o.tick ≤ 1000000000
  sb : o.src ≤ L
  db : o.dst ≤ L
  ne : o.src ≠ o.dst
structure OrdsOk (n : Nat) (ord : Nat → Ord) (L : Nat) : Prop where
  few : n ≤ 60
  ok : ∀ i, i < n → OrdOk (ord i) L
  srt : ∀ i j, i ≤ j → j < n → (ord i).tick ≤ (ord j).tick
  inj : ∀ i j, i < n → j < n → (ord i).name = (ord j).name → i = j
def spLookAisle : Sp := fun vs H Q _ => ∃ (a : Addr) (gaps : List Int) (most : Int), vs = [.ref a] ∧ AisleAt H a gaps most ∧ AisleOk gaps most ∧ ∀ H', Same H H' → Q .non H'
def spIsOrder : Sp := fun vs H Q _ => ∃ (a : Addr) (o : Ord) (L : Nat), vs = [.ref a, .int (L : Int)] ∧ H a = some (.tup o.vs) ∧ OrdOk o L ∧ ∀ H', Same H H' → Q (.bl true) H'
def spLookOrders : Sp := fun vs H Q _ => ∃ (a lo : Addr) (gaps : List Int) (most : Int) (n : Nat) (r : Nat → Addr) (ord : Nat → Ord), vs = [.ref a, .ref lo] ∧ AisleAt H a gaps most ∧ AisleOk gaps most ∧ OrdersAt H lo n r ord ∧ OrdsOk n ord gaps.length ∧
  ∀ H', Same H H' → Q .non H'
section
variable {P : Program} {w : World} {K : PySem.W.Frag} {mg : Str → Option Value} {base : Heap}
theorem scLookAisle : FnScope ["thing", "gaps", "most", "gap"] ["thing"] (defScope sLookAisle) := ⟨rfl, rfl, rfl, by decide +kernel, rfl, by decide +kernel, by decide +kernel⟩
theorem ok_lookAisle {f : Addr} {fd : FuncData} (F : Fun K "look_at_aisle" "look_at_aisle" sLookAisle f fd) (T : Txt mg) {f1 fd1} (D1 : Df P w K mg base 2 "is_between" ["thing", "least", "greatest"] spIsBetween f1 fd1) : FnOk P w K mg base CX0 3 f fd ["thing"] spLookAisle := by
  obtain ⟨t1, h1⟩ := T.mostGaps
  obtain ⟨t2, h2⟩ := T.longestGap
  obtain ⟨t3, h3⟩ := T.mostLoad
  refine F.ok scLookAisle (fun vs H Q E h => ?_) (fun cdv A outer s H vs Q E hr h => ?_)
  · obtain ⟨a, gaps, most, rfl, _⟩ := h
    rfl
  · obtain ⟨a, gaps, most, rfl, ⟨g, ha, hg⟩, O, k⟩ := h
    refine ⟨_, pss_cons (ps_if (PW.pt (pw_or (pt_not (pt_val (pe_callB call_isi (by rfl) T.isinstance bt_isinstance (pa_cons (pv 0) (pa_cons (pe_bltn (v := .ty "tuple") (by rfl) T.tuple bt_tuple rfl) pa_nil)))))
        (pw_or1 (pt_cmpR op_ne (pe_callB call_len_seq (by rfl) T.len PySem.boot_len (pa_cons (pv 0) pa_nil)) pe_int (nomark _))))) pss_never pss_nil)
      (pss_cons (ps_asg (pv 0) (pg_tup rfl (pgs_cons (pg_name (i := 1) scLookAisle.nd rfl (Or.inl rfl)) (pgs_cons (pg_name (i := 2) scLookAisle.nd rfl (Or.inl rfl)) pgs_nil))))
      (pss_cons (ps_if (PW.pt (pw_or (pt_not (pt_val (pe_callB call_isi (by rfl) T.isinstance bt_isinstance (pa_cons (pv 1) (pa_cons (pe_bltn (v := .ty "list") (by rfl) T.list bt_list rfl) pa_nil)))))
        (pw_or1 (pt_not (pt_chain op_le op_le pe_int (pe_callB call_len_seq (by rfl) T.len PySem.boot_len (pa_cons (pv 1) pa_nil)) (pe_glob (v := .int 15) rfl h1 ⟨_, rfl⟩)))))) pss_never pss_nil)
      (pss_cons (ps_if (pt_not (pt_val (pe_callB (cr_all rfl) (by rfl) T.all bt_all (pa_cons (pe_lc (own := [("gap", 3)]) (g := gName 3) (by rfl) scLookAisle.nd (pi_list (pv 1)) (blkOk_by (own := [("gap", 3)]) (N := ["thing", "gaps", "most", "gap"]) (sc := defScope sLookAisle) (by decide +kernel))
        (fun _ _ _ _ _ => pg_name (i := 3) scLookAisle.nd rfl (Or.inl rfl)) (fun _ _ _ _ _ => pts_nil) (fun _ _ _ _ _ => pe_call D1.ok hr rfl D1.gl D1.kp D1.bd .nil pass0 (pa_cons (pv 3) (pa_cons pe_int (pa_cons (pe_glob (v := .int 1000) rfl h2 ⟨_, rfl⟩) pa_nil))))) pa_nil)))) pss_never pss_nil)
      (pss_one (ps_if (pt_not (pt_val (pe_call D1.ok hr rfl D1.gl D1.kp D1.bd .nil pass0 (pa_cons (pv 2) (pa_cons pe_int (pa_cons (pe_glob (v := .int 20) rfl h3 ⟨_, rfl⟩) pa_nil)))))) pss_never pss_nil))))), ?_⟩
    refine ⟨_, rfl, _, _, _, _, _, rfl, .ty "tuple", .base (.tup ha), kit_ty (r := true) (by decide +kernel), true, rfl, iteF ?_⟩
    refine ⟨_, rfl, a, _, rfl, .inr (SqT.of ha), rfl, _, rfl, ?_⟩
    refine iteF ?_
    refine ⟨_, rfl, a, _, rfl, SqT.of ha, rfl, _, _, rfl, _, _, rfl, rfl, ?_⟩
    refine ⟨_, rfl, _, _, _, _, _, rfl, .ty "list", .base (.lst hg), kit_ty (r := true) (by decide +kernel), true, rfl, iteF ?_⟩
    refine ⟨_, rfl, g, _, rfl, .inl (SqL.of hg), _, _, rfl, rfl, _, rfl, ?_⟩
    rw [List.length_map]
    rw [decide_eq_true (show (1 : Int) ≤ ((gaps.length : Nat) : Int) by have := O.l1; omega)]
    refine iteT ⟨_, _, rfl, rfl, _, rfl, ?_⟩
    rw [decide_eq_true (show ((gaps.length : Nat) : Int) ≤ 15 by have := O.l2; omega)]
    refine iteF ?_
    refine ⟨_, rfl, g, rfl, ⟨_, SqL.of hg⟩, fun D hD => ?_⟩
    refine lc_listF gaps V.int (fun _ => true) (fun _ => .bl true) hD (SqL.of hg) (by have := O.l2; omega) ?_ ?_
    · intro x H1 R R' hx s1 _ k2
      refine ⟨rfl, tyesT ⟨_, rfl, x, 1, 1000, rfl, O.g1 x hx, O.g2 x hx, k2 rfl _ (Same.refl _)⟩⟩
    · intro H1 s1 q1
      have e : (gaps.filter fun _ => true).map (fun _ => V.bl true) = (List.replicate gaps.length true).map V.bl := by
        rw [List.filter_eq_self.mpr (fun _ _ => rfl), List.map_const', List.map_replicate]
      rw [e] at q1
      refine ⟨D, _, rfl, SqL.of q1, _, rfl, ?_⟩
      rw [all_true]
      refine iteF ?_
      refine ⟨_, rfl, most, 1, 20, rfl, O.m1, O.m2, _, rfl, iteF ?_⟩
      exact k _ s1
theorem scIsOrder : FnScope ["thing", "last", "name", "tick", "at", "to"] ["thing", "last"] (defScope sIsOrder) := ⟨rfl, rfl, rfl, by decide +kernel, rfl, by decide +kernel, by decide +kernel⟩
theorem ok_isOrder {f : Addr} {fd : FuncData} (F : Fun K "is_order" "is_order" sIsOrder f fd) (T : Txt mg) {f1 fd1 f2 fd2} (D1 : Df P w K mg base 2 "is_between" ["thing", "least", "greatest"] spIsBetween f1 fd1) (D2 : Df P w K mg base 2 "is_name" ["thing"] spIsName f2 fd2) :
    FnOk P w K mg base CX0 3 f fd ["thing", "last"] spIsOrder := by
  obtain ⟨t1, h1⟩ := T.latest
  refine F.ok scIsOrder (fun vs H Q E h => ?_) (fun cdv A outer s H vs Q E hr h => ?_)
  · obtain ⟨a, o, L, rfl, _⟩ := h
    rfl
  · obtain ⟨a, o, L, rfl, ha, O, k⟩ := h
    refine ⟨_, pss_cons (ps_if (PW.pt (pw_or (pt_not (pt_val (pe_callB call_isi (by rfl) T.isinstance bt_isinstance (pa_cons (pv 0) (pa_cons (pe_bltn (v := .ty "tuple") (by rfl) T.tuple bt_tuple rfl) pa_nil)))))
        (pw_or1 (pt_cmpR op_ne (pe_callB call_len_seq (by rfl) T.len PySem.boot_len (pa_cons (pv 0) pa_nil)) pe_int (nomark _))))) pss_never pss_nil)
      (pss_cons (ps_asg (pv 0) (pg_tup rfl (pgs_cons (pg_name (i := 2) scIsOrder.nd rfl (Or.inl rfl)) (pgs_cons (pg_name (i := 3) scIsOrder.nd rfl (Or.inl rfl)) (pgs_cons (pg_name (i := 4) scIsOrder.nd rfl (Or.inl rfl)) (pgs_cons (pg_name (i := 5) scIsOrder.nd rfl (Or.inl rfl)) pgs_nil))))))
      (pss_cons (ps_if (PW.pt (pw_or (pt_not (pt_val (pe_call D2.ok hr rfl D2.gl D2.kp D2.bd .nil pass0 (pa_cons (pv 2) pa_nil)))) (pw_or1 (pt_not (pt_val (pe_call D1.ok hr rfl D1.gl D1.kp D1.bd .nil pass0 (pa_cons (pv 3) (pa_cons pe_int (pa_cons (pe_glob (v := .int 1000000000) rfl h1 ⟨_, rfl⟩) pa_nil))))))))) pss_never pss_nil)
      (pss_one (ps_ret (pe_and (pe_call D1.ok hr rfl D1.gl D1.kp D1.bd .nil pass0 (pa_cons (pv 4) (pa_cons pe_int (pa_cons (pv 1) pa_nil)))) (pe_and (pe_call D1.ok hr rfl D1.gl D1.kp D1.bd .nil pass0 (pa_cons (pv 5) (pa_cons pe_int (pa_cons (pv 1) pa_nil))))
        (pe_one (pe_cmpR op_ne (pv 4) (pv 5) (nomark _))))))))), ?_⟩
    refine ⟨_, rfl, _, _, _, _, _, rfl, .ty "tuple", .base (.tup ha), kit_ty (r := true) (by decide +kernel), true, rfl, iteF ?_⟩
    refine ⟨_, rfl, a, _, rfl, .inr (SqT.of ha), rfl, _, rfl, ?_⟩
    refine iteF ?_
    refine ⟨_, rfl, a, _, rfl, SqT.of ha, rfl, _, _, rfl, _, _, rfl, _, _, rfl, _, _, rfl, rfl, ?_⟩
    refine ⟨_, rfl, o.name, rfl, O.nm, fun H1 s1 => ⟨_, rfl, iteF ?_⟩⟩
    refine ⟨_, rfl, o.tick, 0, 1000000000, rfl, O.t0, O.t1, _, rfl, iteF ?_⟩
    refine ⟨_, rfl, _, rfl, (o.src : Int), 0, (L : Int), rfl, by omega, by have := O.sb; omega, _, rfl, iteT ?_⟩
    refine ⟨_, rfl, _, rfl, (o.dst : Int), 0, (L : Int), rfl, by omega, by have := O.db; omega, _, rfl, iteT ?_⟩
    refine ⟨_, rfl, _, rfl, rfl, ?_⟩
    have hne := O.ne
    have e : decide (V.int (o.src : Int) = V.int (o.dst : Int)) = false := decide_eq_false fun z => by injection z with z; omega
    show Q (V.bl (!decide (V.int (o.src : Int) = V.int (o.dst : Int)))) H1
    rw [e]
    exact k _ s1
end
end Bay

/-! look_at_orders. -/
namespace Bay
open PySem L2 PyProof.Rows
/-- the names met so far -/
def namesK (ord : Nat → Ord) (i : Nat) : List (Key × V) := (List.range i).map fun j => (Sum.inr (ord j).name, V.bl true)
theorem namesK_none {ord : Nat → Ord} {n i L : Nat} (O : OrdsOk n ord L) (hi : i < n) : valV (namesK ord i) (Sum.inr (ord i).name) = none := by
  unfold valV namesK
  rw [Option.map_eq_none_iff, List.find?_eq_none]
  intro x hx
  obtain ⟨j, hj, rfl⟩ := List.mem_map.mp hx
  have hj' := List.mem_range.mp hj
  intro z
  have e := of_decide_eq_true z
  injection e with e
  have := O.inj j i (by omega) hi e
  omega
theorem namesK_put {ord : Nat → Ord} {n i L : Nat} (O : OrdsOk n ord L) (hi : i < n) : putK (namesK ord i) (Sum.inr (ord i).name) (.bl true) = namesK ord (i + 1) := by
  have h := namesK_none O hi
  have h' : ((namesK ord i).any fun kv => decide (kv.1 = Sum.inr (ord i).name)) = false := by
    unfold valV at h
    rw [Option.map_eq_none_iff, List.find?_eq_none] at h
    rw [List.any_eq_false]
    exact h
  unfold putK
  rw [h', if_neg Bool.false_ne_true]
  unfold namesK
  rw [List.range_succ, List.map_append]
  rfl
def lastT (ord : Nat → Ord) (i : Nat) : Int := if i = 0 then 0 else (ord (i - 1)).tick
theorem refs_get {r : Nat → Addr} {l : List Nat} {i : Nat} {x : V} (h : (refs r l)[i]? = some x) : ∃ j, l[i]? = some j ∧ x = .ref (r j) := by
  unfold refs at h
  rw [List.getElem?_map] at h
  cases e : l[i]? with
  | none => rw [e] at h; cases h
  | some j => rw [e] at h; cases h; exact ⟨j, rfl, rfl⟩
theorem refs_range_get {r : Nat → Addr} {n i : Nat} {x : V} (h : (refs r (List.range n))[i]? = some x) : i < n ∧ x = .ref (r i) := by
  obtain ⟨j, hj, e⟩ := refs_get h
  rw [List.getElem?_range] at hj
  · cases hj
    refine ⟨?_, e⟩
    have := (List.getElem?_eq_some_iff.mp h).1
    simpa [refs] using this
  · have := (List.getElem?_eq_some_iff.mp h).1
    simpa [refs] using this
section
variable {P : Program} {w : World} {K : PySem.W.Frag} {mg : Str → Option Value} {base : Heap}
theorem scLookOrders : FnScope ["aisle", "thing", "names", "latest", "order"] ["aisle", "thing"] (defScope sLookOrders) := ⟨rfl, rfl, rfl, by decide +kernel, rfl, by decide +kernel, by decide +kernel⟩
theorem ok_lookOrders {f : Addr} {fd : FuncData} (F : Fun K "look_at_orders" "look_at_orders" sLookOrders f fd) (T : Txt mg) {f1 fd1 f2 fd2} (D1 : Df P w K mg base 3 "look_at_aisle" ["thing"] spLookAisle f1 fd1) (D2 : Df P w K mg base 3 "is_order" ["thing", "last"] spIsOrder f2 fd2) :
    FnOk P w K mg base CX0 4 f fd ["aisle", "thing"] spLookOrders := by
  obtain ⟨t1, h1⟩ := T.mostOrders
  refine F.ok scLookOrders (fun vs H Q E h => ?_) (fun cdv A outer s H vs Q E hr h => ?_)
  · obtain ⟨a, lo, gaps, most, n, r, ord, rfl, _⟩ := h
    rfl
  · obtain ⟨a, lo, gaps, most, n, r, ord, rfl, hA, hAo, hO, hOo, k⟩ := h
    have hu := hu_of hr
    refine ⟨_, pss_cons (ps_expr (pe_call D1.ok hr rfl D1.gl D1.kp D1.bd .nil pass0 (pa_cons (pv 0) pa_nil)))
      (pss_cons (ps_if (PW.pt (pw_or (pt_not (pt_val (pe_callB call_isi (by rfl) T.isinstance bt_isinstance (pa_cons (pv 1) (pa_cons (pe_bltn (v := .ty "list") (by rfl) T.list bt_list rfl) pa_nil)))))
        (pw_or1 (pt_cmpR op_gt (pe_callB call_len_seq (by rfl) T.len PySem.boot_len (pa_cons (pv 1) pa_nil)) (pe_glob (v := .int 60) rfl h1 ⟨_, rfl⟩) (nomark _))))) pss_never pss_nil)
      (pss_cons (ps_set (i := 2) scLookOrders.nd rfl (Or.inl rfl) pe_dnewK)
      (pss_cons (ps_set (i := 3) scLookOrders.nd rfl (Or.inl rfl) pe_int)
      (pss_one (ps_for PassesOwn.never rfl (pi_list (pv 1)) (pg_name (i := 4) scLookOrders.nd rfl (Or.inl rfl))
        (pss_cons (ps_if (pt_not (pt_val (pe_call D2.ok hr rfl D2.gl D2.kp D2.bd .nil pass0 (pa_cons (pv 4) (pa_cons (pe_callB call_len_seq (by rfl) T.len PySem.boot_len (pa_cons (pe_ix ix_tup (pv 0) pe_int (fun _ _ => rfl)) pa_nil)) pa_nil))))) pss_never pss_nil)
        (pss_cons (ps_if (pt_cmp (pc_din hu (pe_ix ix_tup (pv 4) pe_int (fun _ _ => rfl)) (pv 2))) pss_never pss_nil)
        (pss_cons (ps_if (pt_cmpR op_lt (pe_ix ix_tup (pv 4) pe_int (fun _ _ => rfl)) (pv 3) (nomark _)) pss_never pss_nil)
        (pss_cons (ps_dput hu (pv 2) (pe_ix ix_tup (pv 4) pe_int (fun _ _ => rfl)) pe_bl rfl)
        (pss_one (ps_set (i := 3) scLookOrders.nd rfl (Or.inl rfl) (pe_ix ix_tup (pv 4) pe_int (fun _ _ => rfl))))))))))))), ?_⟩
    refine ⟨_, rfl, a, gaps, most, rfl, hA, hAo, fun H1 s1 => ?_⟩
    have hO1 := hO.same s1
    refine ⟨_, rfl, _, _, _, _, _, rfl, .ty "list", .base (.lst hO1.lst), kit_ty (r := true) (by decide +kernel), true, rfl, iteF ?_⟩
    refine ⟨_, rfl, lo, _, rfl, .inl (SqL.of hO1.lst), _, _, rfl, rfl, _, rfl, ?_⟩
    have hlen : (refs r (List.range n)).length = n := by unfold refs; rw [List.length_map, List.length_range]
    rw [hlen, decide_eq_false (show ¬ ((60 : Int) < (n : Int)) by have := hOo.few; omega)]
    refine iteF ?_
    intro nd hnd
    have s2 : Same H (upd H1 nd (.dK [])) := Same.new s1 hnd
    have fnd : H nd = none := Same.free s1 hnd
    refine ⟨_, rfl, lo, rfl, ⟨_, SqL.of (hO.same s2).lst⟩, for_list (K := K) (a := lo) (xs := refs r (List.range n)) (fun i σ H' => ∃ v, σ = [some (.ref a), some (.ref lo), some (.ref nd), some (.int (lastT ord i)), v] ∧ Same H H' ∧ H' nd = some (.dK (namesK ord i)))
      ⟨none, rfl, s2, upd_same⟩ (fun i σ H' _ ⟨_, _, s3, _⟩ => SqL.of (hO.same s3).lst) ?_ ?_⟩
    · rintro i x σ H3 hx ⟨v, rfl, s3, q3⟩
      obtain ⟨hi, rfl⟩ := refs_range_get hx
      have hO3 := hO.same s3
      obtain ⟨g, ha3, hg3⟩ := (hA.same s3).ex
      refine ⟨_, rfl, _, rfl, a, _, _, _, rfl, rfl, SqT.of ha3, at_of (j := 0) rfl rfl, g, _, rfl, .inl (SqL.of hg3), r i, ord i, gaps.length, ?_, hO3.at_ i hi, hOo.ok i hi, fun H4 s4 => ⟨_, rfl, iteF ?_⟩⟩
      · rw [List.length_map]
        rfl
      have s5 := s3.trans s4
      have hO4 := hO.same s5
      have hi4 := hO4.at_ i hi
      have q4 := s4 _ _ q3
      refine ⟨_, rfl, r i, _, _, _, rfl, rfl, SqT.of hi4, at_of (j := 0) rfl rfl, _, rfl, nd, _, rfl, DGet.k (k := Sum.inr (ord i).name) q4, _, rfl, ?_⟩
      rw [namesK_none hOo hi]
      refine iteF ?_
      refine ⟨_, rfl, r i, _, _, _, rfl, rfl, SqT.of hi4, at_of (j := 1) rfl rfl, _, rfl, _, _, rfl, rfl, _, rfl, ?_⟩
      have hlt : ¬ (ord i).tick < lastT ord i := by
        unfold lastT
        split
        · have := (hOo.ok i hi).t0; omega
        · have := hOo.srt (i - 1) i (by omega) hi; omega
      rw [decide_eq_false hlt]
      refine iteF ?_
      have hkl : (namesK ord i).length < sizeLine := by
        unfold namesK
        rw [List.length_map, List.length_range, sizeLine_eq]
        have := hOo.few
        omega
      refine ⟨_, rfl, _, rfl, r i, _, _, _, rfl, rfl, SqT.of hi4, at_of (j := 0) rfl rfl, nd, _, rfl, DPut.k (k := Sum.inr (ord i).name) q4 hkl, ?_⟩
      have s6 : Same H (upd H4 nd (.dK (putK (namesK ord i) (Sum.inr (ord i).name) (.bl true)))) := Same.but s5 fnd
      refine ⟨_, rfl, r i, _, _, _, rfl, rfl, SqT.of ((hO.same s6).at_ i hi), at_of (j := 1) rfl rfl, ?_⟩
      refine ⟨_, rfl, s6, ?_⟩
      rw [upd_same, namesK_put hOo hi]
    · rintro σ H3 ⟨v, rfl, s3, q3⟩
      exact k _ s3
end
end Bay

/-! Objects by places of their fields; lists of numbers; slices. -/
namespace Bay
open PySem L2 PyProof.Rows
/-! ### fields by places -/
def ix (k : Str) : List Str → Option Nat
  | [] => none
  | a :: r => if a = k then some 0 else (ix k r).map (· + 1)
theorem zip_lookup {k : Str} {v : V} : ∀ {ks : List Str} {vs : List V} {i : Nat}, ix k ks = some i → vs[i]? = some v → (ks.zip vs).lookup k = some v
  | [], vs, i, h, _ => by cases h
  | a :: ks, [], i, h, hv => by simp at hv
  | a :: ks, x :: vs, i, h, hv => by
    unfold ix at h
    by_cases c : a = k
    · rw [if_pos c] at h
      cases h
      subst c
      cases hv
      show List.lookup a ((a, v) :: ks.zip vs) = some v
      simp [List.lookup]
    · rw [if_neg c] at h
      cases e : ix k ks with
      | none => rw [e] at h; cases h
      | some j =>
        rw [e] at h
        cases h
        have hb : (k == a) = false := beq_eq_false_iff_ne.mpr fun z => c z.symm
        show List.lookup k ((a, x) :: ks.zip vs) = some v
        simp only [List.lookup, hb]
        exact zip_lookup e (by simpa using hv)
theorem zip_none {k : Str} : ∀ {ks : List Str} {vs : List V}, ix k ks = none → (ks.zip vs).lookup k = none
  | [], vs, h => rfl
  | a :: ks, [], h => rfl
  | a :: ks, x :: vs, h => by
    unfold ix at h
    by_cases c : a = k
    · rw [if_pos c] at h; cases h
    · rw [if_neg c] at h
      have e : ix k ks = none := by
        cases e : ix k ks with
        | none => rfl
        | some j => rw [e] at h; cases h
      have hb : (k == a) = false := beq_eq_false_iff_ne.mpr fun z => c z.symm
      show List.lookup k ((a, x) :: ks.zip vs) = none
      simp only [List.lookup, hb]
      exact zip_none e
theorem zip_put {k : Str} {v : V} : ∀ {ks : List Str} {vs : List V} {i : Nat}, ix k ks = some i → i < vs.length → putF k v (ks.zip vs) = ks.zip (vs.set i v)
  | [], vs, i, h, _ => by cases h
  | a :: ks, [], i, h, hv => by simp at hv
  | a :: ks, x :: vs, i, h, hv => by
    unfold ix at h
    show (if a = k then (a, v) :: ks.zip vs else (a, x) :: putF k v (ks.zip vs)) = _
    by_cases c : a = k
    · rw [if_pos c] at h ⊢
      cases h
      rfl
    · rw [if_neg c] at h ⊢
      cases e : ix k ks with
      | none => rw [e] at h; cases h
      | some j =>
        rw [e] at h
        cases h
        rw [zip_put e (by simpa using hv)]
        rfl
theorem zip_app {k : Str} {v : V} : ∀ {ks : List Str} {vs : List V}, ix k ks = none → ks.length = vs.length → putF k v (ks.zip vs) = (ks ++ [k]).zip (vs ++ [v])
  | [], [], h, _ => rfl
  | [], _ :: _, h, hl => by simp at hl
  | a :: ks, [], h, hl => by simp at hl
  | a :: ks, x :: vs, h, hl => by
    unfold ix at h
    show (if a = k then (a, v) :: ks.zip vs else (a, x) :: putF k v (ks.zip vs)) = _
    by_cases c : a = k
    · rw [if_pos c] at h; cases h
    · rw [if_neg c] at h ⊢
      have e : ix k ks = none := by
        cases e : ix k ks with
        | none => rfl
        | some j => rw [e] at h; cases h
      rw [zip_app e (by simpa using hl)]
      rfl
theorem zip_few {ks : List Str} {vs : List V} (h : ks.length < 1000) : (ks.zip vs).length < 1000 := by
  rw [List.length_zip]; omega
/-! ### lists of numbers, of perhaps-numbers -/
def nums (l : List Nat) : List V := l.map fun i => V.int ((i : Nat) : Int)
def ov (f : Nat → Option Int) (i : Nat) : V := match f i with
  | none => .non
  | some t => .int t
def opts (n : Nat) (f : Nat → Option Int) : List V := (List.range n).map (ov f)
theorem opts_set {n i : Nat} {f : Nat → Option Int} {t : Int} (h : i < n) : (opts n f).set i (.int t) = opts n (fun j => if j = i then some t else f j) := by
  unfold opts
  apply List.ext_getElem?
  intro j
  rw [List.getElem?_set, List.getElem?_map, List.getElem?_map, List.length_map, List.length_range]
  by_cases c : i = j
  · subst c
    rw [if_pos rfl, if_pos h, List.getElem?_range h]
    show some (V.int t) = some (ov _ i)
    unfold ov
    simp
  · rw [if_neg c]
    by_cases hj : j < n
    · rw [List.getElem?_range hj]
      show some (ov f j) = some (ov _ j)
      unfold ov
      have c' : ¬ j = i := fun z => c z.symm
      simp only [if_neg c']
    · rw [List.getElem?_eq_none (by rw [List.length_range]; omega)]
      rfl
theorem nums_get {l : List Nat} {i : Nat} {x : V} (h : (nums l)[i]? = some x) : ∃ j, l[i]? = some j ∧ x = .int (j : Int) := by
  unfold nums at h
  rw [List.getElem?_map] at h
  cases e : l[i]? with
  | none => rw [e] at h; cases h
  | some j => rw [e] at h; cases h; exact ⟨j, rfl, rfl⟩
theorem nums_len (l : List Nat) : (nums l).length = l.length := by unfold nums; rw [List.length_map]
theorem opts_len (n : Nat) (f : Nat → Option Int) : (opts n f).length = n := by unfold opts; rw [List.length_map, List.length_range]
theorem ixN_nat {n j : Nat} (hj : j < n) : ixN n (j : Int) = some j := by
  unfold ixN
  rw [if_pos (by omega), if_pos (by omega)]
  simp
/-! ### slices -/
theorem cut_to (xs : List V) (r : Nat) : cutV xs none (some (r : Int)) = xs.take r := by
  unfold cutV
  rw [HT.sIx_none, HT.sIx_nat, List.drop_zero, Nat.sub_zero]
  apply List.ext_getElem?
  intro i
  rw [List.getElem?_take, List.getElem?_take]
  by_cases h : i < xs.length
  · by_cases h2 : i < r
    · rw [if_pos (by omega), if_pos h2]
    · rw [if_neg (by omega), if_neg h2]
  · rw [List.getElem?_eq_none (by omega)]
    simp
theorem cut_from (xs : List V) (r : Nat) : cutV xs (some (r : Int)) none = xs.drop r := by
  unfold cutV
  rw [HT.sIx_none, HT.sIx_nat]
  by_cases h : r ≤ xs.length
  · rw [Nat.min_eq_left h, List.take_of_length_le (by rw [List.length_drop]; exact Nat.le_refl _)]
  · rw [Nat.min_eq_right (by omega), Nat.sub_self, List.take_zero, List.drop_eq_nil_of_le (by omega)]
end Bay

/-! A list against the empty list. -/
namespace Bay
open PySem L2 PyProof.Rows
def Flat (d : PyData) : Prop := d.canLay0 = true ∧ d.depth ≤ 1
theorem canAll : ∀ {ds : List PyData}, (∀ d ∈ ds, Flat d) → PyData.canLayAll0 ds = true ∧ PyData.depthAll ds ≤ 1
  | [], _ => ⟨by simp [PyData.canLayAll0], by simp [PyData.depthAll]⟩
  | d :: ds, h => by
    obtain ⟨h1, h2⟩ := canAll (ds := ds) fun e he => h e (List.mem_cons_of_mem _ he)
    obtain ⟨h3, h4⟩ := h d List.mem_cons_self
    refine ⟨by simp only [PyData.canLayAll0, h1, h3, Bool.and_self], ?_⟩
    simp only [PyData.depthAll]
    omega
theorem shaped_list {ds : List PyData} (h : ∀ d ∈ ds, Flat d) : SeqAt.shaped (.list ds) = true := by
  obtain ⟨h1, h2⟩ := canAll h
  unfold SeqAt.shaped
  have e1 : PyData.canLay0 (.list ds) = true := by simp only [PyData.canLay0, h1]
  have e2 : decide (PyData.depth (.list ds) ≤ 64) = true := decide_eq_true (by simp only [PyData.depth]; omega)
  rw [e1, e2]
  rfl
theorem shaped_nil : SeqAt.shaped (.list []) = true := shaped_list fun d h => nomatch h
theorem eqv_nil (ds : List PyData) : PyData.eqv (.list ds) (.list []) = ds.isEmpty := by
  cases ds with
  | nil => simp [PyData.eqv, PyData.eqvAll]
  | cons d r => simp [PyData.eqv, PyData.eqvAll]
/-- a list of data against an empty one -/
theorem eq_nil {K : PySem.W.Frag} {H : Hp} {a b : Addr} {xs : List V} {ds : List PyData} {Q : VK} (ha : H a = some (.lst xs)) (hd : DpAll K H xs ds) (hf : ∀ d ∈ ds, Flat d) (hb : H b = some (.lst [])) (q : Q (.bl ds.isEmpty) H) : rEqD K (.ref a) (.ref b) H Q :=
  ⟨.list ds, .list [], .lst (SqL.of ha) hd, .lst (SqL.of hb) .nil, shaped_list hf, shaped_nil, by rw [eqv_nil]; exact q⟩
theorem ne_nil {K : PySem.W.Frag} {H : Hp} {a b : Addr} {xs : List V} {ds : List PyData} {Q : VK} (ha : H a = some (.lst xs)) (hd : DpAll K H xs ds) (hf : ∀ d ∈ ds, Flat d) (hb : H b = some (.lst [])) (q : Q (.bl (!ds.isEmpty)) H) : rNeD K (.ref a) (.ref b) H Q :=
  ⟨.list ds, .list [], .lst (SqL.of ha) hd, .lst (SqL.of hb) .nil, shaped_list hf, shaped_nil, by rw [eqv_nil]; exact q⟩
theorem flat_int (i : Int) : Flat (.int i) := ⟨by simp [PyData.canLay0], by simp [PyData.depth]⟩
theorem dp_ints {K : PySem.W.Frag} {H : Hp} : ∀ ns : List Int, DpAll K H (ns.map V.int) (ns.map PyData.int)
  | [] => .nil
  | n :: ns => .cons (.int n) (dp_ints ns)
theorem dp_nums {K : PySem.W.Frag} {H : Hp} (l : List Nat) : DpAll K H (nums l) ((l.map fun i => ((i : Nat) : Int)).map PyData.int) := by
  have := dp_ints (K := K) (H := H) (l.map fun i => ((i : Nat) : Int))
  rw [List.map_map] at this
  exact this
theorem flat_ints (ns : List Int) : ∀ d ∈ ns.map PyData.int, Flat d := fun d hd => by
  obtain ⟨i, _, rfl⟩ := List.mem_map.mp hd
  exact flat_int i
def ordD (o : Ord) : PyData := .tuple [.str o.name, .int o.tick, .int (o.src : Int), .int (o.dst : Int)]
theorem dp_refs {K : PySem.W.Frag} {H : Hp} {r : Nat → Addr} {ord : Nat → Ord} : ∀ {l : List Nat}, (∀ i ∈ l, H (r i) = some (.tup (ord i).vs)) → DpAll K H (refs r l) (l.map fun i => ordD (ord i))
  | [], _ => .nil
  | i :: l, h => .cons (.tup (SqT.of (h i List.mem_cons_self)) (.cons (.str _) (.cons (.int _) (.cons (.int _) (.cons (.int _) .nil))))) (dp_refs fun j hj => h j (List.mem_cons_of_mem _ hj))
theorem dp_strs {K : PySem.W.Frag} {H : Hp} : ∀ zs : List Str, DpAll K H (zs.map V.str) (zs.map PyData.str)
  | [] => .nil
  | z :: zs => .cons (.str z) (dp_strs zs)
end Bay

/-! The tour: lines by bays, what stands in the heap. -/
namespace Bay
open PySem L2 PyProof.Rows
theorem strOk_name {z : Str} (h : NameOk z) : PyData.strOk z = true := by
  unfold PyData.strOk
  rw [Array.all_eq_true']
  intro c hc
  have h1 := h.2.2 c (by rwa [Array.mem_toList_iff])
  have h2 : ∀ c ∈ letters.cps.toList, c < 1114112 := by decide +kernel
  exact decide_eq_true (h2 c h1)
theorem flat_ord {o : Ord} (h : NameOk o.name) : Flat (ordD o) := by
  refine ⟨?_, ?_⟩
  · have := strOk_name h
    simp [ordD, PyData.canLay0, PyData.canLayAll0, this]
  · simp [ordD, PyData.depth, PyData.depthAll]
/-! ### lines, plainly -/
theorem line_succ (p : Par) (c : Nat) (tak : Nat → Option Int) (b : Nat) (u : Bool) :
    lineOf p (c + 1) tak b u = lineOf p c tak b u ++ (if p.src c = b ∧ p.dir c = u ∧ tak c = none then [c] else []) := by
  unfold lineOf
  rw [List.range_succ, List.filter_append]
  congr 1
  by_cases h : p.src c = b ∧ p.dir c = u ∧ tak c = none
  · rw [if_pos h]
    obtain ⟨h1, h2, h3⟩ := h
    simp [h1, h2, h3]
  · rw [if_neg h]
    rw [List.filter_eq_nil_iff]
    intro x hx z
    have e : x = c := by simpa using hx
    subst e
    simp only [Bool.and_eq_true, decide_eq_true_eq, beq_iff_eq, Option.isNone_iff_eq_none] at z
    exact h ⟨z.1.1, z.1.2, z.2⟩
theorem filter_take_drop : ∀ (l : List Nat) (m : Nat), l.Nodup → l.filter (fun i => decide (i ∉ l.take m)) = l.drop m
  | [], m, _ => by simp
  | a :: l, 0, _ => by simp
  | a :: l, m + 1, h => by
    obtain ⟨h1, h2⟩ := List.nodup_cons.mp h
    have ih := filter_take_drop l m h2
    rw [List.take_succ_cons, List.drop_succ_cons, List.filter_cons]
    rw [if_neg (by simp)]
    rw [← ih]
    apply List.filter_congr
    intro x hx
    have : x ≠ a := fun e => h1 (e ▸ hx)
    simp [this]
theorem line_less (p : Par) (c : Nat) (tak : Nat → Option Int) (b : Nat) (u : Bool) (nw : List Nat) (t : Int) :
    lineOf p c (fun i => if i ∈ nw then some t else tak i) b u = (lineOf p c tak b u).filter fun i => decide (i ∉ nw) := by
  unfold lineOf
  rw [List.filter_filter]
  apply List.filter_congr
  intro x _
  by_cases z : x ∈ nw
  · simp [z]
  · simp [z]
/-- behind a stop the line of that bay has lost its head -/
theorem line_taken (p : Par) (c : Nat) (tak : Nat → Option Int) (b : Nat) (u : Bool) (m : Nat) (t : Int) :
    lineOf p c (fun i => if i ∈ (lineOf p c tak b u).take m then some t else tak i) b u = (lineOf p c tak b u).drop m := by
  rw [line_less, filter_take_drop _ _ line_nodup]
theorem line_other (p : Par) (c : Nat) (tak : Nat → Option Int) (b b' : Nat) (u u' : Bool) (m : Nat) (t : Int) (h : ¬ (b' = b ∧ u' = u)) :
    lineOf p c (fun i => if i ∈ (lineOf p c tak b u).take m then some t else tak i) b' u' = lineOf p c tak b' u' := by
  rw [line_less, List.filter_eq_self]
  intro x hx
  refine decide_eq_true fun z => ?_
  obtain ⟨_, h1, h2, h3⟩ := mem_line.mp (List.mem_of_mem_take z)
  obtain ⟨_, h4, h5, _⟩ := mem_line.mp hx
  exact h ⟨h4.symm.trans h1, h5.symm.trans h2⟩
/-! ### the dict of lines -/
theorem atL_mem {xs : LX} {k : Int × Bool} {q : Addr × Addr} (h : atL xs k = some q) : (k, q) ∈ xs := by
  unfold atL at h
  obtain ⟨x, hx, e⟩ := Option.map_eq_some_iff.mp h
  have h1 := List.mem_of_find?_eq_some hx
  have h2 : x.1 = k := by simpa using List.find?_some hx
  rw [← h2, ← e]
  exact h1
theorem atL_none {xs : LX} {k : Int × Bool} (h : atL xs k = none) : ∀ e ∈ xs, e.1 ≠ k := by
  unfold atL at h
  rw [Option.map_eq_none_iff, List.find?_eq_none] at h
  intro e he z
  exact h e he (decide_eq_true z)
structure LinesAt (P : Program) (w : World) (H : Hp) (ln : Addr) (xs : LX) (p : Par) (c : Nat) (tak : Nat → Option Int) : Prop where
  ld : LD P w H ln xs
  keys : (xs.map (·.1)).Nodup
  ents : ∀ e ∈ xs, ∃ (b : Nat) (u : Bool), e.1 = ((b : Int), u) ∧ b ≤ p.L ∧ H e.2.2 = some (.lst (nums (lineOf p c tak b u)))
  mis : ∀ (b : Nat) (u : Bool), atL xs ((b : Int), u) = none → lineOf p c tak b u = []
theorem LinesAt.few {P w H ln xs p c tak} (h : LinesAt P w H ln xs p c tak) : xs.length ≤ 2 * (p.L + 1) := by
  have hs : xs.map (·.1) ⊆ ((List.range (p.L + 1)).map fun b => (((b : Nat) : Int), true)) ++ ((List.range (p.L + 1)).map fun b => (((b : Nat) : Int), false)) := by
    intro k hk
    obtain ⟨e, he, rfl⟩ := List.mem_map.mp hk
    obtain ⟨b, u, e1, hb, _⟩ := h.ents e he
    rw [List.mem_append]
    cases u with
    | true => left; exact List.mem_map.mpr ⟨b, List.mem_range.mpr (by omega), e1.symm⟩
    | false => right; exact List.mem_map.mpr ⟨b, List.mem_range.mpr (by omega), e1.symm⟩
  have := h.keys.length_le_of_subset hs
  rw [List.length_map, List.length_append, List.length_map, List.length_map, List.length_range] at this
  omega
/-- heaps that agree on the dict, its keys and its lists -/
theorem LinesAt.move {P w H H' ln xs p c tak} (h : LinesAt P w H ln xs p c tak) (h1 : ∀ o, H ln = some o → H' ln = some o) (h2 : ∀ a ys, H a = some (.tup ys) → H' a = some (.tup ys)) (h3 : ∀ e ∈ xs, ∀ o, H e.2.2 = some o → H' e.2.2 = some o) :
    LinesAt P w H' ln xs p c tak :=
  ⟨⟨h1 _ h.ld.at_, fun x hx => h2 _ _ (h.ld.key x hx)⟩, h.keys, fun e he => let ⟨b, u, e1, e2, e3⟩ := h.ents e he; ⟨b, u, e1, e2, h3 e he _ e3⟩, h.mis⟩
theorem LinesAt.same {P w H H' ln xs p c tak} (h : LinesAt P w H ln xs p c tak) (s : Same H H') : LinesAt P w H' ln xs p c tak :=
  h.move (fun o => s ln o) (fun a ys => s a _) fun e _ o => s _ o
end Bay

/-! The tour's object; skip, leave. -/
namespace Bay
open PySem L2 PyProof.Rows
structure Ctx (H0 : Hp) (a lo : Addr) (n : Nat) (r : Nat → Addr) (ord : Nat → Ord) (gaps : List Int) (most : Int) : Prop where
  A : AisleAt H0 a gaps most
  Ao : AisleOk gaps most
  O : OrdersAt H0 lo n r ord
  Oo : OrdsOk n ord gaps.length
theorem Ctx.same {H0 H a lo n r ord gaps most} (c : Ctx H0 a lo n r ord gaps most) (s : Same H0 H) : Ctx H a lo n r ord gaps most := ⟨c.A.same s, c.Ao, c.O.same s, c.Oo⟩
def parOf (n : Nat) (ord : Nat → Ord) (gaps : List Int) (most : Int) : Par := ⟨n, fun i => (ord i).tick, fun i => (ord i).src, fun i => (ord i).dst, gaps, most.toNat⟩
theorem par_ok {n L : Nat} {ord : Nat → Ord} {gaps : List Int} {most : Int} (Ao : AisleOk gaps most) (Oo : OrdsOk n ord gaps.length) : (parOf n ord gaps most).Ok where
  hL := Ao.l1
  hg := Ao.g1
  hm := by have := Ao.m1; show 1 ≤ most.toNat; omega
  tk0 := fun i h => (Oo.ok i h).t0
  srt := Oo.srt
  sb := fun i h => (Oo.ok i h).sb
  db := fun i h => (Oo.ok i h).db
  ne := fun i h => (Oo.ok i h).ne
theorem sum_bounds : ∀ {l : List Int}, (∀ x ∈ l, 1 ≤ x) → (∀ x ∈ l, x ≤ 1000) → (l.length : Int) ≤ l.sum ∧ l.sum ≤ 1000 * l.length
  | [], _, _ => ⟨by simp, by simp⟩
  | x :: l, h1, h2 => by
    obtain ⟨a, b⟩ := sum_bounds (l := l) (fun y hy => h1 y (List.mem_cons_of_mem _ hy)) fun y hy => h2 y (List.mem_cons_of_mem _ hy)
    have c := h1 x List.mem_cons_self
    have d := h2 x List.mem_cons_self
    rw [List.sum_cons, List.length_cons]
    omega
theorem R_bounds {gaps : List Int} {most : Int} (Ao : AisleOk gaps most) : 2 ≤ 2 * gaps.sum ∧ 2 * gaps.sum ≤ 30000 := by
  have := sum_bounds Ao.g1 Ao.g2
  have h1 := Ao.l1
  have h2 := Ao.l2
  omega
/-! ### reading and writing fields -/
/-! ### the tour -/
def tourK : List Str := ["aisle", "orders", "taken", "homes", "many", "come", "lines", "queued", "riding", "tick", "bay", "upward"]
def tv (a lo tk hm : Addr) (many come : Int) (ln : Addr) (queued : Int) (rd : Addr) (tick bay : Int) (up : Bool) : List V :=
  [.ref a, .ref lo, .ref tk, .ref hm, .int many, .int come, .ref ln, .int queued, .ref rd, .int tick, .int bay, .bl up]
theorem xAisle : ix "aisle" tourK = some 0 := by decide +kernel
theorem xOrders : ix "orders" tourK = some 1 := by decide +kernel
theorem xTaken : ix "taken" tourK = some 2 := by decide +kernel
theorem xHomes : ix "homes" tourK = some 3 := by decide +kernel
theorem xMany : ix "many" tourK = some 4 := by decide +kernel
theorem xCome : ix "come" tourK = some 5 := by decide +kernel
theorem xLines : ix "lines" tourK = some 6 := by decide +kernel
theorem xQueued : ix "queued" tourK = some 7 := by decide +kernel
theorem xRiding : ix "riding" tourK = some 8 := by decide +kernel
theorem xTick : ix "tick" tourK = some 9 := by decide +kernel
theorem xBay : ix "bay" tourK = some 10 := by decide +kernel
theorem xUpward : ix "upward" tourK = some 11 := by decide +kernel
theorem few12 : tourK.length < 1000 := by decide
structure TourTxt (K : PySem.W.Frag) (C : Addr) : Prop where
  cl : Cls K C
  nAisle : NoAttr K C "aisle"
  nOrders : NoAttr K C "orders"
  nTaken : NoAttr K C "taken"
  nHomes : NoAttr K C "homes"
  nMany : NoAttr K C "many"
  nCome : NoAttr K C "come"
  nLines : NoAttr K C "lines"
  nQueued : NoAttr K C "queued"
  nRiding : NoAttr K C "riding"
  nTick : NoAttr K C "tick"
  nBay : NoAttr K C "bay"
  nUpward : NoAttr K C "upward"
structure TS where
  tak : Nat → Option Int
  hom : Nat → Option Int
  many : Int
  come : Nat
  queued : Int
  rid : List Nat
  tick : Int
  bay : Nat
  up : Bool
structure TourIn (P : Program) (w : World) (C : Addr) (H0 H : Hp) (x a lo : Addr) (p : Par) (S : TS) (dx tk hm ln rd : Addr) (xs : LX) : Prop where
  same : Same H0 H
  x0 : H0 x = none
  tk0 : H0 tk = none
  hm0 : H0 hm = none
  ln0 : H0 ln = none
  e0 : ∀ e ∈ xs, H0 e.2.2 = none
  obj : H x = some (.ins C dx (tourK.zip (tv a lo tk hm S.many S.come ln S.queued rd S.tick S.bay S.up)))
  otk : H tk = some (.lst (opts p.n S.tak))
  ohm : H hm = some (.lst (opts p.n S.hom))
  ord : H rd = some (.lst (nums S.rid))
  lin : LinesAt P w H ln xs p S.come S.tak
  nd : (tk :: hm :: rd :: xs.map (·.2.2)).Nodup
def TourAt (P : Program) (w : World) (C : Addr) (H0 H : Hp) (x a lo : Addr) (p : Par) (S : TS) : Prop := ∃ dx tk hm ln rd xs, TourIn P w C H0 H x a lo p S dx tk hm ln rd xs
section
variable {P : Program} {w : World} {C : Addr} {H0 H H' : Hp} {x a lo : Addr} {p : Par} {S : TS} {dx tk hm ln rd : Addr} {xs : LX}
theorem TourIn.move (h : TourIn P w C H0 H x a lo p S dx tk hm ln rd xs) (s : Same H H') : TourIn P w C H0 H' x a lo p S dx tk hm ln rd xs :=
  ⟨h.same.trans s, h.x0, h.tk0, h.hm0, h.ln0, h.e0, s _ _ h.obj, s _ _ h.otk, s _ _ h.ohm, s _ _ h.ord, h.lin.same s, h.nd⟩
theorem TourIn.setx (h : TourIn P w C H0 H x a lo p S dx tk hm ln rd xs) (S' : TS) (e1 : S'.tak = S.tak) (e2 : S'.hom = S.hom) (e3 : S'.come = S.come) (e4 : S'.rid = S.rid) :
    TourIn P w C H0 (upd H x (.ins C dx (tourK.zip (tv a lo tk hm S'.many S'.come ln S'.queued rd S'.tick S'.bay S'.up)))) x a lo p S' dx tk hm ln rd xs := by
  have n1 : tk ≠ x := ne_of h.otk h.obj (by intro q; cases q)
  have n2 : hm ≠ x := ne_of h.ohm h.obj (by intro q; cases q)
  have n3 : rd ≠ x := ne_of h.ord h.obj (by intro q; cases q)
  have n4 : ln ≠ x := ne_of h.lin.ld.at_ h.obj (by intro q; cases q)
  refine ⟨Same.but h.same h.x0, h.x0, h.tk0, h.hm0, h.ln0, h.e0, upd_same, ?_, ?_, ?_, ?_, h.nd⟩
  · rw [upd_ne n1, e1]; exact h.otk
  · rw [upd_ne n2, e2]; exact h.ohm
  · rw [upd_ne n3, e4]; exact h.ord
  · rw [e1, e3]
    refine h.lin.move (fun o q => by rw [upd_ne n4]; exact q) (fun b ys q => ?_) fun e he o q => ?_
    · rw [upd_ne (ne_of q h.obj (by intro z; cases z))]; exact q
    · obtain ⟨b, u, _, _, e3⟩ := h.lin.ents e he
      rw [upd_ne (ne_of e3 h.obj (by intro z; cases z))]; exact q
end
/-! ### skip -/
def skipTo (p : Par) (S : TS) : Int := S.tick + (if p.tk S.come - S.tick > 0 then p.tk S.come - S.tick else 0).fdiv (2 * p.gaps.sum) * (2 * p.gaps.sum)
def skipS (p : Par) (S : TS) : TS := if S.queued = 0 ∧ S.rid = [] then { S with tick := skipTo p S } else S
def spSkip (P : Program) (w : World) (C : Addr) : Sp := fun vs H Q _ => ∃ (H0 : Hp) (x a lo : Addr) (n : Nat) (r : Nat → Addr) (ord : Nat → Ord) (gaps : List Int) (most : Int) (S : TS), vs = [.ref x] ∧ Ctx H0 a lo n r ord gaps most ∧
  TourAt P w C H0 H x a lo (parOf n ord gaps most) S ∧ (S.queued = 0 → S.rid = [] → S.come < n) ∧ ∀ H', TourAt P w C H0 H' x a lo (parOf n ord gaps most) (skipS (parOf n ord gaps most) S) → Q .non H'
def leaveS (p : Par) (S : TS) : TS := if S.up = true then { S with tick := S.tick + p.g S.bay, bay := S.bay + 1, up := decide (S.bay + 1 < p.L) } else { S with tick := S.tick + p.g (S.bay - 1), bay := S.bay - 1, up := decide (S.bay - 1 = 0) }
def spLeave (P : Program) (w : World) (C : Addr) : Sp := fun vs H Q _ => ∃ (H0 : Hp) (x a lo : Addr) (n : Nat) (r : Nat → Addr) (ord : Nat → Ord) (gaps : List Int) (most : Int) (S : TS), vs = [.ref x] ∧ Ctx H0 a lo n r ord gaps most ∧
  TourAt P w C H0 H x a lo (parOf n ord gaps most) S ∧ (S.up = true → S.bay < gaps.length) ∧ (S.up = false → 1 ≤ S.bay ∧ S.bay ≤ gaps.length) ∧ ∀ H', TourAt P w C H0 H' x a lo (parOf n ord gaps most) (leaveS (parOf n ord gaps most) S) → Q .non H'
section
variable {P : Program} {w : World} {K : PySem.W.Frag} {mg : Str → Option Value} {base : Heap}
theorem scSkip : FnScope ["self", "ahead", "length"] ["self"] (defScope sSkip) := ⟨rfl, rfl, rfl, by decide +kernel, rfl, by decide +kernel, by decide +kernel⟩
theorem ok_skip {f C : Addr} {fd : FuncData} (F : Fun K "skip" "Tour.skip" sSkip f fd) (T : Txt mg) (TT : TourTxt K C) {f1 fd1} (D1 : Df P w K mg base 1 "round_of" ["aisle"] spRoundOf f1 fd1) : FnOk P w K mg base CX0 2 f fd ["self"] (spSkip P w C) := by
  refine F.ok scSkip (fun vs H Q E h => ?_) (fun cdv A outer s H vs Q E hr h => ?_)
  · obtain ⟨H0, x, a, lo, n, r, ord, gaps, most, S, rfl, _⟩ := h
    rfl
  · obtain ⟨H0, x, a, lo, n, r, ord, gaps, most, S, rfl, hC, ⟨dx, tk, hm, ln, rd, xs, h⟩, hlt, k⟩ := h
    refine ⟨_, pss_one (ps_if (PW.pt (pw_and (pt_cmpR op_eq (pe_fld (pv 0) rfl) pe_int (nomark _)) (pw_and1 (pt_cmpR (op_eqD hr.units) (pe_fld (pv 0) rfl) (pe_lst pa_nil) (nomark _)))))
      (pss_cons (ps_set (i := 1) scSkip.nd rfl (Or.inl rfl) (pe_callB (call_max2 rfl) (by rfl) T.max bt_max (pa_cons pe_int (pa_cons (pe_op op_sub (pe_ix ix_tup (pe_ix ix_list (pe_fld (pv 0) rfl) (pe_fld (pv 0) rfl) (fun _ _ => rfl)) pe_int (fun _ _ => rfl)) (pe_fld (pv 0) rfl)) pa_nil))))
      (pss_cons (ps_set (i := 2) scSkip.nd rfl (Or.inl rfl) (pe_call D1.ok hr rfl D1.gl D1.kp D1.bd .nil pass0 (pa_cons (pe_fld (pv 0) rfl) pa_nil)))
      (pss_one (ps_fldaug (pv 0) (pe_op op_mul (pe_op op_fdivN (pv 1) (pv 2)) (pv 2)) in_add)))) pss_nil), ?_⟩
    refine ⟨_, rfl, x, C, dx, _, _, rfl, h.obj, TT.cl, TT.nQueued, zip_lookup xQueued rfl, ?_⟩
    refine ⟨rfl, _, rfl, ?_⟩
    by_cases hq : S.queued = 0
    · have eq1 : decide (V.int S.queued = V.int 0) = true := decide_eq_true (by rw [hq])
      rw [eq1]
      refine iteT (⟨_, rfl, x, C, dx, _, _, rfl, h.obj, TT.cl, TT.nRiding, zip_lookup xRiding rfl, ?_⟩)
      refine ⟨Nat.zero_le _, fun l hl => ?_⟩
      have h1 := h.move (same_new (o := .lst []) hl)
      refine eq_nil h1.ord (dp_nums S.rid) (flat_ints _) upd_same ⟨_, rfl, ?_⟩
      cases hrd : S.rid with
      | cons i rest =>
        have e2 : (((i :: rest).map fun i => ((i : Nat) : Int)).map PyData.int).isEmpty = false := rfl
        rw [e2]
        refine iteF ?_
        refine k _ ⟨dx, tk, hm, ln, rd, xs, ?_⟩
        have e3 : skipS (parOf n ord gaps most) S = S := by
          unfold skipS
          rw [if_neg fun z => by rw [hrd] at z; exact absurd z.2 (by simp)]
        rw [e3]
        exact h1
      | nil =>
        have e2 : ((([] : List Nat).map fun i => ((i : Nat) : Int)).map PyData.int).isEmpty = true := rfl
        rw [e2]
        refine iteT ?_
        have hn := hlt hq hrd
        have hO := hC.O.same h1.same
        refine ⟨_, rfl, x, C, dx, _, _, rfl, h1.obj, TT.cl, TT.nOrders, zip_lookup xOrders rfl, ?_⟩
        refine ⟨_, rfl, x, C, dx, _, _, rfl, h1.obj, TT.cl, TT.nCome, zip_lookup xCome rfl, ?_⟩
        refine ⟨lo, _, _, _, rfl, rfl, SqL.of hO.lst, at_of (j := S.come) rfl (v := .ref (r S.come)) ?_, ?_⟩
        · unfold refs
          rw [List.getElem?_map, List.getElem?_range hn]
          rfl
        refine ⟨r S.come, _, _, _, rfl, rfl, SqT.of (hO.at_ _ hn), at_of (j := 1) rfl rfl, ?_⟩
        refine ⟨_, rfl, x, C, dx, _, _, rfl, h1.obj, TT.cl, TT.nTick, zip_lookup xTick rfl, ?_⟩
        refine ⟨_, _, rfl, rfl, _, _, rfl, ?_⟩
        refine ⟨_, rfl, x, C, dx, _, _, rfl, h1.obj, TT.cl, TT.nAisle, zip_lookup xAisle rfl, ?_⟩
        refine ⟨a, gaps, most, rfl, hC.A.same h1.same, ?_⟩
        refine ⟨_, rfl, x, C, dx, _, _, rfl, h1.obj, TT.cl, TT.nTick, zip_lookup xTick rfl, ?_⟩
        have hR := R_bounds hC.Ao
        refine ⟨_, rfl, _, rfl, _, _, rfl, rfl, ⟨by omega, by omega⟩, _, rfl, _, _, rfl, rfl, .inr ⟨by omega, by omega⟩, _, _, rfl, rfl, dx, _, h1.obj, zip_few few12, ?_⟩
        rw [zip_put xTick (by show 9 < 12; omega)]
        refine k _ ⟨dx, tk, hm, ln, rd, xs, ?_⟩
        have e3 : skipS (parOf n ord gaps most) S = { S with tick := skipTo (parOf n ord gaps most) S } := by
          unfold skipS
          rw [if_pos ⟨hq, hrd⟩]
        rw [e3]
        exact h1.setx { S with tick := skipTo (parOf n ord gaps most) S } rfl rfl rfl rfl
    · have eq1 : decide (V.int S.queued = V.int 0) = false := decide_eq_false fun z => hq (by injection z)
      rw [eq1]
      refine iteF ?_
      refine iteF ?_
      refine k _ ⟨dx, tk, hm, ln, rd, xs, ?_⟩
      have e3 : skipS (parOf n ord gaps most) S = S := by
        unfold skipS
        rw [if_neg fun z => hq z.1]
      rw [e3]
      exact h
end
end Bay

/-! leave of the tour. -/
namespace Bay
open PySem L2 PyProof.Rows
section
variable {P : Program} {w : World} {K : PySem.W.Frag} {mg : Str → Option Value} {base : Heap}
theorem gaps_at {gaps : List Int} {b : Nat} (h : b < gaps.length) : (gaps.map V.int)[b]? = some (V.int (gaps.getD b 0)) := by
  rw [List.getElem?_map, List.getD_eq_getElem?_getD, List.getElem?_eq_getElem h]
  rfl
theorem scLeave : FnScope ["self"] ["self"] (defScope sTourLeave) := ⟨rfl, rfl, rfl, by decide +kernel, rfl, by decide +kernel, by decide +kernel⟩
theorem ok_leave {f C : Addr} {fd : FuncData} (F : Fun K "leave" "Tour.leave" sTourLeave f fd) (T : Txt mg) (TT : TourTxt K C) : FnOk P w K mg base CX0 1 f fd ["self"] (spLeave P w C) := by
  refine F.ok scLeave (fun vs H Q E h => ?_) (fun cdv A outer s H vs Q E hr h => ?_)
  · obtain ⟨H0, x, a, lo, n, r, ord, gaps, most, S, rfl, _⟩ := h
    rfl
  · obtain ⟨H0, x, a, lo, n, r, ord, gaps, most, S, rfl, hC, ⟨dx, tk, hm, ln, rd, xs, h⟩, hu, hd, k⟩ := h
    refine ⟨_, pss_one (ps_if (pt_val (pe_fld (pv 0) rfl))
      (pss_cons (ps_fldaug (pv 0) (pe_ix ix_list (pe_ix ix_tup (pe_fld (pv 0) rfl) pe_int (fun _ _ => rfl)) (pe_fld (pv 0) rfl) (fun _ _ => rfl)) in_add)
        (pss_cons (ps_fldaug (pv 0) pe_int in_add)
        (pss_one (ps_fld (pv 0) (pe_cmpR op_lt (pe_fld (pv 0) rfl) (pe_callB call_len_seq (by rfl) T.len PySem.boot_len (pa_cons (pe_ix ix_tup (pe_fld (pv 0) rfl) pe_int (fun _ _ => rfl)) pa_nil)) (nomark _)) rfl))))
      (pss_cons (ps_fldaug (pv 0) pe_int in_sub)
        (pss_cons (ps_fldaug (pv 0) (pe_ix ix_list (pe_ix ix_tup (pe_fld (pv 0) rfl) pe_int (fun _ _ => rfl)) (pe_fld (pv 0) rfl) (fun _ _ => rfl)) in_add)
        (pss_one (ps_fld (pv 0) (pe_cmpR op_eq (pe_fld (pv 0) rfl) pe_int (nomark _)) rfl))))), ?_⟩
    refine ⟨_, rfl, x, C, dx, _, _, rfl, h.obj, TT.cl, TT.nUpward, zip_lookup xUpward rfl, _, rfl, ?_⟩
    cases hup : S.up with
    | true =>
      have hb := hu hup
      refine iteT ?_
      obtain ⟨g, hA1, hA2⟩ := (hC.A.same h.same).ex
      refine ⟨_, rfl, x, C, dx, _, _, rfl, h.obj, TT.cl, TT.nTick, zip_lookup xTick rfl, _, rfl, x, C, dx, _, _, rfl, h.obj, TT.cl, TT.nAisle, zip_lookup xAisle rfl, a, _, _, _, rfl, rfl, SqT.of hA1, at_of (j := 0) rfl rfl, _, rfl, x, C, dx, _, _, rfl, h.obj, TT.cl, TT.nBay, zip_lookup xBay rfl, g, _, _, _, rfl, rfl, SqL.of hA2, atI_nat (gaps_at hb), _, _, rfl, rfl, dx, _, h.obj, zip_few few12, ?_⟩
      rw [zip_put xTick (by show 9 < 12; omega)]
      have h1 := h.setx { S with tick := S.tick + gaps.getD S.bay 0 } rfl rfl rfl rfl
      refine ⟨_, rfl, x, C, dx, _, _, rfl, h1.obj, TT.cl, TT.nBay, zip_lookup xBay rfl, _, _, rfl, rfl, dx, _, h1.obj, zip_few few12, ?_⟩
      rw [zip_put xBay (by show 10 < 12; omega)]
      have h2 := h1.setx { S with tick := S.tick + gaps.getD S.bay 0, bay := S.bay + 1 } rfl rfl rfl rfl
      obtain ⟨g', hB1, hB2⟩ := (hC.A.same h2.same).ex
      refine ⟨_, rfl, x, C, dx, _, _, rfl, h2.obj, TT.cl, TT.nBay, zip_lookup xBay rfl, _, rfl, x, C, dx, _, _, rfl, h2.obj, TT.cl, TT.nAisle, zip_lookup xAisle rfl, a, _, _, _, rfl, rfl, SqT.of hB1, at_of (j := 0) rfl rfl, g', _, rfl, .inl (SqL.of hB2), _, _, rfl, rfl, _, rfl, x, C, dx, _, rfl, h2.obj, TT.cl, TT.nUpward, zip_few few12, ?_⟩
      rw [zip_put xUpward (by show 11 < 12; omega)]
      refine k _ ⟨dx, tk, hm, ln, rd, xs, ?_⟩
      have e2 : decide (((S.bay + 1 : Nat) : Int) < (((gaps.map V.int).length : Nat) : Int)) = decide (S.bay + 1 < gaps.length) := by
        rw [List.length_map]
        exact decide_eq_decide.mpr (by omega)
      have h3 := h2.setx { S with tick := S.tick + gaps.getD S.bay 0, bay := S.bay + 1, up := decide (((S.bay + 1 : Nat) : Int) < (((gaps.map V.int).length : Nat) : Int)) } rfl rfl rfl rfl
      have e1 : leaveS (parOf n ord gaps most) S = { S with tick := S.tick + gaps.getD S.bay 0, bay := S.bay + 1, up := decide (((S.bay + 1 : Nat) : Int) < (((gaps.map V.int).length : Nat) : Int)) } := by
        rw [e2]
        unfold leaveS
        rw [if_pos hup]
        rfl
      rw [e1]
      exact h3
    | false =>
      obtain ⟨hb1, hb2⟩ := hd hup
      refine iteF ?_
      refine ⟨_, rfl, x, C, dx, _, _, rfl, h.obj, TT.cl, TT.nBay, zip_lookup xBay rfl, _, _, rfl, rfl, dx, _, h.obj, zip_few few12, ?_⟩
      rw [zip_put xBay (by show 10 < 12; omega)]
      have eb : (S.bay : Int) - 1 = ((S.bay - 1 : Nat) : Int) := by omega
      rw [eb]
      have h1 := h.setx { S with bay := S.bay - 1 } rfl rfl rfl rfl
      obtain ⟨g, hA1, hA2⟩ := (hC.A.same h1.same).ex
      refine ⟨_, rfl, x, C, dx, _, _, rfl, h1.obj, TT.cl, TT.nTick, zip_lookup xTick rfl, _, rfl, x, C, dx, _, _, rfl, h1.obj, TT.cl, TT.nAisle, zip_lookup xAisle rfl, a, _, _, _, rfl, rfl, SqT.of hA1, at_of (j := 0) rfl rfl, _, rfl, x, C, dx, _, _, rfl, h1.obj, TT.cl, TT.nBay, zip_lookup xBay rfl, g, _, _, _, rfl, rfl, SqL.of hA2, atI_nat (gaps_at (show S.bay - 1 < gaps.length by omega)), _, _, rfl, rfl, dx, _, h1.obj, zip_few few12, ?_⟩
      rw [zip_put xTick (by show 9 < 12; omega)]
      have h2 := h1.setx { S with tick := S.tick + gaps.getD (S.bay - 1) 0, bay := S.bay - 1 } rfl rfl rfl rfl
      refine ⟨_, rfl, x, C, dx, _, _, rfl, h2.obj, TT.cl, TT.nBay, zip_lookup xBay rfl, rfl, _, rfl, x, C, dx, _, rfl, h2.obj, TT.cl, TT.nUpward, zip_few few12, ?_⟩
      rw [zip_put xUpward (by show 11 < 12; omega)]
      refine k _ ⟨dx, tk, hm, ln, rd, xs, ?_⟩
      have e2 : decide (V.int ((S.bay - 1 : Nat) : Int) = V.int 0) = decide (S.bay - 1 = 0) := decide_eq_decide.mpr ⟨fun z => by injection z with z; omega, fun z => by rw [z]; rfl⟩
      have h3 := h2.setx { S with tick := S.tick + gaps.getD (S.bay - 1) 0, bay := S.bay - 1, up := decide (V.int ((S.bay - 1 : Nat) : Int) = V.int 0) } rfl rfl rfl rfl
      have e1 : leaveS (parOf n ord gaps most) S = { S with tick := S.tick + gaps.getD (S.bay - 1) 0, bay := S.bay - 1, up := decide (V.int ((S.bay - 1 : Nat) : Int) = V.int 0) } := by
        rw [e2]
        unfold leaveS
        rw [if_neg (by rw [hup]; exact Bool.false_ne_true)]
        rfl
      rw [e1]
      exact h3
end
end Bay

/-! lie_down of the tour. -/
namespace Bay
open PySem L2 PyProof.Rows
theorem nodup_map_inj {α β : Type} {f : α → β} : ∀ {l : List α}, (l.map f).Nodup → ∀ {a b : α}, a ∈ l → b ∈ l → f a = f b → a = b
  | x :: l, h, a, b, ha, hb, e => by
    rw [List.map_cons, List.nodup_cons] at h
    rcases List.mem_cons.mp ha with ea | ha2
    · rcases List.mem_cons.mp hb with eb | hb2
      · rw [ea, eb]
      · rw [ea] at e
        exact absurd (List.mem_map.mpr ⟨b, hb2, e.symm⟩) h.1
    · rcases List.mem_cons.mp hb with eb | hb2
      · rw [eb] at e
        exact absurd (List.mem_map.mpr ⟨a, ha2, e⟩) h.1
      · exact nodup_map_inj h.2 ha2 hb2 e
section
variable {P : Program} {w : World} {C : Addr} {H0 H H' : Hp} {x a lo : Addr} {p : Par} {S : TS} {dx tk hm ln rd : Addr} {xs : LX} {c : Nat} {tak : Nat → Option Int}
/-- the line that stands by a key -/
theorem LinesAt.found (h : LinesAt P w H ln xs p c tak) {b : Nat} {u : Bool} {q : Addr × Addr} (hq : atL xs ((b : Int), u) = some q) : H q.2 = some (.lst (nums (lineOf p c tak b u))) := by
  obtain ⟨b', u', e1, _, e3⟩ := h.ents _ (atL_mem hq)
  have e2 : ((b : Int), u) = ((b' : Int), u') := e1
  injection e2 with e4 e5
  have : b = b' := by omega
  subst this e5
  exact e3
theorem lines_found (h : LinesAt P w H ln xs p c tak) (hd : (xs.map (·.2.2)).Nodup) {q : Addr × Addr} (hq : atL xs ((p.src c : Int), p.dir c) = some q) (ht : tak c = none) :
    LinesAt P w (upd H q.2 (.lst (nums (lineOf p c tak (p.src c) (p.dir c)) ++ [.int (c : Int)]))) ln xs p (c + 1) tak := by
  have hl := h.found hq
  have hm := atL_mem hq
  refine ⟨⟨?_, fun e he => ?_⟩, h.keys, fun e he => ?_, fun b u hn => ?_⟩
  · rw [upd_ne (ne_of h.ld.at_ hl (by intro z; cases z))]; exact h.ld.at_
  · rw [upd_ne (ne_of (h.ld.key e he) hl (by intro z; cases z))]; exact h.ld.key e he
  · obtain ⟨b, u, e1, e2, e3⟩ := h.ents e he
    refine ⟨b, u, e1, e2, ?_⟩
    rw [line_succ]
    by_cases z : e.2.2 = q.2
    · have ee : e = ((((p.src c : Nat) : Int), p.dir c), q) := nodup_map_inj hd he hm z
      have e4 : (((p.src c : Nat) : Int), p.dir c) = ((b : Int), u) := by rw [ee] at e1; exact e1
      injection e4 with e4 e5
      have e6 : p.src c = b := by omega
      rw [z, upd_same, if_pos ⟨e6, e5, ht⟩, ← e6, ← e5]
      unfold nums
      rw [List.map_append]
      rfl
    · have : ¬ (p.src c = b ∧ p.dir c = u ∧ tak c = none) := by
        rintro ⟨e6, e5, _⟩
        have hk : e.1 = ((((p.src c : Nat) : Int), p.dir c), q).1 := by rw [e1, ← e6, ← e5]
        have := nodup_map_inj h.keys he hm hk
        exact z (by rw [this])
      rw [upd_ne z, if_neg this, List.append_nil]
      exact e3
  · rw [line_succ, h.mis b u hn, if_neg, List.nil_append]
    rintro ⟨e6, e5, _⟩
    rw [← e6, ← e5, hq] at hn
    cases hn
theorem lines_new (h : LinesAt P w H ln xs p c tak) (hn : atL xs ((p.src c : Int), p.dir c) = none) (ht : tak c = none) (hb : p.src c ≤ p.L) {kp l : Addr} (hk : H kp = some (.tup [.int (p.src c : Int), .bl (p.dir c)])) (hl : H l = some (.lst [])) (hfr : ∀ e ∈ xs, e.2.2 ≠ l) :
    LinesAt P w (upd (upd H ln (LO P w ln (xs ++ [((((p.src c : Nat) : Int), p.dir c), kp, l)]))) l (.lst [.int (c : Int)])) ln (xs ++ [((((p.src c : Nat) : Int), p.dir c), kp, l)]) p (c + 1) tak := by
  have nl : ln ≠ l := ne_of h.ld.at_ hl (by intro z; cases z)
  have keep : ∀ b ys, H b = some (.tup ys) → upd (upd H ln (LO P w ln (xs ++ [((((p.src c : Nat) : Int), p.dir c), kp, l)]))) l (.lst [.int (c : Int)]) b = some (.tup ys) := fun b ys e => by
    rw [upd_ne (ne_of e hl (by intro z; cases z)), upd_ne (ne_of e h.ld.at_ (by intro z; cases z))]; exact e
  refine ⟨⟨?_, fun e he => ?_⟩, ?_, fun e he => ?_, fun b u hno => ?_⟩
  · rw [upd_ne nl, upd_same]
  · rcases List.mem_append.mp he with he | he
    · exact keep _ _ (h.ld.key e he)
    · have : e = ((((p.src c : Nat) : Int), p.dir c), kp, l) := by simpa using he
      subst this
      exact keep _ _ hk
  · rw [List.map_append, List.nodup_append]
    refine ⟨h.keys, by simp, fun k1 h1 k2 h2 e => ?_⟩
    obtain ⟨e1, he1, rfl⟩ := List.mem_map.mp h1
    have : k2 = (((p.src c : Nat) : Int), p.dir c) := by simpa using h2
    exact atL_none hn e1 he1 (e.trans this)
  · rcases List.mem_append.mp he with he | he
    · obtain ⟨b, u, e1, e2, e3⟩ := h.ents e he
      refine ⟨b, u, e1, e2, ?_⟩
      have : ¬ (p.src c = b ∧ p.dir c = u ∧ tak c = none) := by
        rintro ⟨e6, e5, _⟩
        exact atL_none hn e he (by rw [e1, ← e6, ← e5])
      rw [line_succ, if_neg this, List.append_nil, upd_ne (hfr e he), upd_ne (ne_of e3 h.ld.at_ (by intro z; cases z))]
      exact e3
    · have : e = ((((p.src c : Nat) : Int), p.dir c), kp, l) := by simpa using he
      subst this
      refine ⟨p.src c, p.dir c, rfl, hb, ?_⟩
      rw [upd_same, line_succ, h.mis _ _ hn, if_pos ⟨rfl, rfl, ht⟩]
      rfl
  · have hno' : atL xs ((b : Int), u) = none ∧ ¬ (p.src c = b ∧ p.dir c = u) := by
      unfold atL at hno ⊢
      rw [List.find?_append] at hno
      cases e : xs.find? (fun x => decide (x.1 = ((b : Int), u))) with
      | some y => rw [e] at hno; cases hno
      | none =>
        rw [e] at hno
        refine ⟨rfl, ?_⟩
        rintro ⟨e6, e5⟩
        have : decide (((((p.src c : Nat) : Int), p.dir c) : Int × Bool) = ((b : Int), u)) = true := decide_eq_true (by rw [e6, e5])
        simp [this] at hno
        simp [e6, e5] at hno
    rw [line_succ, h.mis b u hno'.1, if_neg, List.nil_append]
    rintro ⟨e6, e5, _⟩
    exact hno'.2 ⟨e6, e5⟩
/-- the lines have turned, then the object's own numbers -/
theorem TourIn.relined {xs' : LX} {c' : Nat} (h : TourIn P w C H0 H x a lo p S dx tk hm ln rd xs) (same3 : Same H0 H') (k2 : H' tk = H tk) (k3 : H' hm = H hm) (k4 : H' rd = H rd) (k1 : H' x = H x) (lin : LinesAt P w H' ln xs' p c' S.tak)
    (e0 : ∀ e ∈ xs', H0 e.2.2 = none) (nd : (tk :: hm :: rd :: xs'.map (·.2.2)).Nodup) (S' : TS) (e1 : S'.tak = S.tak) (e2 : S'.hom = S.hom) (e3 : S'.come = c') (e4 : S'.rid = S.rid) :
    TourIn P w C H0 (upd H' x (.ins C dx (tourK.zip (tv a lo tk hm S'.many S'.come ln S'.queued rd S'.tick S'.bay S'.up)))) x a lo p S' dx tk hm ln rd xs' := by
  have hx : H' x = some (.ins C dx (tourK.zip (tv a lo tk hm S.many S.come ln S.queued rd S.tick S.bay S.up))) := k1.trans h.obj
  have otk : H' tk = some (.lst (opts p.n S.tak)) := k2.trans h.otk
  have ohm : H' hm = some (.lst (opts p.n S.hom)) := k3.trans h.ohm
  have ord : H' rd = some (.lst (nums S.rid)) := k4.trans h.ord
  have n1 : tk ≠ x := ne_of otk hx (by intro q; cases q)
  have n2 : hm ≠ x := ne_of ohm hx (by intro q; cases q)
  have n3 : rd ≠ x := ne_of ord hx (by intro q; cases q)
  have n4 : ln ≠ x := ne_of lin.ld.at_ hx (by intro q; cases q)
  refine ⟨Same.but same3 h.x0, h.x0, h.tk0, h.hm0, h.ln0, e0, upd_same, ?_, ?_, ?_, ?_, nd⟩
  · rw [upd_ne n1, e1]; exact otk
  · rw [upd_ne n2, e2]; exact ohm
  · rw [upd_ne n3, e4]; exact ord
  · rw [e1, e3]
    refine lin.move (fun o q => by rw [upd_ne n4]; exact q) (fun b ys q => ?_) fun e he o q => ?_
    · rw [upd_ne (ne_of q hx (by intro z; cases z))]; exact q
    · obtain ⟨b, u, _, _, e3⟩ := lin.ents e he
      rw [upd_ne (ne_of e3 hx (by intro z; cases z))]; exact q
end
def lieS (S : TS) (c : Nat) : TS := { S with come := c, queued := S.queued + ((c : Int) - S.come) }
def spLie (P : Program) (w : World) (C : Addr) : Sp := fun vs H Q _ => ∃ (H0 : Hp) (x a lo : Addr) (n : Nat) (r : Nat → Addr) (ord : Nat → Ord) (gaps : List Int) (most : Int) (S : TS), vs = [.ref x] ∧ Ctx H0 a lo n r ord gaps most ∧
  TourAt P w C H0 H x a lo (parOf n ord gaps most) S ∧ S.come ≤ n ∧ (∀ i, S.come ≤ i → i < n → S.tak i = none) ∧
  ∀ H' c, S.come ≤ c → c ≤ n → (∀ i, S.come ≤ i → i < c → (ord i).tick ≤ S.tick) → (c < n → S.tick < (ord c).tick) → TourAt P w C H0 H' x a lo (parOf n ord gaps most) (lieS S c) → Q .non H'
section
variable {P : Program} {w : World} {K : PySem.W.Frag} {mg : Str → Option Value} {base : Heap}
theorem refs_at {r : Nat → Addr} {n c : Nat} (h : c < n) : (refs r (List.range n))[c]? = some (.ref (r c)) := by
  unfold refs
  rw [List.getElem?_map, List.getElem?_range h]
  rfl
theorem refs_len (r : Nat → Addr) (l : List Nat) : (refs r l).length = l.length := by unfold refs; rw [List.length_map]
theorem scLie : FnScope ["self", "order"] ["self"] (defScope sLieDown) := ⟨rfl, rfl, rfl, by decide +kernel, rfl, by decide +kernel, by decide +kernel⟩
theorem ok_lie {f C : Addr} {fd : FuncData} (F : Fun K "lie_down" "Tour.lie_down" sLieDown f fd) (T : Txt mg) (TT : TourTxt K C) {f1 fd1} (D1 : Df P w K mg base 1 "is_upward" ["order"] spIsUpward f1 fd1) : FnOk P w K mg base CX0 2 f fd ["self"] (spLie P w C) := by
  refine F.ok scLie (fun vs H Q E h => ?_) (fun cdv A outer s H vs Q E hr h => ?_)
  · obtain ⟨H0, x, a, lo, n, r, ord, gaps, most, S, rfl, _⟩ := h
    rfl
  · obtain ⟨H0, x, a, lo, n, r, ord, gaps, most, S, rfl, hC, hT, hcn, hnt, k⟩ := h
    refine ⟨_, pss_one (ps_while PassesOwn.never (PW.pt (pw_and (pt_cmpR op_lt (pe_fld (pv 0) rfl) (pe_callB call_len_seq (by rfl) T.len PySem.boot_len (pa_cons (pe_fld (pv 0) rfl) pa_nil)) (nomark _))
        (pw_and1 (pt_cmpR op_le (pe_ix ix_tup (pe_ix ix_list (pe_fld (pv 0) rfl) (pe_fld (pv 0) rfl) (fun _ _ => rfl)) pe_int (fun _ _ => rfl)) (pe_fld (pv 0) rfl) (nomark _)))))
      (pss_cons (ps_set (i := 1) scLie.nd rfl (Or.inl rfl) (pe_ix ix_list (pe_fld (pv 0) rfl) (pe_fld (pv 0) rfl) (fun _ _ => rfl)))
      (pss_cons (ps_expr (pe_bm PySem.F.plainAttrs_list PySem.F.slot_list_append PySem.F.type_list_append mt_append
        (pe_lsetd hr (pe_fld (pv 0) rfl) (pe_tup (pa_cons (pe_ix ix_tup (pv 1) pe_int (fun _ _ => rfl)) (pa_cons (pe_call D1.ok hr rfl D1.gl D1.kp D1.bd .nil pass0 (pa_cons (pv 1) pa_nil)) pa_nil))) (pe_lst pa_nil) ⟨rfl, rfl, rfl, rfl⟩)
        (pa_cons (pe_fld (pv 0) rfl) pa_nil)))
      (pss_cons (ps_fldaug (pv 0) pe_int in_add) (pss_one (ps_fldaug (pv 0) pe_int in_add)))))), ?_⟩
    refine ⟨fun m σ H' => ∃ (c : Nat) (v : Option V), m = n - c ∧ σ = [some (.ref x), v] ∧ S.come ≤ c ∧ c ≤ n ∧ (∀ i, S.come ≤ i → i < c → (ord i).tick ≤ S.tick) ∧ TourAt P w C H0 H' x a lo (parOf n ord gaps most) (lieS S c),
      ⟨_, S.come, none, rfl, rfl, Nat.le_refl _, hcn, fun i h1 h2 => by omega, ?_⟩, ?_⟩
    · have : lieS S S.come = S := by
        unfold lieS
        rw [Int.sub_self, Int.add_zero]
      rw [this]
      exact hT
    · rintro m σ H1 ⟨c, v, rfl, rfl, c1, c2, c3, ⟨dx, tk, hm, ln, rd, xs, h⟩⟩
      have hO := hC.O.same h.same
      refine ⟨_, rfl, x, C, dx, _, _, rfl, h.obj, TT.cl, TT.nCome, zip_lookup xCome rfl, _, rfl, x, C, dx, _, _, rfl, h.obj, TT.cl, TT.nOrders, zip_lookup xOrders rfl, lo, _, rfl, .inl (SqL.of hO.lst), _, _, rfl, rfl, _, rfl, ?_⟩
      rw [refs_len, List.length_range]
      by_cases hlt : c < n
      · have e1 : decide (((lieS S c).come : Int) < ((n : Nat) : Int)) = true := decide_eq_true (by show ((c : Nat) : Int) < n; omega)
        rw [e1]
        refine iteT ⟨_, rfl, x, C, dx, _, _, rfl, h.obj, TT.cl, TT.nOrders, zip_lookup xOrders rfl, _, rfl, x, C, dx, _, _, rfl, h.obj, TT.cl, TT.nCome, zip_lookup xCome rfl, lo, _, _, _, rfl, rfl, SqL.of hO.lst, atI_nat (refs_at hlt), r c, _, _, _, rfl, rfl, SqT.of (hO.at_ _ hlt), at_of (j := 1) rfl rfl, _, rfl, x, C, dx, _, _, rfl, h.obj, TT.cl, TT.nTick, zip_lookup xTick rfl, _, _, rfl, rfl, _, rfl, ?_⟩
        by_cases hle : (ord c).tick ≤ S.tick
        · rw [decide_eq_true (show (ord c).tick ≤ (lieS S c).tick from hle)]
          refine iteT ⟨fun σ' H' => ∃ (v : Option V), σ' = [some (.ref x), v] ∧ TourAt P w C H0 H' x a lo (parOf n ord gaps most) (lieS S (c + 1)), ?_, ?_⟩
          · rintro σ' H' ⟨v', rfl, hT'⟩
            refine ⟨n - (c + 1), by omega, c + 1, v', rfl, rfl, by omega, by omega, fun i h1 h2 => ?_, hT'⟩
            by_cases z : i = c
            · rw [z]; exact hle
            · exact c3 i h1 (by omega)
          · refine ⟨_, rfl, x, C, dx, _, _, rfl, h.obj, TT.cl, TT.nOrders, zip_lookup xOrders rfl, _, rfl, x, C, dx, _, _, rfl, h.obj, TT.cl, TT.nCome, zip_lookup xCome rfl, lo, _, _, _, rfl, rfl, SqL.of hO.lst, atI_nat (refs_at hlt), ?_⟩
            refine ⟨_, rfl, x, C, dx, _, _, rfl, h.obj, TT.cl, TT.nLines, zip_lookup xLines rfl, ln, rfl, ⟨xs, h.lin.ld⟩, _, rfl, r c, _, _, _, rfl, rfl, SqT.of (hO.at_ _ hlt), at_of (j := 2) rfl rfl, _, rfl, r c, ord c, rfl, hO.at_ _ hlt, (by show 2 ≤ sizeLine; decide), fun kp hkp => ?_⟩
            refine ⟨Nat.zero_le _, fun l hl => ?_⟩
            have sm : Same H1 (upd (upd H1 kp (.tup [.int ((ord c).src : Int), .bl (decide ((ord c).src < (ord c).dst))])) l (.lst [])) := Same.new (same_new hkp) hl
            have hl1 : H1 l = none := Same.free (same_new (o := .tup [.int ((ord c).src : Int), .bl (decide ((ord c).src < (ord c).dst))]) hkp) hl
            have nkl : kp ≠ l := fun z => by rw [z, upd_same] at hl; cases hl
            have h2 := h.move sm
            have hk2 : (upd (upd H1 kp (.tup [.int ((ord c).src : Int), .bl (decide ((ord c).src < (ord c).dst))])) l (.lst [])) kp = some (.tup [.int ((ord c).src : Int), .bl (decide ((ord c).src < (ord c).dst))]) := by rw [upd_ne nkl, upd_same]
            have hl2 : (upd (upd H1 kp (.tup [.int ((ord c).src : Int), .bl (decide ((ord c).src < (ord c).dst))])) l (.lst [])) l = some (.lst []) := upd_same
            have htc : (lieS S c).tak c = none := hnt c c1 hlt
            have fr : ∀ b, H1 b ≠ none → b ≠ l := fun b hb z => hb (z ▸ hl1)
            generalize hG : upd (upd H1 kp (.tup [.int ((ord c).src : Int), .bl (decide ((ord c).src < (ord c).dst))])) l (.lst []) = H2 at sm h2 hk2 hl2
            have few : xs.length ≤ 1000 := by
              have := h.lin.few
              have h15 := hC.Ao.l2
              have : (parOf n ord gaps most).L = gaps.length := rfl
              omega
            refine ⟨xs, (((ord c).src : Int), decide ((ord c).src < (ord c).dst)), kp, l, h2.lin.ld, rfl, rfl, hk2, few, fun q hq => ?_, fun hno => ?_⟩
            · -- there is a line
              have hlq := h2.lin.found (b := (ord c).src) (u := decide ((ord c).src < (ord c).dst)) hq
              have hlen : (nums (lineOf (parOf n ord gaps most) (lieS S c).come (lieS S c).tak (ord c).src (decide ((ord c).src < (ord c).dst)))).length < sizeLine := by
                rw [nums_len, sizeLine_eq]
                have h1 := (line_nodup (p := parOf n ord gaps most) (c := c) (tak := S.tak) (b := (ord c).src) (u := decide ((ord c).src < (ord c).dst))).length_le_of_subset (l₂ := List.range c) fun i hi => List.mem_range.mpr (mem_line.mp hi).1
                rw [List.length_range] at h1
                have := hC.Oo.few
                show (lineOf (parOf n ord gaps most) c S.tak (ord c).src (decide ((ord c).src < (ord c).dst))).length < 16777216
                omega
              refine ⟨.inl ⟨rfl, _, SqL.of hlq⟩, _, rfl, x, C, dx, _, _, rfl, h2.obj, TT.cl, TT.nCome, zip_lookup xCome rfl, q.2, _, _, rfl, rfl, hlq, hlen, ?_⟩
              have hmem := atL_mem hq
              have ndl : (xs.map (·.2.2)).Nodup := (List.nodup_cons.mp (List.nodup_cons.mp (List.nodup_cons.mp h.nd).2).2).2
              have lin3 := lines_found h2.lin ndl hq htc
              have hin : q.2 ∈ xs.map (·.2.2) := List.mem_map.mpr ⟨_, hmem, rfl⟩
              have nd := h.nd
              simp only [List.nodup_cons, List.mem_cons, not_or] at nd
              have ntk : tk ≠ q.2 := fun z => nd.1.2.2 (z ▸ hin)
              have nhm : hm ≠ q.2 := fun z => nd.2.1.2 (z ▸ hin)
              have nrd : rd ≠ q.2 := fun z => nd.2.2.1 (z ▸ hin)
              have nx : x ≠ q.2 := ne_of h2.obj hlq (by intro z; cases z)
              have sm3 : Same H0 (upd H2 q.2 (.lst (nums (lineOf (parOf n ord gaps most) c S.tak (ord c).src (decide ((ord c).src < (ord c).dst))) ++ [.int (c : Int)]))) := Same.but h2.same (h.e0 _ hmem)
              have fin := h2.relined sm3 (upd_ne ntk) (upd_ne nhm) (upd_ne nrd) (upd_ne nx) lin3 h.e0 h.nd (lieS S (c + 1)) rfl rfl rfl rfl
              have ox : (upd H2 q.2 (.lst (nums (lineOf (parOf n ord gaps most) c S.tak (ord c).src (decide ((ord c).src < (ord c).dst))) ++ [.int (c : Int)]))) x = some (.ins C dx (tourK.zip (tv a lo tk hm (lieS S c).many (lieS S c).come ln (lieS S c).queued rd (lieS S c).tick (lieS S c).bay (lieS S c).up))) := by rw [upd_ne nx]; exact h2.obj
              refine ⟨_, rfl, x, C, dx, _, _, rfl, ox, TT.cl, TT.nQueued, zip_lookup xQueued rfl, _, _, rfl, rfl, dx, _, ox, zip_few few12, ?_⟩
              rw [zip_put xQueued (by show 7 < 12; omega)]
              refine ⟨_, rfl, x, C, dx, _, _, rfl, upd_same, TT.cl, TT.nCome, zip_lookup xCome rfl, _, _, rfl, rfl, dx, _, upd_same, zip_few few12, ?_⟩
              rw [zip_put xCome (by show 5 < 12; omega)]
              rw [upd_upd]
              refine ⟨_, rfl, dx, tk, hm, ln, rd, xs, ?_⟩
              have eq1 : (lieS S c).queued + 1 = (lieS S (c + 1)).queued := by
                show S.queued + ((c : Int) - S.come) + 1 = S.queued + (((c + 1 : Nat) : Int) - S.come)
                omega
              rw [eq1]
              exact fin
            · -- a new line
              have hlq : (upd H2 ln (LO P w ln (xs ++ [((((ord c).src : Int), decide ((ord c).src < (ord c).dst)), kp, l)]))) l = some (.lst []) := by
                rw [upd_ne (ne_of hl2 h2.lin.ld.at_ (by intro z; cases z))]
                exact hl2
              have nlx : x ≠ ln := ne_of h2.obj h2.lin.ld.at_ (by intro z; cases z)
              have ox2 : (upd H2 ln (LO P w ln (xs ++ [((((ord c).src : Int), decide ((ord c).src < (ord c).dst)), kp, l)]))) x = some (.ins C dx (tourK.zip (tv a lo tk hm (lieS S c).many (lieS S c).come ln (lieS S c).queued rd (lieS S c).tick (lieS S c).bay (lieS S c).up))) := by rw [upd_ne nlx]; exact h2.obj
              refine ⟨.inl ⟨rfl, _, SqL.of hlq⟩, _, rfl, x, C, dx, _, _, rfl, ox2, TT.cl, TT.nCome, zip_lookup xCome rfl, l, _, _, rfl, rfl, hlq, (by show 0 < sizeLine; decide), ?_⟩
              have hfr : ∀ e ∈ xs, e.2.2 ≠ l := fun e he => fr _ (by obtain ⟨b, u, _, _, e3⟩ := h.lin.ents e he; rw [e3]; simp)
              have lin3 := lines_new h2.lin hno htc ((par_ok hC.Ao hC.Oo (L := 0)).sb c hlt) hk2 hl2 hfr
              have ntk : tk ≠ l := fr _ (by rw [h.otk]; simp)
              have nhm : hm ≠ l := fr _ (by rw [h.ohm]; simp)
              have nrd : rd ≠ l := fr _ (by rw [h.ord]; simp)
              have nx : x ≠ l := fr _ (by rw [h.obj]; simp)
              have ntk2 : tk ≠ ln := ne_of h2.otk h2.lin.ld.at_ (by intro z; cases z)
              have nhm2 : hm ≠ ln := ne_of h2.ohm h2.lin.ld.at_ (by intro z; cases z)
              have nrd2 : rd ≠ ln := ne_of h2.ord h2.lin.ld.at_ (by intro z; cases z)
              have l0 : H0 l = none := Same.free h.same hl1
              have sm3 : Same H0 (upd (upd H2 ln (LO P w ln (xs ++ [((((ord c).src : Int), decide ((ord c).src < (ord c).dst)), kp, l)]))) l (.lst ([] ++ [.int (c : Int)]))) := Same.but (Same.but h2.same h.ln0) l0
              have nd' : (tk :: hm :: rd :: (xs ++ [((((ord c).src : Int), decide ((ord c).src < (ord c).dst)), kp, l)]).map (·.2.2)).Nodup := by
                rw [List.map_append]
                show ((tk :: hm :: rd :: xs.map (·.2.2)) ++ [l]).Nodup
                rw [List.nodup_append]
                refine ⟨h.nd, by simp, fun b hb b' hb' z => ?_⟩
                have : b' = l := by simpa using hb'
                rw [this] at z
                subst z
                rcases List.mem_cons.mp hb with z | hb
                · exact ntk z.symm
                rcases List.mem_cons.mp hb with z | hb
                · exact nhm z.symm
                rcases List.mem_cons.mp hb with z | hb
                · exact nrd z.symm
                · obtain ⟨e, he, z⟩ := List.mem_map.mp hb
                  exact hfr e he z
              have e0' : ∀ e ∈ xs ++ [((((ord c).src : Int), decide ((ord c).src < (ord c).dst)), kp, l)], H0 e.2.2 = none := fun e he => by
                rcases List.mem_append.mp he with he | he
                · exact h.e0 e he
                · have : e = ((((ord c).src : Int), decide ((ord c).src < (ord c).dst)), kp, l) := by simpa using he
                  subst this
                  exact l0
              have fin := h2.relined sm3 ((upd_ne ntk).trans (upd_ne ntk2)) ((upd_ne nhm).trans (upd_ne nhm2)) ((upd_ne nrd).trans (upd_ne nrd2)) ((upd_ne nx).trans (upd_ne nlx)) lin3 e0' nd' (lieS S (c + 1)) rfl rfl rfl rfl
              have ox : (upd (upd H2 ln (LO P w ln (xs ++ [((((ord c).src : Int), decide ((ord c).src < (ord c).dst)), kp, l)]))) l (.lst ([] ++ [.int (c : Int)]))) x = some (.ins C dx (tourK.zip (tv a lo tk hm (lieS S c).many (lieS S c).come ln (lieS S c).queued rd (lieS S c).tick (lieS S c).bay (lieS S c).up))) := by rw [upd_ne nx]; exact ox2
              refine ⟨_, rfl, x, C, dx, _, _, rfl, ox, TT.cl, TT.nQueued, zip_lookup xQueued rfl, _, _, rfl, rfl, dx, _, ox, zip_few few12, ?_⟩
              rw [zip_put xQueued (by show 7 < 12; omega)]
              refine ⟨_, rfl, x, C, dx, _, _, rfl, upd_same, TT.cl, TT.nCome, zip_lookup xCome rfl, _, _, rfl, rfl, dx, _, upd_same, zip_few few12, ?_⟩
              rw [zip_put xCome (by show 5 < 12; omega)]
              rw [upd_upd]
              refine ⟨_, rfl, dx, tk, hm, ln, rd, xs ++ [((((ord c).src : Int), decide ((ord c).src < (ord c).dst)), kp, l)], ?_⟩
              have eq1 : (lieS S c).queued + 1 = (lieS S (c + 1)).queued := by
                show S.queued + ((c : Int) - S.come) + 1 = S.queued + (((c + 1 : Nat) : Int) - S.come)
                omega
              rw [eq1]
              exact fin
        · rw [decide_eq_false (show ¬ (ord c).tick ≤ (lieS S c).tick from hle)]
          refine iteF ?_
          exact k _ c c1 c2 c3 (fun _ => by omega) ⟨dx, tk, hm, ln, rd, xs, h⟩
      · have e1 : decide (((lieS S c).come : Int) < ((n : Nat) : Int)) = false := decide_eq_false (by show ¬ ((c : Nat) : Int) < n; omega)
        rw [e1]
        refine iteF (iteF ?_)
        exact k _ c c1 c2 c3 (fun z => absurd z hlt) ⟨dx, tk, hm, ln, rd, xs, h⟩
end
end Bay

/-! stop of the tour. -/
namespace Bay
open PySem L2 PyProof.Rows
theorem mem_putL {xs : LX} {k : Int × Bool} {a l : Addr} {e : (Int × Bool) × Addr × Addr} (h : e ∈ putL xs k a l) : (e ∈ xs ∧ e.1 ≠ k) ∨ (e.1 = k ∧ e.2.2 = l ∧ (e.2.1 = a ∨ ∃ e' ∈ xs, e'.1 = k ∧ e.2.1 = e'.2.1)) := by
  unfold putL at h
  split at h
  · obtain ⟨x, hx, rfl⟩ := List.mem_map.mp h
    by_cases c : x.1 = k
    · rw [if_pos c]
      exact .inr ⟨c, rfl, .inr ⟨x, hx, c, rfl⟩⟩
    · rw [if_neg c]
      exact .inl ⟨hx, c⟩
  · rename_i hn
    have hn' : atL xs k = none := by
      cases e : atL xs k with
      | none => rfl
      | some q => rw [e] at hn; exact absurd rfl hn
    rcases List.mem_append.mp h with h | h
    · exact .inl ⟨h, atL_none hn' e h⟩
    · have : e = (k, a, l) := by simpa using h
      subst this
      exact .inr ⟨rfl, rfl, .inl rfl⟩
theorem putL_keys {xs : LX} {k : Int × Bool} {a l : Addr} (h : (xs.map (·.1)).Nodup) : ((putL xs k a l).map (·.1)).Nodup := by
  unfold putL
  split
  · rw [List.map_map]
    have : ((fun x : (Int × Bool) × Addr × Addr => x.1) ∘ fun x => if x.1 = k then (x.1, x.2.1, l) else x) = fun x => x.1 := by
      funext x
      show (if x.1 = k then (x.1, x.2.1, l) else x).1 = x.1
      split <;> rfl
    rw [this]
    exact h
  · rename_i hn
    have hn' : atL xs k = none := by
      cases e : atL xs k with
      | none => rfl
      | some q => rw [e] at hn; exact absurd rfl hn
    rw [List.map_append, List.nodup_append]
    refine ⟨h, by simp, fun k1 h1 k2 h2 e => ?_⟩
    obtain ⟨e1, he1, rfl⟩ := List.mem_map.mp h1
    have : k2 = k := by simpa using h2
    exact atL_none hn' e1 he1 (e.trans this)
theorem putL_map_nodup {k : Int × Bool} {l : Addr} : ∀ {xs : LX}, (xs.map (·.1)).Nodup → (xs.map (·.2.2)).Nodup → l ∉ xs.map (·.2.2) → ((xs.map fun x => if x.1 = k then (x.1, x.2.1, l) else x).map (·.2.2)).Nodup
  | [], _, _, _ => List.nodup_nil
  | x :: xs, h1, h2, h3 => by
    rw [List.map_cons, List.nodup_cons] at h1 h2
    rw [List.map_cons, List.mem_cons, not_or] at h3
    have ih := putL_map_nodup (k := k) (l := l) h1.2 h2.2 h3.2
    rw [List.map_cons, List.map_cons, List.nodup_cons]
    refine ⟨fun z => ?_, ih⟩
    obtain ⟨y, hy, e⟩ := List.mem_map.mp z
    obtain ⟨y', hy', rfl⟩ := List.mem_map.mp hy
    by_cases c : x.1 = k
    · rw [if_pos c] at e
      by_cases c' : y'.1 = k
      · exact h1.1 (List.mem_map.mpr ⟨y', hy', c'.trans c.symm⟩)
      · rw [if_neg c'] at e
        exact h3.2 (List.mem_map.mpr ⟨y', hy', e⟩)
    · rw [if_neg c] at e
      by_cases c' : y'.1 = k
      · rw [if_pos c'] at e
        exact h3.1 e
      · rw [if_neg c'] at e
        exact h2.1 (List.mem_map.mpr ⟨y', hy', e⟩)
theorem putL_lists {xs : LX} {k : Int × Bool} {a l : Addr} (h1 : (xs.map (·.1)).Nodup) (h2 : (xs.map (·.2.2)).Nodup) (h3 : l ∉ xs.map (·.2.2)) : ((putL xs k a l).map (·.2.2)).Nodup := by
  unfold putL
  split
  · exact putL_map_nodup h1 h2 h3
  · rw [List.map_append, List.nodup_append]
    refine ⟨h2, by simp, fun b hb b' hb' e => ?_⟩
    have : b' = l := by simpa using hb'
    rw [this] at e
    subst e
    exact h3 hb
theorem atL_putL {xs : LX} {k k' : Int × Bool} {a l : Addr} (h : atL (putL xs k a l) k' = none) : k' ≠ k ∧ atL xs k' = none := by
  have all := atL_none h
  have hk : k' ≠ k := by
    intro z
    subst z
    cases e : atL xs k' with
    | none =>
      have : putL xs k' a l = xs ++ [(k', a, l)] := by unfold putL; rw [e]; rfl
      exact all (k', a, l) (by rw [this]; simp) rfl
    | some q =>
      have hm := atL_mem e
      have : putL xs k' a l = xs.map (fun x => if x.1 = k' then (x.1, x.2.1, l) else x) := by unfold putL; rw [e]; rfl
      refine all (k', q.1, l) ?_ rfl
      rw [this]
      exact List.mem_map.mpr ⟨_, hm, by rw [if_pos rfl]⟩
  refine ⟨hk, ?_⟩
  unfold atL
  rw [Option.map_eq_none_iff, List.find?_eq_none]
  intro e he z
  have z' := of_decide_eq_true z
  have hne : e.1 ≠ k := by rw [z']; exact hk
  refine all e ?_ z'
  unfold putL
  split
  · exact List.mem_map.mpr ⟨e, he, by rw [if_neg hne]⟩
  · exact List.mem_append_left _ he
section
variable {P : Program} {w : World} {C : Addr} {H0 H H' : Hp} {x a lo : Addr} {p : Par} {S : TS} {dx tk hm ln rd : Addr} {xs : LX} {c : Nat} {tak : Nat → Option Int}
/-- the line of a bay loses its head -/
theorem lines_stop (h : LinesAt P w H ln xs p c tak) {b : Nat} {u : Bool} {m : Nat} {t : Int} (hb : b ≤ p.L) {kq l : Addr} (hk : H kq = some (.tup [.int (b : Int), .bl u])) (hl : H l = some (.lst (nums ((lineOf p c tak b u).drop m)))) :
    LinesAt P w (upd H ln (LO P w ln (putL xs ((b : Int), u) kq l))) ln (putL xs ((b : Int), u) kq l) p c (fun i => if i ∈ (lineOf p c tak b u).take m then some t else tak i) := by
  have keep : ∀ b o, (∀ z, o ≠ HO.ext z) → H b = some o → upd H ln (LO P w ln (putL xs ((b : Int), u) kq l)) b = some o := fun b o no e => by
    rw [upd_ne fun z => ?_]
    · exact e
    · rw [z, h.ld.at_] at e
      cases e
      exact no _ rfl
  have keep' : ∀ c o, (∀ z, o ≠ HO.ext z) → H c = some o → upd H ln (LO P w ln (putL xs ((b : Int), u) kq l)) c = some o := fun c o no e => by
    rw [upd_ne fun z => ?_]
    · exact e
    · rw [z, h.ld.at_] at e
      cases e
      exact no _ rfl
  refine ⟨⟨upd_same, fun e he => ?_⟩, putL_keys h.keys, fun e he => ?_, fun b' u' hn => ?_⟩
  · refine keep' _ _ (fun z => by intro q; cases q) ?_
    rcases mem_putL he with ⟨h1, _⟩ | ⟨h1, h2, h3⟩
    · exact h.ld.key e h1
    · rw [h1]
      rcases h3 with h3 | ⟨e', he', h4, h5⟩
      · rw [h3]; exact hk
      · rw [h5]
        have := h.ld.key e' he'
        rw [h4] at this
        exact this
  · rcases mem_putL he with ⟨h1, h2⟩ | ⟨h1, h2, _⟩
    · obtain ⟨b', u', e1, e2, e3⟩ := h.ents e h1
      refine ⟨b', u', e1, e2, keep' _ _ (fun z => by intro q; cases q) ?_⟩
      rw [line_other _ _ _ _ _ _ _ _ _ (fun z => h2 (by rw [e1, z.1, z.2]))]
      exact e3
    · refine ⟨b, u, h1, hb, keep' _ _ (fun z => by intro q; cases q) ?_⟩
      rw [line_taken, h2]
      exact hl
  · obtain ⟨h1, h2⟩ := atL_putL hn
    rw [line_other _ _ _ _ _ _ _ _ _ (fun z => h1 (by rw [z.1, z.2]))]
    exact h.mis b' u' h2
end
/-- what stands while the stop is under way -/
structure Mid (P : Program) (w : World) (C : Addr) (H0 H : Hp) (x dx : Addr) (vs : List V) (tk hm kp la ln : Addr) (xs : LX) (p : Par) (c : Nat) (tak : Nat → Option Int) (tkL hmL kpL laL : List V) : Prop where
  sm : Same H0 H
  ox : H x = some (.ins C dx (tourK.zip vs))
  otk : H tk = some (.lst tkL)
  ohm : H hm = some (.lst hmL)
  okp : H kp = some (.lst kpL)
  ola : H la = some (.lst laL)
  lin : LinesAt P w H ln xs p c tak
theorem Mid.same {P w C H0 H H' x dx vs tk hm kp la ln xs p c tak tkL hmL kpL laL} (h : Mid P w C H0 H x dx vs tk hm kp la ln xs p c tak tkL hmL kpL laL) (s : Same H H') : Mid P w C H0 H' x dx vs tk hm kp la ln xs p c tak tkL hmL kpL laL :=
  ⟨h.sm.trans s, s _ _ h.ox, s _ _ h.otk, s _ _ h.ohm, s _ _ h.okp, s _ _ h.ola, h.lin.same s⟩
theorem Mid.setx {P w C H0 H x dx vs tk hm kp la ln xs p c tak tkL hmL kpL laL} (h : Mid P w C H0 H x dx vs tk hm kp la ln xs p c tak tkL hmL kpL laL) (x0 : H0 x = none) (vs' : List V) :
    Mid P w C H0 (upd H x (.ins C dx (tourK.zip vs'))) x dx vs' tk hm kp la ln xs p c tak tkL hmL kpL laL := by
  refine ⟨Same.but h.sm x0, upd_same, ?_, ?_, ?_, ?_, ?_⟩
  · rw [upd_ne (ne_of h.otk h.ox (by intro z; cases z))]; exact h.otk
  · rw [upd_ne (ne_of h.ohm h.ox (by intro z; cases z))]; exact h.ohm
  · rw [upd_ne (ne_of h.okp h.ox (by intro z; cases z))]; exact h.okp
  · rw [upd_ne (ne_of h.ola h.ox (by intro z; cases z))]; exact h.ola
  · refine h.lin.move (fun o q => by rw [upd_ne (ne_of h.lin.ld.at_ h.ox (by intro z; cases z))]; exact q) (fun b ys q => ?_) fun e he o q => ?_
    · rw [upd_ne (ne_of q h.ox (by intro z; cases z))]; exact q
    · obtain ⟨b, u, _, _, e3⟩ := h.lin.ents e he
      rw [upd_ne (ne_of e3 h.ox (by intro z; cases z))]; exact q
def outL (p : Par) (S : TS) (l : List Nat) : List Nat := l.filter fun i => decide (p.dst i = S.bay)
def keptL (p : Par) (S : TS) (l : List Nat) : List Nat := l.filter fun i => !decide (p.dst i = S.bay)
def nwL (p : Par) (S : TS) : List Nat := (lineOf p S.come S.tak S.bay S.up).take (p.most - (keptL p S S.rid).length)
def stopS (p : Par) (S : TS) : TS where
  tak := fun i => if i ∈ nwL p S then some S.tick else S.tak i
  hom := fun i => if i ∈ outL p S S.rid then some S.tick else S.hom i
  many := S.many - (outL p S S.rid).length
  come := S.come
  queued := S.queued - (nwL p S).length
  rid := keptL p S S.rid ++ nwL p S
  tick := S.tick
  bay := S.bay
  up := S.up
def spStop (P : Program) (w : World) (C : Addr) : Sp := fun vs H Q _ => ∃ (H0 : Hp) (x a lo : Addr) (n : Nat) (r : Nat → Addr) (ord : Nat → Ord) (gaps : List Int) (most : Int) (S : TS), vs = [.ref x] ∧ Ctx H0 a lo n r ord gaps most ∧
  TourAt P w C H0 H x a lo (parOf n ord gaps most) S ∧ S.come ≤ n ∧ S.bay ≤ gaps.length ∧ (∀ i ∈ S.rid, i < n) ∧ S.rid.length ≤ (parOf n ord gaps most).most ∧
  ∀ H', TourAt P w C H0 H' x a lo (parOf n ord gaps most) (stopS (parOf n ord gaps most) S) → Q .non H'
theorem take_succ_of {α : Type} {l : List α} {i : Nat} {y : α} (h : l[i]? = some y) : l.take (i + 1) = l.take i ++ [y] := by rw [List.take_add_one, h]; rfl
section
variable {P : Program} {w : World} {K : PySem.W.Frag} {mg : Str → Option Value} {base : Heap}
theorem scStop : FnScope ["self", "kept", "number", "line", "room"] ["self"] (defScope sStop) := ⟨rfl, rfl, rfl, by decide +kernel, rfl, by decide +kernel, by decide +kernel⟩
theorem ok_stop {f C : Addr} {fd : FuncData} (F : Fun K "stop" "Tour.stop" sStop f fd) (T : Txt mg) (TT : TourTxt K C) : FnOk P w K mg base CX0 2 f fd ["self"] (spStop P w C) := by
  refine F.ok scStop (fun vs H Q E h => ?_) (fun cdv A outer s H vs Q E hr h => ?_)
  · obtain ⟨H0, x, a, lo, n, r, ord, gaps, most, S, rfl, _⟩ := h
    rfl
  · obtain ⟨H0, x, a, lo, n, r, ord, gaps, most, S, rfl, hC, ⟨dx, tk, hm, ln, rd, xs, h⟩, hcn, hbL, hrn, hrm, k⟩ := h
    refine ⟨_, pss_cons (ps_set (i := 1) scStop.nd rfl (Or.inl rfl) (pe_lst pa_nil))
      (pss_cons (ps_for PassesOwn.never rfl (pi_list (pe_fld (pv 0) rfl)) (pg_name (i := 2) scStop.nd rfl (Or.inl rfl))
        (pss_one (ps_if (pt_cmpR op_eq (pe_ix ix_tup (pe_ix ix_list (pe_fld (pv 0) rfl) (pv 2) (fun _ _ => rfl)) pe_int (fun _ _ => rfl)) (pe_fld (pv 0) rfl) (nomark _))
          (pss_cons (ps_asg (pe_fld (pv 0) rfl) (pg_sub (pe_fld (pv 0) rfl) (pv 2) set_list)) (pss_one (ps_fldaug (pv 0) pe_int in_sub)))
          (pss_one (ps_expr (pe_bm PySem.F.plainAttrs_list PySem.F.slot_list_append PySem.F.type_list_append mt_append (pv 1) (pa_cons (pv 2) pa_nil)))))))
      (pss_cons (ps_set (i := 3) scStop.nd rfl (Or.inl rfl) (pe_lget hr (pe_fld (pv 0) rfl) (pe_tup (pa_cons (pe_fld (pv 0) rfl) (pa_cons (pe_fld (pv 0) rfl) pa_nil))) (pe_lst pa_nil) ⟨rfl, rfl, rfl, rfl⟩))
      (pss_cons (ps_set (i := 4) scStop.nd rfl (Or.inl rfl) (pe_op op_sub (pe_ix ix_tup (pe_fld (pv 0) rfl) pe_int (fun _ _ => rfl)) (pe_callB call_len_seq (by rfl) T.len PySem.boot_len (pa_cons (pv 1) pa_nil))))
      (pss_cons (ps_for PassesOwn.never rfl (pi_list (pe_slice sl_list (pv 3) po_none (po_some (pv 4)))) (pg_name (i := 2) scStop.nd rfl (Or.inl rfl))
        (pss_one (ps_asg (pe_fld (pv 0) rfl) (pg_sub (pe_fld (pv 0) rfl) (pv 2) set_list))))
      (pss_cons (ps_fld (pv 0) (pe_op op_cat (pv 1) (pe_slice sl_list (pv 3) po_none (po_some (pv 4)))) rfl)
      (pss_cons (ps_fldaug (pv 0) (pe_callB call_len_seq (by rfl) T.len PySem.boot_len (pa_cons (pe_slice sl_list (pv 3) po_none (po_some (pv 4))) pa_nil)) in_sub)
      (pss_one (ps_asg (pe_slice sl_list (pv 3) (po_some (pv 4)) po_none) (pg_sub (pe_fld (pv 0) rfl) (pe_tup (pa_cons (pe_fld (pv 0) rfl) (pa_cons (pe_fld (pv 0) rfl) pa_nil))) (set_lines hr)))))))))), ?_⟩
    refine ⟨Nat.zero_le _, fun kp hkp => ?_⟩
    have h1 := h.move (same_new (o := .lst []) hkp)
    have fr : ∀ b, H b ≠ none → b ≠ kp := fun b hb z => hb (z ▸ hkp)
    have nxk : x ≠ kp := fr _ (by rw [h.obj]; simp)
    have ntk : tk ≠ kp := fr _ (by rw [h.otk]; simp)
    have nhk : hm ≠ kp := fr _ (by rw [h.ohm]; simp)
    have nrk : rd ≠ kp := fr _ (by rw [h.ord]; simp)
    have nlk : ln ≠ kp := fr _ (by rw [h.lin.ld.at_]; simp)
    have kp0 : H0 kp = none := Same.free h.same hkp
    have kpv : (upd H kp (.lst [])) kp = some (.lst []) := upd_same
    generalize hG1 : upd H kp (.lst []) = H1 at h1 kpv
    have nd := h.nd
    simp only [List.nodup_cons, List.mem_cons, not_or] at nd
    have nth : tk ≠ hm := nd.1.1
    have nrh : rd ≠ hm := fun z => nd.2.1.1 z.symm
    have nxh : x ≠ hm := ne_of h.obj h.ohm (by intro z; cases z)
    have nxt : x ≠ tk := ne_of h.obj h.otk (by intro z; cases z)
    have nrx : rd ≠ x := ne_of h.ord h.obj (by intro z; cases z)
    have nlx : ln ≠ x := ne_of h.lin.ld.at_ h.obj (by intro z; cases z)
    have nlh : ln ≠ hm := ne_of h.lin.ld.at_ h.ohm (by intro z; cases z)
    have nlt : ln ≠ tk := ne_of h.lin.ld.at_ h.otk (by intro z; cases z)
    refine ⟨_, rfl, x, C, dx, _, _, rfl, h1.obj, TT.cl, TT.nRiding, zip_lookup xRiding rfl, rd, rfl, ⟨_, SqL.of h1.ord⟩, for_list (K := K) (a := rd) (xs := nums S.rid) (fun i σ H' => ∃ v, σ = [some (.ref x), some (.ref kp), v, none, none] ∧
        (∀ b o, b ≠ x → b ≠ hm → b ≠ kp → H1 b = some o → H' b = some o) ∧
        H' x = some (.ins C dx (tourK.zip (tv a lo tk hm (S.many - ((outL (parOf n ord gaps most) S (S.rid.take i)).length : Int)) S.come ln S.queued rd S.tick S.bay S.up))) ∧
        H' hm = some (.lst (opts n fun j => if j ∈ outL (parOf n ord gaps most) S (S.rid.take i) then some S.tick else S.hom j)) ∧
        H' kp = some (.lst (nums (keptL (parOf n ord gaps most) S (S.rid.take i))))) ⟨none, rfl, fun b o _ _ _ e => e, ?_, ?_, ?_⟩ ?_ ?_ ?_⟩
    · rw [h1.obj]
      have : (S.many - ((outL (parOf n ord gaps most) S (S.rid.take 0)).length : Int)) = S.many := by
        rw [List.take_zero]
        show S.many - ((0 : Nat) : Int) = S.many
        omega
      rw [this]
    · rw [h1.ohm]
      have : (fun j => if j ∈ outL (parOf n ord gaps most) S (S.rid.take 0) then some S.tick else S.hom j) = S.hom := by
        funext j
        rw [List.take_zero, if_neg (by simp [outL])]
      rw [this]
      rfl
    · exact kpv
    · rintro i σ H' _ ⟨v, rfl, hf, _⟩
      exact SqL.of (hf _ _ nrx nrh nrk h1.ord)
    · rintro i y σ H2 hy ⟨v, rfl, hf, hx2, hh2, hk2⟩
      obtain ⟨j, hj, rfl⟩ := nums_get hy
      have hjn : j < n := hrn j (List.mem_of_getElem? hj)
      have sm2 : Same H0 H2 := fun b o e => hf b o (fun z => by rw [z, h.x0] at e; cases e) (fun z => by rw [z, h.hm0] at e; cases e) (fun z => by rw [z, kp0] at e; cases e) (h1.same b o e)
      have hO := hC.O.same sm2
      have et := take_succ_of hj
      refine ⟨_, rfl, x, C, dx, _, _, rfl, hx2, TT.cl, TT.nOrders, zip_lookup xOrders rfl, _, rfl, lo, _, _, _, rfl, rfl, SqL.of hO.lst, atI_nat (refs_at hjn), r j, _, _, _, rfl, rfl, SqT.of (hO.at_ _ hjn), at_of (j := 3) rfl rfl, _, rfl, x, C, dx, _, _, rfl, hx2, TT.cl, TT.nBay, zip_lookup xBay rfl, rfl, _, rfl, ?_⟩
      by_cases hd : (ord j).dst = S.bay
      · rw [decide_eq_true (show V.int ((ord j).dst : Int) = V.int (S.bay : Int) by rw [hd])]
        have eo : outL (parOf n ord gaps most) S (S.rid.take (i + 1)) = outL (parOf n ord gaps most) S (S.rid.take i) ++ [j] := by
          unfold outL
          rw [et, List.filter_append]
          congr 1
          have : decide ((parOf n ord gaps most).dst j = S.bay) = true := decide_eq_true hd
          simp [this]
        have ek : keptL (parOf n ord gaps most) S (S.rid.take (i + 1)) = keptL (parOf n ord gaps most) S (S.rid.take i) := by
          unfold keptL
          rw [et, List.filter_append]
          have : decide ((parOf n ord gaps most).dst j = S.bay) = true := decide_eq_true hd
          simp [this]
        refine iteT ⟨_, rfl, x, C, dx, _, _, rfl, hx2, TT.cl, TT.nTick, zip_lookup xTick rfl, _, rfl, x, C, dx, _, _, rfl, hx2, TT.cl, TT.nHomes, zip_lookup xHomes rfl, _, rfl, hm, _, _, j, rfl, rfl, hh2, by rw [opts_len]; exact ixN_nat hjn, ?_⟩
        rw [opts_set hjn]
        have hx3 : (upd H2 hm (.lst (opts n fun i_1 => if i_1 = j then some S.tick else if i_1 ∈ outL (parOf n ord gaps most) S (S.rid.take i) then some S.tick else S.hom i_1))) x = some (.ins C dx (tourK.zip (tv a lo tk hm (S.many - ((outL (parOf n ord gaps most) S (S.rid.take i)).length : Int)) S.come ln S.queued rd S.tick S.bay S.up))) := by rw [upd_ne nxh]; exact hx2
        refine ⟨_, rfl, x, C, dx, _, _, rfl, hx3, TT.cl, TT.nMany, zip_lookup xMany rfl, _, _, rfl, rfl, dx, _, hx3, zip_few few12, ?_⟩
        rw [zip_put xMany (by show 4 < 12; omega)]
        refine ⟨_, rfl, fun b o b1 b2 b3 e => ?_, ?_, ?_, ?_⟩
        · rw [upd_ne b1, upd_ne b2]
          exact hf b o b1 b2 b3 e
        · rw [upd_same, eo]
          have : S.many - ((outL (parOf n ord gaps most) S (S.rid.take i) ++ [j]).length : Int) = S.many - ((outL (parOf n ord gaps most) S (S.rid.take i)).length : Int) - 1 := by
            rw [List.length_append, List.length_singleton]
            omega
          rw [this]
          rfl
        · rw [upd_ne nxh.symm, upd_same, eo]
          have : (fun j_1 => if j_1 ∈ outL (parOf n ord gaps most) S (S.rid.take i) ++ [j] then some S.tick else S.hom j_1) = (fun i_1 => if i_1 = j then some S.tick else if i_1 ∈ outL (parOf n ord gaps most) S (S.rid.take i) then some S.tick else S.hom i_1) := by
            funext q
            by_cases c1 : q = j
            · simp [c1]
            · simp [c1]
          rw [this]
        · rw [upd_ne nxk.symm, upd_ne nhk.symm, ek]
          exact hk2
      · rw [decide_eq_false (show ¬ V.int ((ord j).dst : Int) = V.int (S.bay : Int) from fun z => hd (by injection z with z; omega))]
        have eo : outL (parOf n ord gaps most) S (S.rid.take (i + 1)) = outL (parOf n ord gaps most) S (S.rid.take i) := by
          unfold outL
          rw [et, List.filter_append]
          have : decide ((parOf n ord gaps most).dst j = S.bay) = false := decide_eq_false hd
          simp [this]
        have ek : keptL (parOf n ord gaps most) S (S.rid.take (i + 1)) = keptL (parOf n ord gaps most) S (S.rid.take i) ++ [j] := by
          unfold keptL
          rw [et, List.filter_append]
          congr 1
          have : decide ((parOf n ord gaps most).dst j = S.bay) = false := decide_eq_false hd
          simp [this]
        have klen : (nums (keptL (parOf n ord gaps most) S (S.rid.take i))).length < sizeLine := by
          rw [nums_len, sizeLine_eq]
          have g1 := List.length_filter_le (fun i => !decide ((parOf n ord gaps most).dst i = S.bay)) (S.rid.take i)
          have g2 : (S.rid.take i).length ≤ S.rid.length := by rw [List.length_take]; exact Nat.min_le_right _ _
          have g3 : (parOf n ord gaps most).most ≤ 20 := by have := hC.Ao.m2; show most.toNat ≤ 20; omega
          show (keptL (parOf n ord gaps most) S (S.rid.take i)).length < 16777216
          unfold keptL
          omega
        refine iteF ⟨_, rfl, .inl ⟨rfl, _, SqL.of hk2⟩, _, rfl, kp, _, _, rfl, rfl, hk2, klen, ?_⟩
        refine ⟨_, rfl, fun b o b1 b2 b3 e => ?_, ?_, ?_, ?_⟩
        · rw [upd_ne b3]
          exact hf b o b1 b2 b3 e
        · rw [upd_ne nxk, eo]; exact hx2
        · rw [upd_ne nhk, eo]; exact hh2
        · rw [upd_same, ek]
          unfold nums
          rw [List.map_append]
          rfl
    · rintro σ Ha ⟨v, rfl, fA, oA, hA, kA⟩
      rw [nums_len, List.take_length] at oA hA kA
      have sA : Same H0 Ha := fun b o e => fA b o (fun z => by rw [z, h.x0] at e; cases e) (fun z => by rw [z, h.hm0] at e; cases e) (fun z => by rw [z, kp0] at e; cases e) (h1.same b o e)
      have nek : ∀ e ∈ xs, e.2.2 ≠ kp := fun e he => fr _ (by obtain ⟨b, u, _, _, e3⟩ := h.lin.ents e he; rw [e3]; simp)
      have nex : ∀ e ∈ xs, e.2.2 ≠ x := fun e he => by obtain ⟨b, u, _, _, e3⟩ := h.lin.ents e he; exact ne_of e3 h.obj (by intro z; cases z)
      have neh : ∀ e ∈ xs, e.2.2 ≠ hm := fun e he z => nd.2.1.2 (z ▸ List.mem_map.mpr ⟨e, he, rfl⟩)
      have net : ∀ e ∈ xs, e.2.2 ≠ tk := fun e he z => nd.1.2.2 (z ▸ List.mem_map.mpr ⟨e, he, rfl⟩)
      have linA : LinesAt P w Ha ln xs (parOf n ord gaps most) S.come S.tak := h1.lin.move (fun o e => fA ln o nlx nlh nlk e)
        (fun b ys e => fA b _ (ne_of e h1.obj (by intro z; cases z)) (ne_of e h1.ohm (by intro z; cases z)) (ne_of e kpv (by intro z; cases z)) e) (fun e he o q => fA _ o (nex e he) (neh e he) (nek e he) q)
      have tkA : Ha tk = some (.lst (opts n S.tak)) := fA tk _ nxt.symm nth ntk h1.otk
      refine ⟨_, rfl, x, C, dx, _, _, rfl, oA, TT.cl, TT.nLines, zip_lookup xLines rfl, ln, rfl, ⟨xs, linA.ld⟩, _, rfl, x, C, dx, _, _, rfl, oA, TT.cl, TT.nBay, zip_lookup xBay rfl, _, rfl, x, C, dx, _, _, rfl, oA, TT.cl, TT.nUpward, zip_lookup xUpward rfl, (by show 2 ≤ sizeLine; decide), fun kq hkq => ?_⟩
      refine ⟨Nat.zero_le _, fun l0 hl0 => ?_⟩
      have sC : Same Ha (upd (upd Ha kq (.tup [.int (S.bay : Int), .bl S.up])) l0 (.lst [])) := Same.new (same_new hkq) hl0
      have nl0t : l0 ≠ tk := fun z => by
        have e1 := same_new (o := .tup [.int (S.bay : Int), .bl S.up]) hkq _ _ tkA
        rw [← z, hl0] at e1
        cases e1
      have nql : kq ≠ l0 := fun z => by rw [z, upd_same] at hl0; cases hl0
      have kqC : (upd (upd Ha kq (.tup [.int (S.bay : Int), .bl S.up])) l0 (.lst [])) kq = some (.tup [.int (S.bay : Int), .bl S.up]) := by rw [upd_ne nql, upd_same]
      have l0C : (upd (upd Ha kq (.tup [.int (S.bay : Int), .bl S.up])) l0 (.lst [])) l0 = some (.lst []) := upd_same
      generalize hG2 : upd (upd Ha kq (.tup [.int (S.bay : Int), .bl S.up])) l0 (.lst []) = Hc at sC kqC l0C
      have linC := linA.same sC
      refine ⟨xs, ((S.bay : Int), S.up), kq, l0, nums (lineOf (parOf n ord gaps most) S.come S.tak S.bay S.up), fun b => b ≠ tk, linC.ld, rfl, rfl, kqC, fun q hq => ⟨linC.found hq, net _ (atL_mem hq)⟩, fun hno => ⟨?_, nl0t⟩, fun la hla nlat => ?_⟩
      · rw [linC.mis _ _ hno]; exact l0C
      -- the line is at la
      have MC : Mid P w C H0 Hc x dx _ tk hm kp la ln xs (parOf n ord gaps most) S.come S.tak _ _ _ _ := ⟨sA.trans sC, sC _ _ oA, sC _ _ tkA, sC _ _ hA, sC _ _ kA, hla, linC⟩
      obtain ⟨g, hA1, hA2⟩ := (hC.A.same MC.sm).ex
      refine ⟨_, rfl, x, C, dx, _, _, rfl, MC.ox, TT.cl, TT.nAisle, zip_lookup xAisle rfl, a, _, _, _, rfl, rfl, SqT.of hA1, at_of (j := 1) rfl rfl, _, rfl, kp, _, rfl, .inl (SqL.of MC.okp), _, _, rfl, rfl, ?_⟩
      rw [nums_len]
      have hkl : (keptL (parOf n ord gaps most) S S.rid).length ≤ (parOf n ord gaps most).most := by
        have g1 := List.length_filter_le (fun i => !decide ((parOf n ord gaps most).dst i = S.bay)) S.rid
        unfold keptL
        omega
      have eroom : most - ((keptL (parOf n ord gaps most) S S.rid).length : Int) = (((parOf n ord gaps most).most - (keptL (parOf n ord gaps most) S S.rid).length : Nat) : Int) := by
        have e1 : ((parOf n ord gaps most).most : Int) = most := by
          show ((most.toNat : Nat) : Int) = most
          have := hC.Ao.m1
          omega
        omega
      have ecut : ∀ (l : List Nat) (m : Nat), cutV (nums l) none (some (m : Int)) = nums (l.take m) := fun l m => by
        rw [cut_to]; unfold nums; rw [List.map_take]
      have ecut2 : ∀ (l : List Nat) (m : Nat), cutV (nums l) (some (m : Int)) none = nums (l.drop m) := fun l m => by
        rw [cut_from]; unfold nums; rw [List.map_drop]
      have enw : (lineOf (parOf n ord gaps most) S.come S.tak S.bay S.up).take ((parOf n ord gaps most).most - (keptL (parOf n ord gaps most) S S.rid).length) = nwL (parOf n ord gaps most) S := rfl
      have ecutR : cutV (nums (lineOf (parOf n ord gaps most) S.come S.tak S.bay S.up)) none (some (most - ((keptL (parOf n ord gaps most) S S.rid).length : Int))) = nums (nwL (parOf n ord gaps most) S) := by rw [eroom, ecut, enw]
      refine ⟨_, rfl, _, rfl, _, rfl, la, _, rfl, SqL.of MC.ola, fun l1 hl1 => ?_⟩
      rw [ecutR]
      have MD := MC.same (same_new (o := .lst (nums (nwL (parOf n ord gaps most) S))) hl1)
      have l1D : (upd Hc l1 (.lst (nums (nwL (parOf n ord gaps most) S)))) l1 = some (.lst (nums (nwL (parOf n ord gaps most) S))) := upd_same
      have nl1t : l1 ≠ tk := fun z => by rw [z, MC.otk] at hl1; cases hl1
      generalize hG3 : upd Hc l1 (.lst (nums (nwL (parOf n ord gaps most) S))) = Hd at MD l1D
      have nwlt : ∀ i ∈ nwL (parOf n ord gaps most) S, i < n := fun i hi => Nat.lt_of_lt_of_le (mem_line.mp (List.mem_of_mem_take hi)).1 hcn
      refine ⟨l1, rfl, ⟨_, SqL.of l1D⟩, for_list (K := K) (a := l1) (xs := nums (nwL (parOf n ord gaps most) S)) (fun i σ H' => ∃ v, σ = [some (.ref x), some (.ref kp), v, some (.ref la), some (.int (most - ((keptL (parOf n ord gaps most) S S.rid).length : Int)))] ∧
          (∀ b o, b ≠ tk → Hd b = some o → H' b = some o) ∧ H' tk = some (.lst (opts n fun j => if j ∈ (nwL (parOf n ord gaps most) S).take i then some S.tick else S.tak j))) ⟨_, rfl, fun b o _ e => e, ?_⟩ ?_ ?_ ?_⟩
      · rw [MD.otk]
        have : (fun j => if j ∈ (nwL (parOf n ord gaps most) S).take 0 then some S.tick else S.tak j) = S.tak := by
          funext j
          rw [List.take_zero, if_neg (by simp)]
        rw [this]
      · rintro i σ H' _ ⟨v, rfl, hf, _⟩
        exact SqL.of (hf _ _ nl1t l1D)
      · rintro i y σ H' hy ⟨v, rfl, hf, ht⟩
        obtain ⟨j, hj, rfl⟩ := nums_get hy
        have hjn : j < n := nwlt j (List.mem_of_getElem? hj)
        have hx' := hf _ _ nxt MD.ox
        refine ⟨_, rfl, x, C, dx, _, _, rfl, hx', TT.cl, TT.nTick, zip_lookup xTick rfl, _, rfl, x, C, dx, _, _, rfl, hx', TT.cl, TT.nTaken, zip_lookup xTaken rfl, _, rfl, tk, _, _, j, rfl, rfl, ht, by rw [opts_len]; exact ixN_nat hjn, ?_⟩
        rw [opts_set hjn]
        refine ⟨_, rfl, fun b o b1 e => ?_, ?_⟩
        · rw [upd_ne b1]; exact hf b o b1 e
        · rw [upd_same, take_succ_of hj]
          have : (fun j_1 => if j_1 ∈ (nwL (parOf n ord gaps most) S).take i ++ [j] then some S.tick else S.tak j_1) = (fun i_1 => if i_1 = j then some S.tick else if i_1 ∈ (nwL (parOf n ord gaps most) S).take i then some S.tick else S.tak i_1) := by
            funext q
            by_cases c1 : q = j
            · simp [c1]
            · simp [c1]
          rw [this]
      · rintro σ He ⟨v, rfl, fE, tkE⟩
        rw [nums_len, List.take_length] at tkE
        have ME : Mid P w C H0 He x dx _ tk hm kp la ln xs (parOf n ord gaps most) S.come S.tak _ _ _ _ :=
          ⟨fun b o e => fE b o (fun z => by rw [z, h.tk0] at e; cases e) (MD.sm b o e), fE _ _ nxt MD.ox, tkE, fE _ _ nth.symm MD.ohm, fE _ _ ntk.symm MD.okp, fE _ _ nlat MD.ola,
            MD.lin.move (fun o e => fE ln o nlt e) (fun b ys e => fE b _ (ne_of e MD.otk (by intro z; cases z)) e) (fun e he o q => fE _ o (net e he) q)⟩
        -- self.riding = kept + line[:room]
        refine ⟨_, rfl, _, rfl, _, rfl, _, rfl, la, _, rfl, SqL.of ME.ola, fun l2 hl2 => ?_⟩
        rw [ecutR]
        have MF := ME.same (same_new (o := .lst (nums (nwL (parOf n ord gaps most) S))) hl2)
        have l2F : (upd He l2 (.lst (nums (nwL (parOf n ord gaps most) S)))) l2 = some (.lst (nums (nwL (parOf n ord gaps most) S))) := upd_same
        generalize hG4 : upd He l2 (.lst (nums (nwL (parOf n ord gaps most) S))) = Hf at MF l2F
        have nwlen : (nwL (parOf n ord gaps most) S).length ≤ 20 := by
          have g1 : (nwL (parOf n ord gaps most) S).length ≤ (parOf n ord gaps most).most - (keptL (parOf n ord gaps most) S S.rid).length := List.length_take_le _ _
          have g3 : (parOf n ord gaps most).most ≤ 20 := by have := hC.Ao.m2; show most.toNat ≤ 20; omega
          omega
        have kl20 : (keptL (parOf n ord gaps most) S S.rid).length ≤ 20 := by
          have g3 : (parOf n ord gaps most).most ≤ 20 := by have := hC.Ao.m2; show most.toNat ≤ 20; omega
          omega
        refine ⟨kp, l2, _, _, rfl, rfl, MF.okp, l2F, by rw [nums_len, nums_len, sizeLine_eq]; omega, fun l3 hl3 => ?_⟩
        have en3 : nums (keptL (parOf n ord gaps most) S S.rid) ++ nums (nwL (parOf n ord gaps most) S) = nums (keptL (parOf n ord gaps most) S S.rid ++ nwL (parOf n ord gaps most) S) := by
          unfold nums
          rw [List.map_append]
        rw [en3]
        have n3t : l3 ≠ tk := fun z => by rw [z, MF.otk] at hl3; cases hl3
        have n3h : l3 ≠ hm := fun z => by rw [z, MF.ohm] at hl3; cases hl3
        have n3x : l3 ≠ x := fun z => by rw [z, MF.ox] at hl3; cases hl3
        have n3l : l3 ≠ ln := fun z => by rw [z, MF.lin.ld.at_] at hl3; cases hl3
        have n3e : ∀ e ∈ xs, e.2.2 ≠ l3 := fun e he z => by obtain ⟨b, u, _, _, e3⟩ := MF.lin.ents e he; rw [z, hl3] at e3; cases e3
        have MG := MF.same (same_new (o := .lst (nums (keptL (parOf n ord gaps most) S S.rid ++ nwL (parOf n ord gaps most) S))) hl3)
        have l3G : (upd Hf l3 (.lst (nums (keptL (parOf n ord gaps most) S S.rid ++ nwL (parOf n ord gaps most) S)))) l3 = some (.lst (nums (keptL (parOf n ord gaps most) S S.rid ++ nwL (parOf n ord gaps most) S))) := upd_same
        generalize hG5 : upd Hf l3 (.lst (nums (keptL (parOf n ord gaps most) S S.rid ++ nwL (parOf n ord gaps most) S))) = Hg at MG l3G
        refine ⟨_, rfl, x, C, dx, _, rfl, MG.ox, TT.cl, TT.nRiding, zip_few few12, ?_⟩
        rw [zip_put xRiding (by show 8 < 12; omega)]
        have MH : Mid P w C H0 (upd Hg x (.ins C dx (tourK.zip ((tv a lo tk hm (S.many - ((outL (parOf n ord gaps most) S S.rid).length : Int)) S.come ln S.queued rd S.tick S.bay S.up).set 8 (.ref l3))))) x dx (tv a lo tk hm (S.many - ((outL (parOf n ord gaps most) S S.rid).length : Int)) S.come ln S.queued l3 S.tick S.bay S.up) tk hm kp la ln xs (parOf n ord gaps most) S.come S.tak _ _ _ _ := MG.setx h.x0 (tv a lo tk hm (S.many - ((outL (parOf n ord gaps most) S S.rid).length : Int)) S.come ln S.queued l3 S.tick S.bay S.up)
        have l3H : (upd Hg x (.ins C dx (tourK.zip ((tv a lo tk hm (S.many - ((outL (parOf n ord gaps most) S S.rid).length : Int)) S.come ln S.queued rd S.tick S.bay S.up).set 8 (.ref l3))))) l3 = some (.lst (nums (keptL (parOf n ord gaps most) S S.rid ++ nwL (parOf n ord gaps most) S))) := by rw [upd_ne n3x]; exact l3G
        generalize hG6 : upd Hg x (.ins C dx (tourK.zip ((tv a lo tk hm (S.many - ((outL (parOf n ord gaps most) S S.rid).length : Int)) S.come ln S.queued rd S.tick S.bay S.up).set 8 (.ref l3)))) = Hh at MH l3H
        -- self.queued -= len(line[:room])
        refine ⟨_, rfl, x, C, dx, _, _, rfl, MH.ox, TT.cl, TT.nQueued, zip_lookup xQueued rfl, _, rfl, _, rfl, _, rfl, la, _, rfl, SqL.of MH.ola, fun l4 hl4 => ?_⟩
        rw [ecutR]
        have MI := MH.same (same_new (o := .lst (nums (nwL (parOf n ord gaps most) S))) hl4)
        have l3I := same_new (o := .lst (nums (nwL (parOf n ord gaps most) S))) hl4 _ _ l3H
        have l4I : (upd Hh l4 (.lst (nums (nwL (parOf n ord gaps most) S)))) l4 = some (.lst (nums (nwL (parOf n ord gaps most) S))) := upd_same
        generalize hG7 : upd Hh l4 (.lst (nums (nwL (parOf n ord gaps most) S))) = Hi at MI l3I l4I
        refine ⟨l4, _, rfl, .inl (SqL.of l4I), _, _, rfl, rfl, dx, _, MI.ox, zip_few few12, ?_⟩
        rw [zip_put xQueued (by show 7 < 12; omega)]
        have MJ : Mid P w C H0 (upd Hi x (.ins C dx (tourK.zip ((tv a lo tk hm (S.many - ((outL (parOf n ord gaps most) S S.rid).length : Int)) S.come ln S.queued l3 S.tick S.bay S.up).set 7 (.int (S.queued - ((nums (nwL (parOf n ord gaps most) S)).length : Int))))))) x dx (tv a lo tk hm (S.many - ((outL (parOf n ord gaps most) S S.rid).length : Int)) S.come ln (S.queued - ((nums (nwL (parOf n ord gaps most) S)).length : Int)) l3 S.tick S.bay S.up) tk hm kp la ln xs (parOf n ord gaps most) S.come S.tak _ _ _ _ := MI.setx h.x0 (tv a lo tk hm (S.many - ((outL (parOf n ord gaps most) S S.rid).length : Int)) S.come ln (S.queued - ((nums (nwL (parOf n ord gaps most) S)).length : Int)) l3 S.tick S.bay S.up)
        have l3J : (upd Hi x (.ins C dx (tourK.zip ((tv a lo tk hm (S.many - ((outL (parOf n ord gaps most) S S.rid).length : Int)) S.come ln S.queued l3 S.tick S.bay S.up).set 7 (.int (S.queued - ((nums (nwL (parOf n ord gaps most) S)).length : Int))))))) l3 = some (.lst (nums (keptL (parOf n ord gaps most) S S.rid ++ nwL (parOf n ord gaps most) S))) := by rw [upd_ne n3x]; exact l3I
        generalize hG8 : upd Hi x (.ins C dx (tourK.zip ((tv a lo tk hm (S.many - ((outL (parOf n ord gaps most) S S.rid).length : Int)) S.come ln S.queued l3 S.tick S.bay S.up).set 7 (.int (S.queued - ((nums (nwL (parOf n ord gaps most) S)).length : Int)))))) = Hj at MJ l3J
        -- self.lines[self.bay, self.upward] = line[room:]
        have ecutR2 : cutV (nums (lineOf (parOf n ord gaps most) S.come S.tak S.bay S.up)) (some (most - ((keptL (parOf n ord gaps most) S S.rid).length : Int))) none = (nums ((lineOf (parOf n ord gaps most) S.come S.tak S.bay S.up).drop ((parOf n ord gaps most).most - (keptL (parOf n ord gaps most) S S.rid).length))) := by rw [eroom, ecut2]
        refine ⟨_, rfl, _, rfl, _, rfl, la, _, rfl, SqL.of MJ.ola, fun l5 hl5 => ?_⟩
        rw [ecutR2]
        have MK := MJ.same (same_new (o := .lst (nums ((lineOf (parOf n ord gaps most) S.come S.tak S.bay S.up).drop ((parOf n ord gaps most).most - (keptL (parOf n ord gaps most) S S.rid).length)))) hl5)
        have l3K := same_new (o := .lst (nums ((lineOf (parOf n ord gaps most) S.come S.tak S.bay S.up).drop ((parOf n ord gaps most).most - (keptL (parOf n ord gaps most) S S.rid).length)))) hl5 _ _ l3J
        have l5K : (upd Hj l5 (.lst (nums ((lineOf (parOf n ord gaps most) S.come S.tak S.bay S.up).drop ((parOf n ord gaps most).most - (keptL (parOf n ord gaps most) S S.rid).length))))) l5 = some (.lst (nums ((lineOf (parOf n ord gaps most) S.come S.tak S.bay S.up).drop ((parOf n ord gaps most).most - (keptL (parOf n ord gaps most) S S.rid).length)))) := upd_same
        generalize hG9 : upd Hj l5 (.lst (nums ((lineOf (parOf n ord gaps most) S.come S.tak S.bay S.up).drop ((parOf n ord gaps most).most - (keptL (parOf n ord gaps most) S S.rid).length)))) = Hk at MK l3K l5K
        refine ⟨_, rfl, x, C, dx, _, _, rfl, MK.ox, TT.cl, TT.nLines, zip_lookup xLines rfl, _, rfl, x, C, dx, _, _, rfl, MK.ox, TT.cl, TT.nBay, zip_lookup xBay rfl, _, rfl, x, C, dx, _, _, rfl, MK.ox, TT.cl, TT.nUpward, zip_lookup xUpward rfl, (by show 2 ≤ sizeLine; decide), fun kq2 hkq2 => ?_⟩
        have ML := MK.same (same_new (o := .tup [.int (S.bay : Int), .bl S.up]) hkq2)
        have l3L := same_new (o := .tup [.int (S.bay : Int), .bl S.up]) hkq2 _ _ l3K
        have l5L := same_new (o := .tup [.int (S.bay : Int), .bl S.up]) hkq2 _ _ l5K
        have kqL : (upd Hk kq2 (.tup [.int (S.bay : Int), .bl S.up])) kq2 = some (.tup [.int (S.bay : Int), .bl S.up]) := upd_same
        generalize hG10 : upd Hk kq2 (.tup [.int (S.bay : Int), .bl S.up]) = Hl at ML l3L l5L kqL
        have few : xs.length ≤ 1000 := by
          have := h.lin.few
          have h15 := hC.Ao.l2
          have : (parOf n ord gaps most).L = gaps.length := rfl
          omega
        refine ⟨ln, xs, ((S.bay : Int), S.up), kq2, l5, rfl, rfl, rfl, ML.lin.ld, kqL, few, ?_⟩
        have n53 : l5 ≠ l3 := fun z => by rw [z, l3J] at hl5; cases hl5
        have n5t : l5 ≠ tk := fun z => by rw [z, MJ.otk] at hl5; cases hl5
        have n5h : l5 ≠ hm := fun z => by rw [z, MJ.ohm] at hl5; cases hl5
        have n5e : l5 ∉ xs.map (·.2.2) := fun z => by
          obtain ⟨e, he, z⟩ := List.mem_map.mp z
          obtain ⟨b, u, _, _, e3⟩ := MJ.lin.ents e he
          rw [z, hl5] at e3
          cases e3
        have l50 : H0 l5 = none := Same.free MJ.sm hl5
        have linF := lines_stop (m := (parOf n ord gaps most).most - (keptL (parOf n ord gaps most) S S.rid).length) (t := S.tick) ML.lin (b := S.bay) (u := S.up) hbL kqL l5L
        refine k _ ⟨dx, tk, hm, ln, l3, putL xs ((S.bay : Int), S.up) kq2 l5, ?_⟩
        have ndl : (xs.map (·.2.2)).Nodup := nd.2.2.2
        refine ⟨Same.but ML.sm h.ln0, h.x0, h.tk0, h.hm0, h.ln0, fun e he => ?_, ?_, ?_, ?_, ?_, linF, ?_⟩
        · rcases mem_putL he with ⟨h1, _⟩ | ⟨_, h2, _⟩
          · exact h.e0 e h1
          · rw [h2]; exact l50
        · rw [upd_ne nlx.symm]
          have := ML.ox
          rw [nums_len] at this
          exact this
        · rw [upd_ne nlt.symm]; exact ML.otk
        · rw [upd_ne nlh.symm]; exact ML.ohm
        · rw [upd_ne n3l]; exact l3L
        · have ndp := putL_lists (a := kq2) (k := ((S.bay : Int), S.up)) h.lin.keys ndl n5e
          have notin : ∀ b, b ≠ l5 → b ∉ xs.map (·.2.2) → b ∉ (putL xs ((S.bay : Int), S.up) kq2 l5).map (·.2.2) := fun b h1 h2 z => by
            obtain ⟨e, he, z⟩ := List.mem_map.mp z
            rcases mem_putL he with ⟨h3, _⟩ | ⟨_, h3, _⟩
            · exact h2 (List.mem_map.mpr ⟨e, h3, z⟩)
            · exact h1 (z.symm.trans h3)
          simp only [List.nodup_cons, List.mem_cons, not_or]
          refine ⟨⟨nth, n3t.symm, notin _ n5t.symm nd.1.2.2⟩, ⟨n3h.symm, notin _ n5h.symm nd.2.1.2⟩, notin _ n53.symm (fun z => ?_), ndp⟩
          obtain ⟨e, he, z⟩ := List.mem_map.mp z
          exact n3e e he z
end
end Bay

/-! One turn of the tour against the run over all stops. -/
namespace Bay
open PySem L2 PyProof.Rows
structure TInv (p : Par) (k : Nat) (S : TS) : Prop where
  tak : S.tak = (run p k).tak
  hom : S.hom = (run p k).hom
  rid : S.rid = (run p k).rid
  many : S.many = (p.n : Int) - ((run p k).arr.length : Int)
  tick : S.tick = time p k
  bay : S.bay = bay p k
  up : S.up = up p k
  cn : S.come ≤ p.n
  c1 : ∀ i, i < S.come → p.tk i ≤ time p k
  c2 : ∀ i, S.come ≤ i → i < p.n → (run p k).tak i = none
  qd : S.queued = (((List.range S.come).filter fun i => ((run p k).tak i).isNone).length : Int)
def initS (n : Nat) : TS := ⟨fun _ => none, fun _ => none, n, 0, 0, [], 0, 0, true⟩
section
variable {p : Par} {k : Nat} {S : TS}
theorem tinv_init (o : p.Ok) : TInv p 0 (initS p.n) where
  tak := rfl
  hom := rfl
  rid := rfl
  many := by show (p.n : Int) = (p.n : Int) - ((0 : Nat) : Int); omega
  tick := rfl
  bay := bay_zero.symm
  up := (up_zero o).symm
  cn := Nat.zero_le _
  c1 := fun i h => absurd h (Nat.not_lt_zero i)
  c2 := fun i _ _ => rfl
  qd := rfl
theorem tinv_skip (o : p.Ok) (h : TInv p k S) (hm : 0 < S.many) : (S.queued = 0 → S.rid = [] → S.come < p.n) ∧ ∃ k', k ≤ k' ∧ run p k' = run p k ∧ TInv p k' (skipS p S) := by
  have hR := R_pos o
  have all : S.queued = 0 → ∀ i, i < S.come → (run p k).tak i ≠ none := fun hq i hi z => by
    have := h.qd
    rw [hq] at this
    have hz : ((List.range S.come).filter fun i => ((run p k).tak i).isNone).length = 0 := by omega
    have hin : i ∈ (List.range S.come).filter fun i => ((run p k).tak i).isNone := List.mem_filter.mpr ⟨List.mem_range.mpr hi, by rw [z]; rfl⟩
    rw [List.eq_nil_of_length_eq_zero hz] at hin
    cases hin
  have first : S.queued = 0 → S.rid = [] → S.come < p.n := fun hq hr => by
    rcases Nat.lt_or_ge S.come p.n with c | c
    · exact c
    · exfalso
      have hn : S.come = p.n := by have := h.cn; omega
      have : (run p k).arr.length = p.n := full_of_home o fun i hi z => by
        have h1 := all hq i (by omega)
        have h2 : i ∈ (run p k).rid := ((good_run o k).rid i).mpr ⟨h1, z⟩
        rw [← h.rid, hr] at h2
        cases h2
      have hmm := h.many
      omega
  refine ⟨first, ?_⟩
  by_cases hs : S.queued = 0 ∧ S.rid = []
  · obtain ⟨hq, hr⟩ := hs
    have hc := first hq hr
    have e : skipS p S = { S with tick := skipTo p S } := by unfold skipS; rw [if_pos ⟨hq, hr⟩]
    have eR : p.R = 2 * p.gaps.sum := rfl
    generalize hd : (if p.tk S.come - S.tick > 0 then p.tk S.come - S.tick else 0) = d
    have hd0 : 0 ≤ d := by rw [← hd]; split <;> omega
    have ef : d.fdiv p.R = d / p.R := Int.fdiv_eq_ediv_of_nonneg d (by omega)
    have hq0 : 0 ≤ d / p.R := Int.ediv_nonneg hd0 (by omega)
    obtain ⟨q, eq⟩ : ∃ q : Nat, d / p.R = (q : Int) := ⟨(d / p.R).toNat, by omega⟩
    have hmul : (q : Int) * p.R ≤ d := by
      have h3 := Int.mul_ediv_add_emod d p.R
      have h1 := Int.emod_nonneg d (b := p.R) (by omega)
      rw [eq, Int.mul_comm] at h3
      omega
    have et : skipTo p S = time p (k + 2 * p.L * q) := by
      unfold skipTo
      rw [hd, ← eR, ef, eq, time_round, h.tick]
    have still : run p (k + 2 * p.L * q) = run p k := by
      refine run_still o (c := S.come) (by rw [← h.rid]; exact hr) (all hq) _ fun j h1 h2 h3 => ?_
      have h4 := time_smono o h2
      rw [time_round] at h4
      by_cases hpos : p.tk S.come - S.tick > 0
      · rw [if_pos hpos] at hd
        have := h.tick
        omega
      · rw [if_neg hpos] at hd
        have hz : q = 0 := by
          have : d / p.R = 0 := by rw [← hd]; exact Int.zero_ediv _
          omega
        rw [hz] at h2
        omega
    refine ⟨k + 2 * p.L * q, Nat.le_add_right _ _, still, ?_⟩
    rw [e]
    refine ⟨h.tak.trans (by rw [still]), h.hom.trans (by rw [still]), h.rid.trans (by rw [still]), h.many.trans (by rw [still]), et, ?_, ?_, h.cn, fun i hi => ?_, fun i h1 h2 => ?_, h.qd.trans (by rw [still])⟩
    · rw [bay_round]; exact h.bay
    · rw [up_round]; exact h.up
    · exact Int.le_trans (h.c1 i hi) (time_mono o (Nat.le_add_right _ _))
    · rw [still]; exact h.c2 i h1 h2
  · have e : skipS p S = S := by unfold skipS; rw [if_neg hs]
    rw [e]
    exact ⟨k, Nat.le_refl _, rfl, h⟩
theorem tinv_lie (o : p.Ok) (h : TInv p k S) {c : Nat} (hc : S.come ≤ c) (hn : c ≤ p.n) (h1 : ∀ i, S.come ≤ i → i < c → p.tk i ≤ S.tick) (h2 : c < p.n → S.tick < p.tk c) : TInv p k (lieS S c) ∧ c = come p (time p k) := by
  have hc1 : ∀ i, i < c → p.tk i ≤ time p k := fun i hi => by
    rcases Nat.lt_or_ge i S.come with z | z
    · exact h.c1 i z
    · rw [← h.tick]; exact h1 i z hi
  refine ⟨⟨h.tak, h.hom, h.rid, h.many, h.tick, h.bay, h.up, hn, hc1, fun i a b => h.c2 i (Nat.le_trans hc a) b, ?_⟩, come_eq o hn hc1 (fun z => by rw [← h.tick]; exact h2 z)⟩
  show S.queued + ((c : Int) - S.come) = _
  have : ∀ m, S.come + m ≤ p.n → (((List.range (S.come + m)).filter fun i => ((run p k).tak i).isNone).length : Int) = S.queued + m := by
    intro m
    induction m with
    | zero => intro _; rw [Nat.add_zero, ← h.qd]; omega
    | succ m ih =>
      intro hm
      have hi := ih (by omega)
      rw [← Nat.add_assoc, List.range_succ, List.filter_append, List.length_append]
      have e : [S.come + m].filter (fun i => ((run p k).tak i).isNone) = [S.come + m] := by
        have := h.c2 (S.come + m) (by omega) (by omega)
        simp [this]
      rw [e, List.length_singleton]
      omega
  have h3 := this (c - S.come) (by omega)
  have e : S.come + (c - S.come) = c := by omega
  rw [e] at h3
  show _ = (((List.range c).filter fun i => ((run p k).tak i).isNone).length : Int)
  omega
theorem filter_notin_len {l nw : List Nat} (hl : l.Nodup) (hn : nw.Nodup) (hs : nw ⊆ l) : (l.filter fun i => decide (i ∉ nw)).length + nw.length = l.length := by
  have h1 : (l.filter fun i => decide (i ∈ nw)).Perm nw := by
    refine (List.perm_ext_iff_of_nodup (List.Nodup.sublist List.filter_sublist hl) hn).mpr fun i => ?_
    rw [List.mem_filter]
    exact ⟨fun z => of_decide_eq_true z.2, fun z => ⟨hs z, decide_eq_true z⟩⟩
  have h2 := h1.length_eq
  have h3 := List.length_eq_countP_add_countP (fun i => decide (i ∈ nw)) (l := l)
  rw [List.countP_eq_length_filter, List.countP_eq_length_filter] at h3
  have e : (l.filter fun i => decide (i ∉ nw)) = l.filter fun a => decide (¬ decide (a ∈ nw) = true) := by
    apply List.filter_congr
    intro x _
    simp
  rw [e]
  omega
theorem tinv_stop (o : p.Ok) (h : TInv p k S) (hc : S.come = come p (time p k)) : TInv p (k + 1) (leaveS p (stopS p S)) := by
  have G := good_run o k
  have ek : keptL p S S.rid = keptOf p (bay p k) (run p k) := by unfold keptL keptOf; rw [h.bay, h.rid]
  have eo : outL p S S.rid = outOf p (bay p k) (run p k) := by unfold outL outOf; rw [h.bay, h.rid]
  have en : nwL p S = newOf p (time p k) (bay p k) (up p k) (run p k) := by unfold nwL newOf; rw [ek, hc, h.tak, h.bay, h.up]
  have r1 : run p (k + 1) = stopM p (time p k) (bay p k) (up p k) (run p k) := rfl
  have e1 : (stopS p S).tak = (run p (k + 1)).tak := by
    rw [r1]
    show (fun i => if i ∈ nwL p S then some S.tick else S.tak i) = fun i => if i ∈ newOf p (time p k) (bay p k) (up p k) (run p k) then some (time p k) else (run p k).tak i
    rw [en, h.tick, h.tak]
  have e2 : (stopS p S).hom = (run p (k + 1)).hom := by
    rw [r1]
    show (fun i => if i ∈ outL p S S.rid then some S.tick else S.hom i) = fun i => if i ∈ outOf p (bay p k) (run p k) then some (time p k) else (run p k).hom i
    rw [eo, h.tick, h.hom]
  have e3 : (stopS p S).rid = (run p (k + 1)).rid := by
    rw [r1]
    show keptL p S S.rid ++ nwL p S = keptOf p (bay p k) (run p k) ++ newOf p (time p k) (bay p k) (up p k) (run p k)
    rw [ek, en]
  have e4 : (stopS p S).many = (p.n : Int) - ((run p (k + 1)).arr.length : Int) := by
    rw [r1]
    show S.many - ((outL p S S.rid).length : Int) = (p.n : Int) - (((run p k).arr ++ outOf p (bay p k) (run p k)).length : Int)
    rw [eo, h.many, List.length_append]
    omega
  have e5 : (stopS p S).queued = (((List.range S.come).filter fun i => ((run p (k + 1)).tak i).isNone).length : Int) := by
    rw [← e1]
    show S.queued - ((nwL p S).length : Int) = _
    have hw : ((List.range S.come).filter fun i => ((stopS p S).tak i).isNone) = ((List.range S.come).filter fun i => ((run p k).tak i).isNone).filter fun i => decide (i ∉ nwL p S) := by
      rw [List.filter_filter]
      apply List.filter_congr
      intro x _
      show (if x ∈ nwL p S then some S.tick else S.tak x).isNone = _
      rw [h.tak]
      by_cases z : x ∈ nwL p S
      · simp [z]
      · simp [z]
    have hsub : nwL p S ⊆ (List.range S.come).filter fun i => ((run p k).tak i).isNone := fun i hi => by
      obtain ⟨a, _, _, b⟩ := mem_line.mp (List.mem_of_mem_take hi)
      rw [h.tak] at b
      exact List.mem_filter.mpr ⟨List.mem_range.mpr a, by rw [b]; rfl⟩
    have hl := filter_notin_len (l := (List.range S.come).filter fun i => ((run p k).tak i).isNone) (nw := nwL p S) (List.Nodup.sublist List.filter_sublist List.nodup_range) (by rw [en]; exact new_nodup) hsub
    rw [hw]
    have := h.qd
    omega
  have c2' : ∀ i, S.come ≤ i → i < p.n → (run p (k + 1)).tak i = none := fun i a b => by
    rw [← e1]
    show (if i ∈ nwL p S then some S.tick else S.tak i) = none
    rw [if_neg, h.tak]
    · exact h.c2 i a b
    · intro z
      have := (mem_line.mp (List.mem_of_mem_take z)).1
      omega
  have c1' : ∀ i, i < S.come → p.tk i ≤ time p (k + 1) := fun i hi => Int.le_trans (h.c1 i hi) (Int.le_of_lt (time_lt o k))
  unfold leaveS
  have eu : (stopS p S).up = up p k := h.up
  have eb : (stopS p S).bay = bay p k := h.bay
  have et : (stopS p S).tick = time p k := h.tick
  cases hu : up p k with
  | true =>
    rw [if_pos (eu.trans hu)]
    refine ⟨e1, e2, e3, e4, ?_, ?_, ?_, h.cn, c1', c2', e5⟩
    · show (stopS p S).tick + p.g (stopS p S).bay = _
      rw [et, eb, time_succ, len_up hu]
    · show (stopS p S).bay + 1 = _
      rw [eb, bay_succ_up o hu]
    · show decide ((stopS p S).bay + 1 < p.L) = _
      rw [up_succ_up o hu, bay_succ_up o hu, eb]
  | false =>
    rw [if_neg (by rw [eu, hu]; exact Bool.false_ne_true)]
    refine ⟨e1, e2, e3, e4, ?_, ?_, ?_, h.cn, c1', c2', e5⟩
    · show (stopS p S).tick + p.g ((stopS p S).bay - 1) = _
      rw [et, eb, time_succ, len_down o hu]
    · show (stopS p S).bay - 1 = _
      rw [eb, bay_succ_down o hu]
    · show decide ((stopS p S).bay - 1 = 0) = _
      rw [up_succ_down o hu, bay_succ_down o hu, eb]
end
end Bay

/-! A tour is made. -/
namespace Bay
open PySem L2 PyProof.Rows
theorem pe_lnewP {X : Cx} {pos : Pos} {P : Program} {w : World} (hP : X.prog = P) (hw : X.w = w) : PE X (.Dict [] [] pos) (tLNew P w) := by
  subst hP hw
  exact pe_lnew
theorem flat_rep (n : Nat) (v : V) : (List.replicate n [v]).flatten = List.replicate n v := by
  induction n with
  | zero => rfl
  | succ n ih => rw [List.replicate_succ, List.flatten_cons, ih]; rfl
theorem opts_none (n : Nat) : opts n (fun _ => none) = List.replicate n V.non := by
  unfold opts
  have : (ov fun _ => none) = fun _ => V.non := rfl
  rw [this, List.map_const', List.length_range]
def spTourInit (P : Program) (w : World) (C : Addr) : Sp := fun vs H Q _ => ∃ (H0 : Hp) (x dx a lo : Addr) (n : Nat) (r : Nat → Addr) (ord : Nat → Ord) (gaps : List Int) (most : Int), vs = [.ref x, .ref a, .ref lo] ∧ Ctx H0 a lo n r ord gaps most ∧
  Same H0 H ∧ H0 x = none ∧ H x = some (.ins C dx []) ∧ ∀ H', TourAt P w C H0 H' x a lo (parOf n ord gaps most) (initS n) → Q .non H'
theorem init_put {k : Str} {y : V} {ks : List Str} {vs : List V} (h : ix k ks = none) (hl : ks.length = vs.length) : putF k y (ks.zip vs) = (ks ++ [k]).zip (vs ++ [y]) := zip_app h hl
section
variable {P : Program} {w : World} {K : PySem.W.Frag} {mg : Str → Option Value} {base : Heap}
theorem scTourInit : FnScope ["self", "aisle", "orders"] ["self", "aisle", "orders"] (defScope sTourInit) := ⟨rfl, rfl, rfl, by decide +kernel, rfl, by decide +kernel, by decide +kernel⟩
theorem ok_tourInit {f C : Addr} {fd : FuncData} (F : Fun K "__init__" "Tour.__init__" sTourInit f fd) (T : Txt mg) (TT : TourTxt K C) : FnOk P w K mg base CX0 1 f fd ["self", "aisle", "orders"] (spTourInit P w C) := by
  refine F.ok scTourInit (fun vs H Q E h => ?_) (fun cdv A outer s H vs Q E hr h => ?_)
  · obtain ⟨H0, x, dx, a, lo, n, r, ord, gaps, most, rfl, _⟩ := h
    rfl
  · obtain ⟨H0, x, dx, a, lo, n, r, ord, gaps, most, rfl, hC, sm0, x0, hx, k⟩ := h
    refine ⟨_, pss_cons (ps_fld (pv 0) (pv 1) rfl)
      (pss_cons (ps_fld (pv 0) (pv 2) rfl)
      (pss_cons (ps_fld (pv 0) (pe_op op_rep (pe_lst (pa_cons pe_non pa_nil)) (pe_callB call_len_seq (by rfl) T.len PySem.boot_len (pa_cons (pv 2) pa_nil))) rfl)
      (pss_cons (ps_fld (pv 0) (pe_op op_rep (pe_lst (pa_cons pe_non pa_nil)) (pe_callB call_len_seq (by rfl) T.len PySem.boot_len (pa_cons (pv 2) pa_nil))) rfl)
      (pss_cons (ps_fld (pv 0) (pe_callB call_len_seq (by rfl) T.len PySem.boot_len (pa_cons (pv 2) pa_nil)) rfl)
      (pss_cons (ps_fld (pv 0) pe_int rfl)
      (pss_cons (ps_fld (pv 0) (pe_lnewP (P := P) (w := w) rfl rfl) rfl)
      (pss_cons (ps_fld (pv 0) pe_int rfl)
      (pss_cons (ps_fld (pv 0) (pe_lst pa_nil) rfl)
      (pss_cons (ps_fld (pv 0) pe_int rfl)
      (pss_cons (ps_fld (pv 0) pe_int rfl)
      (pss_one (ps_fld (pv 0) pe_bl rfl)))))))))))), ?_⟩
    have ox0 : H x = some (.ins C dx (([] : List Str).zip ([] : List V))) := hx
    have sm : Same H0 H := sm0
    refine ⟨_, rfl, _, rfl, x, C, dx, _, rfl, ox0, TT.cl, TT.nAisle, zip_few (by decide), ?_⟩
    rw [zip_app (by decide +kernel) (by rfl)]
    have sm' := Same.but (o := .ins C dx ((([] : List Str) ++ (["aisle"] : List Str)).zip (([] : List V) ++ ([.ref a] : List V)))) sm x0
    have ox1 : (upd H x (.ins C dx ((([] : List Str) ++ (["aisle"] : List Str)).zip (([] : List V) ++ ([.ref a] : List V))))) x = some (.ins C dx ((([] : List Str) ++ (["aisle"] : List Str)).zip (([] : List V) ++ ([.ref a] : List V)))) := upd_same
    clear sm
    have sm := sm'
    clear sm'
    generalize hK0 : upd H x (.ins C dx ((([] : List Str) ++ (["aisle"] : List Str)).zip (([] : List V) ++ ([.ref a] : List V)))) = K0x at sm ox1
    refine ⟨_, rfl, _, rfl, x, C, dx, _, rfl, ox1, TT.cl, TT.nOrders, zip_few (by decide), ?_⟩
    rw [zip_app (by decide +kernel) (by rfl)]
    have sm' := Same.but (o := .ins C dx (((([] : List Str) ++ (["aisle"] : List Str)) ++ (["orders"] : List Str)).zip ((([] : List V) ++ ([.ref a] : List V)) ++ ([.ref lo] : List V)))) sm x0
    have ox2 : (upd K0x x (.ins C dx (((([] : List Str) ++ (["aisle"] : List Str)) ++ (["orders"] : List Str)).zip ((([] : List V) ++ ([.ref a] : List V)) ++ ([.ref lo] : List V))))) x = some (.ins C dx (((([] : List Str) ++ (["aisle"] : List Str)) ++ (["orders"] : List Str)).zip ((([] : List V) ++ ([.ref a] : List V)) ++ ([.ref lo] : List V)))) := upd_same
    clear sm
    have sm := sm'
    clear sm'
    generalize hK1 : upd K0x x (.ins C dx (((([] : List Str) ++ (["aisle"] : List Str)) ++ (["orders"] : List Str)).zip ((([] : List V) ++ ([.ref a] : List V)) ++ ([.ref lo] : List V)))) = K1x at sm ox2
    refine ⟨(by show 1 ≤ sizeLine; decide), fun ttk httk => ?_⟩
    have sm' := Same.new (o := .lst [.non]) sm httk
    have s1 := same_new (o := .lst [.non]) httk
    have ox' := s1 _ _ ox2
    have of_ttk : (upd K1x ttk (.lst [.non])) ttk = some (.lst [.non]) := upd_same
    have nf_ttk : H0 ttk = none := Same.free sm httk
    clear sm ox2 s1
    have sm := sm'
    have ox2 := ox'
    clear sm' ox'
    generalize hG1 : upd K1x ttk (.lst [.non]) = H1x at sm ox2 of_ttk
    refine ⟨_, rfl, lo, _, rfl, .inl (SqL.of (hC.O.same sm).lst), ttk, _, _, rfl, rfl, of_ttk, ?_, ?_, ?_, fun tk htk => ?_⟩
    · have := hC.Oo.few
      rw [refs_len, List.length_range]
      omega
    · have := hC.Oo.few
      rw [refs_len, List.length_range]
      omega
    · have := hC.Oo.few
      rw [refs_len, List.length_range, sizeLine_eq]
      show 1 * (n : Int).toNat ≤ 16777216
      omega
    rw [flat_rep, refs_len, List.length_range, Int.toNat_natCast, ← opts_none]
    have sm' := Same.new (o := .lst (opts n fun _ => none)) sm htk
    have s1 := same_new (o := .lst (opts n fun _ => none)) htk
    have ox' := s1 _ _ ox2
    have of_ttk' := s1 _ _ of_ttk
    have of_tk : (upd H1x tk (.lst (opts n fun _ => none))) tk = some (.lst (opts n fun _ => none)) := upd_same
    have nf_tk : H0 tk = none := Same.free sm htk
    have n_ttk_tk : ttk ≠ tk := fun z => by rw [z, htk] at of_ttk; cases of_ttk
    clear sm ox2 s1 of_ttk
    have sm := sm'
    have ox2 := ox'
    have of_ttk := of_ttk'
    clear sm' ox' of_ttk'
    generalize hG2 : upd H1x tk (.lst (opts n fun _ => none)) = H2x at sm ox2 of_tk of_ttk
    refine ⟨_, rfl, x, C, dx, _, rfl, ox2, TT.cl, TT.nTaken, zip_few (by decide), ?_⟩
    rw [zip_app (by decide +kernel) (by rfl)]
    have sm' := Same.but (o := .ins C dx ((((([] : List Str) ++ (["aisle"] : List Str)) ++ (["orders"] : List Str)) ++ (["taken"] : List Str)).zip (((([] : List V) ++ ([.ref a] : List V)) ++ ([.ref lo] : List V)) ++ ([.ref tk] : List V)))) sm x0
    have of_ttk' := (upd_ne (o := .ins C dx ((((([] : List Str) ++ (["aisle"] : List Str)) ++ (["orders"] : List Str)) ++ (["taken"] : List Str)).zip (((([] : List V) ++ ([.ref a] : List V)) ++ ([.ref lo] : List V)) ++ ([.ref tk] : List V)))) (ne_of of_ttk ox2 (by intro z; cases z))).trans of_ttk
    have of_tk' := (upd_ne (o := .ins C dx ((((([] : List Str) ++ (["aisle"] : List Str)) ++ (["orders"] : List Str)) ++ (["taken"] : List Str)).zip (((([] : List V) ++ ([.ref a] : List V)) ++ ([.ref lo] : List V)) ++ ([.ref tk] : List V)))) (ne_of of_tk ox2 (by intro z; cases z))).trans of_tk
    have ox3 : (upd H2x x (.ins C dx ((((([] : List Str) ++ (["aisle"] : List Str)) ++ (["orders"] : List Str)) ++ (["taken"] : List Str)).zip (((([] : List V) ++ ([.ref a] : List V)) ++ ([.ref lo] : List V)) ++ ([.ref tk] : List V))))) x = some (.ins C dx ((((([] : List Str) ++ (["aisle"] : List Str)) ++ (["orders"] : List Str)) ++ (["taken"] : List Str)).zip (((([] : List V) ++ ([.ref a] : List V)) ++ ([.ref lo] : List V)) ++ ([.ref tk] : List V)))) := upd_same
    clear sm of_ttk of_tk
    have sm := sm'
    have of_ttk := of_ttk'
    have of_tk := of_tk'
    clear sm' of_ttk' of_tk'
    generalize hK2 : upd H2x x (.ins C dx ((((([] : List Str) ++ (["aisle"] : List Str)) ++ (["orders"] : List Str)) ++ (["taken"] : List Str)).zip (((([] : List V) ++ ([.ref a] : List V)) ++ ([.ref lo] : List V)) ++ ([.ref tk] : List V)))) = K2x at sm ox3 of_ttk of_tk
    refine ⟨(by show 1 ≤ sizeLine; decide), fun thm hthm => ?_⟩
    have sm' := Same.new (o := .lst [.non]) sm hthm
    have s1 := same_new (o := .lst [.non]) hthm
    have ox' := s1 _ _ ox3
    have of_ttk' := s1 _ _ of_ttk
    have of_tk' := s1 _ _ of_tk
    have of_thm : (upd K2x thm (.lst [.non])) thm = some (.lst [.non]) := upd_same
    have nf_thm : H0 thm = none := Same.free sm hthm
    have n_ttk_thm : ttk ≠ thm := fun z => by rw [z, hthm] at of_ttk; cases of_ttk
    have n_tk_thm : tk ≠ thm := fun z => by rw [z, hthm] at of_tk; cases of_tk
    clear sm ox3 s1 of_ttk of_tk
    have sm := sm'
    have ox3 := ox'
    have of_ttk := of_ttk'
    have of_tk := of_tk'
    clear sm' ox' of_ttk' of_tk'
    generalize hG3 : upd K2x thm (.lst [.non]) = H3x at sm ox3 of_thm of_ttk of_tk
    refine ⟨_, rfl, lo, _, rfl, .inl (SqL.of (hC.O.same sm).lst), thm, _, _, rfl, rfl, of_thm, ?_, ?_, ?_, fun hm hhm => ?_⟩
    · have := hC.Oo.few
      rw [refs_len, List.length_range]
      omega
    · have := hC.Oo.few
      rw [refs_len, List.length_range]
      omega
    · have := hC.Oo.few
      rw [refs_len, List.length_range, sizeLine_eq]
      show 1 * (n : Int).toNat ≤ 16777216
      omega
    rw [flat_rep, refs_len, List.length_range, Int.toNat_natCast, ← opts_none]
    have sm' := Same.new (o := .lst (opts n fun _ => none)) sm hhm
    have s1 := same_new (o := .lst (opts n fun _ => none)) hhm
    have ox' := s1 _ _ ox3
    have of_ttk' := s1 _ _ of_ttk
    have of_tk' := s1 _ _ of_tk
    have of_thm' := s1 _ _ of_thm
    have of_hm : (upd H3x hm (.lst (opts n fun _ => none))) hm = some (.lst (opts n fun _ => none)) := upd_same
    have nf_hm : H0 hm = none := Same.free sm hhm
    have n_ttk_hm : ttk ≠ hm := fun z => by rw [z, hhm] at of_ttk; cases of_ttk
    have n_tk_hm : tk ≠ hm := fun z => by rw [z, hhm] at of_tk; cases of_tk
    have n_thm_hm : thm ≠ hm := fun z => by rw [z, hhm] at of_thm; cases of_thm
    clear sm ox3 s1 of_ttk of_tk of_thm
    have sm := sm'
    have ox3 := ox'
    have of_ttk := of_ttk'
    have of_tk := of_tk'
    have of_thm := of_thm'
    clear sm' ox' of_ttk' of_tk' of_thm'
    generalize hG4 : upd H3x hm (.lst (opts n fun _ => none)) = H4x at sm ox3 of_hm of_ttk of_tk of_thm
    refine ⟨_, rfl, x, C, dx, _, rfl, ox3, TT.cl, TT.nHomes, zip_few (by decide), ?_⟩
    rw [zip_app (by decide +kernel) (by rfl)]
    have sm' := Same.but (o := .ins C dx (((((([] : List Str) ++ (["aisle"] : List Str)) ++ (["orders"] : List Str)) ++ (["taken"] : List Str)) ++ (["homes"] : List Str)).zip ((((([] : List V) ++ ([.ref a] : List V)) ++ ([.ref lo] : List V)) ++ ([.ref tk] : List V)) ++ ([.ref hm] : List V)))) sm x0
    have of_ttk' := (upd_ne (o := .ins C dx (((((([] : List Str) ++ (["aisle"] : List Str)) ++ (["orders"] : List Str)) ++ (["taken"] : List Str)) ++ (["homes"] : List Str)).zip ((((([] : List V) ++ ([.ref a] : List V)) ++ ([.ref lo] : List V)) ++ ([.ref tk] : List V)) ++ ([.ref hm] : List V)))) (ne_of of_ttk ox3 (by intro z; cases z))).trans of_ttk
    have of_tk' := (upd_ne (o := .ins C dx (((((([] : List Str) ++ (["aisle"] : List Str)) ++ (["orders"] : List Str)) ++ (["taken"] : List Str)) ++ (["homes"] : List Str)).zip ((((([] : List V) ++ ([.ref a] : List V)) ++ ([.ref lo] : List V)) ++ ([.ref tk] : List V)) ++ ([.ref hm] : List V)))) (ne_of of_tk ox3 (by intro z; cases z))).trans of_tk
    have of_thm' := (upd_ne (o := .ins C dx (((((([] : List Str) ++ (["aisle"] : List Str)) ++ (["orders"] : List Str)) ++ (["taken"] : List Str)) ++ (["homes"] : List Str)).zip ((((([] : List V) ++ ([.ref a] : List V)) ++ ([.ref lo] : List V)) ++ ([.ref tk] : List V)) ++ ([.ref hm] : List V)))) (ne_of of_thm ox3 (by intro z; cases z))).trans of_thm
    have of_hm' := (upd_ne (o := .ins C dx (((((([] : List Str) ++ (["aisle"] : List Str)) ++ (["orders"] : List Str)) ++ (["taken"] : List Str)) ++ (["homes"] : List Str)).zip ((((([] : List V) ++ ([.ref a] : List V)) ++ ([.ref lo] : List V)) ++ ([.ref tk] : List V)) ++ ([.ref hm] : List V)))) (ne_of of_hm ox3 (by intro z; cases z))).trans of_hm
    have ox4 : (upd H4x x (.ins C dx (((((([] : List Str) ++ (["aisle"] : List Str)) ++ (["orders"] : List Str)) ++ (["taken"] : List Str)) ++ (["homes"] : List Str)).zip ((((([] : List V) ++ ([.ref a] : List V)) ++ ([.ref lo] : List V)) ++ ([.ref tk] : List V)) ++ ([.ref hm] : List V))))) x = some (.ins C dx (((((([] : List Str) ++ (["aisle"] : List Str)) ++ (["orders"] : List Str)) ++ (["taken"] : List Str)) ++ (["homes"] : List Str)).zip ((((([] : List V) ++ ([.ref a] : List V)) ++ ([.ref lo] : List V)) ++ ([.ref tk] : List V)) ++ ([.ref hm] : List V)))) := upd_same
    clear sm of_ttk of_tk of_thm of_hm
    have sm := sm'
    have of_ttk := of_ttk'
    have of_tk := of_tk'
    have of_thm := of_thm'
    have of_hm := of_hm'
    clear sm' of_ttk' of_tk' of_thm' of_hm'
    generalize hK3 : upd H4x x (.ins C dx (((((([] : List Str) ++ (["aisle"] : List Str)) ++ (["orders"] : List Str)) ++ (["taken"] : List Str)) ++ (["homes"] : List Str)).zip ((((([] : List V) ++ ([.ref a] : List V)) ++ ([.ref lo] : List V)) ++ ([.ref tk] : List V)) ++ ([.ref hm] : List V)))) = K3x at sm ox4 of_ttk of_tk of_thm of_hm
    refine ⟨_, rfl, lo, _, rfl, .inl (SqL.of (hC.O.same sm).lst), _, rfl, x, C, dx, _, rfl, ox4, TT.cl, TT.nMany, zip_few (by decide), ?_⟩
    rw [refs_len, List.length_range]
    rw [zip_app (by decide +kernel) (by rfl)]
    have sm' := Same.but (o := .ins C dx ((((((([] : List Str) ++ (["aisle"] : List Str)) ++ (["orders"] : List Str)) ++ (["taken"] : List Str)) ++ (["homes"] : List Str)) ++ (["many"] : List Str)).zip (((((([] : List V) ++ ([.ref a] : List V)) ++ ([.ref lo] : List V)) ++ ([.ref tk] : List V)) ++ ([.ref hm] : List V)) ++ ([.int (n : Int)] : List V)))) sm x0
    have of_ttk' := (upd_ne (o := .ins C dx ((((((([] : List Str) ++ (["aisle"] : List Str)) ++ (["orders"] : List Str)) ++ (["taken"] : List Str)) ++ (["homes"] : List Str)) ++ (["many"] : List Str)).zip (((((([] : List V) ++ ([.ref a] : List V)) ++ ([.ref lo] : List V)) ++ ([.ref tk] : List V)) ++ ([.ref hm] : List V)) ++ ([.int (n : Int)] : List V)))) (ne_of of_ttk ox4 (by intro z; cases z))).trans of_ttk
    have of_tk' := (upd_ne (o := .ins C dx ((((((([] : List Str) ++ (["aisle"] : List Str)) ++ (["orders"] : List Str)) ++ (["taken"] : List Str)) ++ (["homes"] : List Str)) ++ (["many"] : List Str)).zip (((((([] : List V) ++ ([.ref a] : List V)) ++ ([.ref lo] : List V)) ++ ([.ref tk] : List V)) ++ ([.ref hm] : List V)) ++ ([.int (n : Int)] : List V)))) (ne_of of_tk ox4 (by intro z; cases z))).trans of_tk
    have of_thm' := (upd_ne (o := .ins C dx ((((((([] : List Str) ++ (["aisle"] : List Str)) ++ (["orders"] : List Str)) ++ (["taken"] : List Str)) ++ (["homes"] : List Str)) ++ (["many"] : List Str)).zip (((((([] : List V) ++ ([.ref a] : List V)) ++ ([.ref lo] : List V)) ++ ([.ref tk] : List V)) ++ ([.ref hm] : List V)) ++ ([.int (n : Int)] : List V)))) (ne_of of_thm ox4 (by intro z; cases z))).trans of_thm
    have of_hm' := (upd_ne (o := .ins C dx ((((((([] : List Str) ++ (["aisle"] : List Str)) ++ (["orders"] : List Str)) ++ (["taken"] : List Str)) ++ (["homes"] : List Str)) ++ (["many"] : List Str)).zip (((((([] : List V) ++ ([.ref a] : List V)) ++ ([.ref lo] : List V)) ++ ([.ref tk] : List V)) ++ ([.ref hm] : List V)) ++ ([.int (n : Int)] : List V)))) (ne_of of_hm ox4 (by intro z; cases z))).trans of_hm
    have ox5 : (upd K3x x (.ins C dx ((((((([] : List Str) ++ (["aisle"] : List Str)) ++ (["orders"] : List Str)) ++ (["taken"] : List Str)) ++ (["homes"] : List Str)) ++ (["many"] : List Str)).zip (((((([] : List V) ++ ([.ref a] : List V)) ++ ([.ref lo] : List V)) ++ ([.ref tk] : List V)) ++ ([.ref hm] : List V)) ++ ([.int (n : Int)] : List V))))) x = some (.ins C dx ((((((([] : List Str) ++ (["aisle"] : List Str)) ++ (["orders"] : List Str)) ++ (["taken"] : List Str)) ++ (["homes"] : List Str)) ++ (["many"] : List Str)).zip (((((([] : List V) ++ ([.ref a] : List V)) ++ ([.ref lo] : List V)) ++ ([.ref tk] : List V)) ++ ([.ref hm] : List V)) ++ ([.int (n : Int)] : List V)))) := upd_same
    clear sm of_ttk of_tk of_thm of_hm
    have sm := sm'
    have of_ttk := of_ttk'
    have of_tk := of_tk'
    have of_thm := of_thm'
    have of_hm := of_hm'
    clear sm' of_ttk' of_tk' of_thm' of_hm'
    generalize hK4 : upd K3x x (.ins C dx ((((((([] : List Str) ++ (["aisle"] : List Str)) ++ (["orders"] : List Str)) ++ (["taken"] : List Str)) ++ (["homes"] : List Str)) ++ (["many"] : List Str)).zip (((((([] : List V) ++ ([.ref a] : List V)) ++ ([.ref lo] : List V)) ++ ([.ref tk] : List V)) ++ ([.ref hm] : List V)) ++ ([.int (n : Int)] : List V)))) = K4x at sm ox5 of_ttk of_tk of_thm of_hm
    refine ⟨_, rfl, x, C, dx, _, rfl, ox5, TT.cl, TT.nCome, zip_few (by decide), ?_⟩
    rw [zip_app (by decide +kernel) (by rfl)]
    have sm' := Same.but (o := .ins C dx (((((((([] : List Str) ++ (["aisle"] : List Str)) ++ (["orders"] : List Str)) ++ (["taken"] : List Str)) ++ (["homes"] : List Str)) ++ (["many"] : List Str)) ++ (["come"] : List Str)).zip ((((((([] : List V) ++ ([.ref a] : List V)) ++ ([.ref lo] : List V)) ++ ([.ref tk] : List V)) ++ ([.ref hm] : List V)) ++ ([.int (n : Int)] : List V)) ++ ([.int 0] : List V)))) sm x0
    have of_ttk' := (upd_ne (o := .ins C dx (((((((([] : List Str) ++ (["aisle"] : List Str)) ++ (["orders"] : List Str)) ++ (["taken"] : List Str)) ++ (["homes"] : List Str)) ++ (["many"] : List Str)) ++ (["come"] : List Str)).zip ((((((([] : List V) ++ ([.ref a] : List V)) ++ ([.ref lo] : List V)) ++ ([.ref tk] : List V)) ++ ([.ref hm] : List V)) ++ ([.int (n : Int)] : List V)) ++ ([.int 0] : List V)))) (ne_of of_ttk ox5 (by intro z; cases z))).trans of_ttk
    have of_tk' := (upd_ne (o := .ins C dx (((((((([] : List Str) ++ (["aisle"] : List Str)) ++ (["orders"] : List Str)) ++ (["taken"] : List Str)) ++ (["homes"] : List Str)) ++ (["many"] : List Str)) ++ (["come"] : List Str)).zip ((((((([] : List V) ++ ([.ref a] : List V)) ++ ([.ref lo] : List V)) ++ ([.ref tk] : List V)) ++ ([.ref hm] : List V)) ++ ([.int (n : Int)] : List V)) ++ ([.int 0] : List V)))) (ne_of of_tk ox5 (by intro z; cases z))).trans of_tk
    have of_thm' := (upd_ne (o := .ins C dx (((((((([] : List Str) ++ (["aisle"] : List Str)) ++ (["orders"] : List Str)) ++ (["taken"] : List Str)) ++ (["homes"] : List Str)) ++ (["many"] : List Str)) ++ (["come"] : List Str)).zip ((((((([] : List V) ++ ([.ref a] : List V)) ++ ([.ref lo] : List V)) ++ ([.ref tk] : List V)) ++ ([.ref hm] : List V)) ++ ([.int (n : Int)] : List V)) ++ ([.int 0] : List V)))) (ne_of of_thm ox5 (by intro z; cases z))).trans of_thm
    have of_hm' := (upd_ne (o := .ins C dx (((((((([] : List Str) ++ (["aisle"] : List Str)) ++ (["orders"] : List Str)) ++ (["taken"] : List Str)) ++ (["homes"] : List Str)) ++ (["many"] : List Str)) ++ (["come"] : List Str)).zip ((((((([] : List V) ++ ([.ref a] : List V)) ++ ([.ref lo] : List V)) ++ ([.ref tk] : List V)) ++ ([.ref hm] : List V)) ++ ([.int (n : Int)] : List V)) ++ ([.int 0] : List V)))) (ne_of of_hm ox5 (by intro z; cases z))).trans of_hm
    have ox6 : (upd K4x x (.ins C dx (((((((([] : List Str) ++ (["aisle"] : List Str)) ++ (["orders"] : List Str)) ++ (["taken"] : List Str)) ++ (["homes"] : List Str)) ++ (["many"] : List Str)) ++ (["come"] : List Str)).zip ((((((([] : List V) ++ ([.ref a] : List V)) ++ ([.ref lo] : List V)) ++ ([.ref tk] : List V)) ++ ([.ref hm] : List V)) ++ ([.int (n : Int)] : List V)) ++ ([.int 0] : List V))))) x = some (.ins C dx (((((((([] : List Str) ++ (["aisle"] : List Str)) ++ (["orders"] : List Str)) ++ (["taken"] : List Str)) ++ (["homes"] : List Str)) ++ (["many"] : List Str)) ++ (["come"] : List Str)).zip ((((((([] : List V) ++ ([.ref a] : List V)) ++ ([.ref lo] : List V)) ++ ([.ref tk] : List V)) ++ ([.ref hm] : List V)) ++ ([.int (n : Int)] : List V)) ++ ([.int 0] : List V)))) := upd_same
    clear sm of_ttk of_tk of_thm of_hm
    have sm := sm'
    have of_ttk := of_ttk'
    have of_tk := of_tk'
    have of_thm := of_thm'
    have of_hm := of_hm'
    clear sm' of_ttk' of_tk' of_thm' of_hm'
    generalize hK5 : upd K4x x (.ins C dx (((((((([] : List Str) ++ (["aisle"] : List Str)) ++ (["orders"] : List Str)) ++ (["taken"] : List Str)) ++ (["homes"] : List Str)) ++ (["many"] : List Str)) ++ (["come"] : List Str)).zip ((((((([] : List V) ++ ([.ref a] : List V)) ++ ([.ref lo] : List V)) ++ ([.ref tk] : List V)) ++ ([.ref hm] : List V)) ++ ([.int (n : Int)] : List V)) ++ ([.int 0] : List V)))) = K5x at sm ox6 of_ttk of_tk of_thm of_hm
    intro ln hln
    have sm' := Same.new (o := LO P w ln []) sm hln
    have s1 := same_new (o := LO P w ln []) hln
    have ox' := s1 _ _ ox6
    have of_ttk' := s1 _ _ of_ttk
    have of_tk' := s1 _ _ of_tk
    have of_thm' := s1 _ _ of_thm
    have of_hm' := s1 _ _ of_hm
    have of_ln : (upd K5x ln (LO P w ln [])) ln = some (LO P w ln []) := upd_same
    have nf_ln : H0 ln = none := Same.free sm hln
    have n_ttk_ln : ttk ≠ ln := fun z => by rw [z, hln] at of_ttk; cases of_ttk
    have n_tk_ln : tk ≠ ln := fun z => by rw [z, hln] at of_tk; cases of_tk
    have n_thm_ln : thm ≠ ln := fun z => by rw [z, hln] at of_thm; cases of_thm
    have n_hm_ln : hm ≠ ln := fun z => by rw [z, hln] at of_hm; cases of_hm
    clear sm ox6 s1 of_ttk of_tk of_thm of_hm
    have sm := sm'
    have ox6 := ox'
    have of_ttk := of_ttk'
    have of_tk := of_tk'
    have of_thm := of_thm'
    have of_hm := of_hm'
    clear sm' ox' of_ttk' of_tk' of_thm' of_hm'
    generalize hG5 : upd K5x ln (LO P w ln []) = H5x at sm ox6 of_ln of_ttk of_tk of_thm of_hm
    refine ⟨_, rfl, x, C, dx, _, rfl, ox6, TT.cl, TT.nLines, zip_few (by decide), ?_⟩
    rw [zip_app (by decide +kernel) (by rfl)]
    have sm' := Same.but (o := .ins C dx ((((((((([] : List Str) ++ (["aisle"] : List Str)) ++ (["orders"] : List Str)) ++ (["taken"] : List Str)) ++ (["homes"] : List Str)) ++ (["many"] : List Str)) ++ (["come"] : List Str)) ++ (["lines"] : List Str)).zip (((((((([] : List V) ++ ([.ref a] : List V)) ++ ([.ref lo] : List V)) ++ ([.ref tk] : List V)) ++ ([.ref hm] : List V)) ++ ([.int (n : Int)] : List V)) ++ ([.int 0] : List V)) ++ ([.ref ln] : List V)))) sm x0
    have of_ttk' := (upd_ne (o := .ins C dx ((((((((([] : List Str) ++ (["aisle"] : List Str)) ++ (["orders"] : List Str)) ++ (["taken"] : List Str)) ++ (["homes"] : List Str)) ++ (["many"] : List Str)) ++ (["come"] : List Str)) ++ (["lines"] : List Str)).zip (((((((([] : List V) ++ ([.ref a] : List V)) ++ ([.ref lo] : List V)) ++ ([.ref tk] : List V)) ++ ([.ref hm] : List V)) ++ ([.int (n : Int)] : List V)) ++ ([.int 0] : List V)) ++ ([.ref ln] : List V)))) (ne_of of_ttk ox6 (by intro z; cases z))).trans of_ttk
    have of_tk' := (upd_ne (o := .ins C dx ((((((((([] : List Str) ++ (["aisle"] : List Str)) ++ (["orders"] : List Str)) ++ (["taken"] : List Str)) ++ (["homes"] : List Str)) ++ (["many"] : List Str)) ++ (["come"] : List Str)) ++ (["lines"] : List Str)).zip (((((((([] : List V) ++ ([.ref a] : List V)) ++ ([.ref lo] : List V)) ++ ([.ref tk] : List V)) ++ ([.ref hm] : List V)) ++ ([.int (n : Int)] : List V)) ++ ([.int 0] : List V)) ++ ([.ref ln] : List V)))) (ne_of of_tk ox6 (by intro z; cases z))).trans of_tk
    have of_thm' := (upd_ne (o := .ins C dx ((((((((([] : List Str) ++ (["aisle"] : List Str)) ++ (["orders"] : List Str)) ++ (["taken"] : List Str)) ++ (["homes"] : List Str)) ++ (["many"] : List Str)) ++ (["come"] : List Str)) ++ (["lines"] : List Str)).zip (((((((([] : List V) ++ ([.ref a] : List V)) ++ ([.ref lo] : List V)) ++ ([.ref tk] : List V)) ++ ([.ref hm] : List V)) ++ ([.int (n : Int)] : List V)) ++ ([.int 0] : List V)) ++ ([.ref ln] : List V)))) (ne_of of_thm ox6 (by intro z; cases z))).trans of_thm
    have of_hm' := (upd_ne (o := .ins C dx ((((((((([] : List Str) ++ (["aisle"] : List Str)) ++ (["orders"] : List Str)) ++ (["taken"] : List Str)) ++ (["homes"] : List Str)) ++ (["many"] : List Str)) ++ (["come"] : List Str)) ++ (["lines"] : List Str)).zip (((((((([] : List V) ++ ([.ref a] : List V)) ++ ([.ref lo] : List V)) ++ ([.ref tk] : List V)) ++ ([.ref hm] : List V)) ++ ([.int (n : Int)] : List V)) ++ ([.int 0] : List V)) ++ ([.ref ln] : List V)))) (ne_of of_hm ox6 (by intro z; cases z))).trans of_hm
    have of_ln' := (upd_ne (o := .ins C dx ((((((((([] : List Str) ++ (["aisle"] : List Str)) ++ (["orders"] : List Str)) ++ (["taken"] : List Str)) ++ (["homes"] : List Str)) ++ (["many"] : List Str)) ++ (["come"] : List Str)) ++ (["lines"] : List Str)).zip (((((((([] : List V) ++ ([.ref a] : List V)) ++ ([.ref lo] : List V)) ++ ([.ref tk] : List V)) ++ ([.ref hm] : List V)) ++ ([.int (n : Int)] : List V)) ++ ([.int 0] : List V)) ++ ([.ref ln] : List V)))) (ne_of of_ln ox6 (by intro z; cases z))).trans of_ln
    have ox7 : (upd H5x x (.ins C dx ((((((((([] : List Str) ++ (["aisle"] : List Str)) ++ (["orders"] : List Str)) ++ (["taken"] : List Str)) ++ (["homes"] : List Str)) ++ (["many"] : List Str)) ++ (["come"] : List Str)) ++ (["lines"] : List Str)).zip (((((((([] : List V) ++ ([.ref a] : List V)) ++ ([.ref lo] : List V)) ++ ([.ref tk] : List V)) ++ ([.ref hm] : List V)) ++ ([.int (n : Int)] : List V)) ++ ([.int 0] : List V)) ++ ([.ref ln] : List V))))) x = some (.ins C dx ((((((((([] : List Str) ++ (["aisle"] : List Str)) ++ (["orders"] : List Str)) ++ (["taken"] : List Str)) ++ (["homes"] : List Str)) ++ (["many"] : List Str)) ++ (["come"] : List Str)) ++ (["lines"] : List Str)).zip (((((((([] : List V) ++ ([.ref a] : List V)) ++ ([.ref lo] : List V)) ++ ([.ref tk] : List V)) ++ ([.ref hm] : List V)) ++ ([.int (n : Int)] : List V)) ++ ([.int 0] : List V)) ++ ([.ref ln] : List V)))) := upd_same
    clear sm of_ttk of_tk of_thm of_hm of_ln
    have sm := sm'
    have of_ttk := of_ttk'
    have of_tk := of_tk'
    have of_thm := of_thm'
    have of_hm := of_hm'
    have of_ln := of_ln'
    clear sm' of_ttk' of_tk' of_thm' of_hm' of_ln'
    generalize hK6 : upd H5x x (.ins C dx ((((((((([] : List Str) ++ (["aisle"] : List Str)) ++ (["orders"] : List Str)) ++ (["taken"] : List Str)) ++ (["homes"] : List Str)) ++ (["many"] : List Str)) ++ (["come"] : List Str)) ++ (["lines"] : List Str)).zip (((((((([] : List V) ++ ([.ref a] : List V)) ++ ([.ref lo] : List V)) ++ ([.ref tk] : List V)) ++ ([.ref hm] : List V)) ++ ([.int (n : Int)] : List V)) ++ ([.int 0] : List V)) ++ ([.ref ln] : List V)))) = K6x at sm ox7 of_ttk of_tk of_thm of_hm of_ln
    refine ⟨_, rfl, x, C, dx, _, rfl, ox7, TT.cl, TT.nQueued, zip_few (by decide), ?_⟩
    rw [zip_app (by decide +kernel) (by rfl)]
    have sm' := Same.but (o := .ins C dx (((((((((([] : List Str) ++ (["aisle"] : List Str)) ++ (["orders"] : List Str)) ++ (["taken"] : List Str)) ++ (["homes"] : List Str)) ++ (["many"] : List Str)) ++ (["come"] : List Str)) ++ (["lines"] : List Str)) ++ (["queued"] : List Str)).zip ((((((((([] : List V) ++ ([.ref a] : List V)) ++ ([.ref lo] : List V)) ++ ([.ref tk] : List V)) ++ ([.ref hm] : List V)) ++ ([.int (n : Int)] : List V)) ++ ([.int 0] : List V)) ++ ([.ref ln] : List V)) ++ ([.int 0] : List V)))) sm x0
    have of_ttk' := (upd_ne (o := .ins C dx (((((((((([] : List Str) ++ (["aisle"] : List Str)) ++ (["orders"] : List Str)) ++ (["taken"] : List Str)) ++ (["homes"] : List Str)) ++ (["many"] : List Str)) ++ (["come"] : List Str)) ++ (["lines"] : List Str)) ++ (["queued"] : List Str)).zip ((((((((([] : List V) ++ ([.ref a] : List V)) ++ ([.ref lo] : List V)) ++ ([.ref tk] : List V)) ++ ([.ref hm] : List V)) ++ ([.int (n : Int)] : List V)) ++ ([.int 0] : List V)) ++ ([.ref ln] : List V)) ++ ([.int 0] : List V)))) (ne_of of_ttk ox7 (by intro z; cases z))).trans of_ttk
    have of_tk' := (upd_ne (o := .ins C dx (((((((((([] : List Str) ++ (["aisle"] : List Str)) ++ (["orders"] : List Str)) ++ (["taken"] : List Str)) ++ (["homes"] : List Str)) ++ (["many"] : List Str)) ++ (["come"] : List Str)) ++ (["lines"] : List Str)) ++ (["queued"] : List Str)).zip ((((((((([] : List V) ++ ([.ref a] : List V)) ++ ([.ref lo] : List V)) ++ ([.ref tk] : List V)) ++ ([.ref hm] : List V)) ++ ([.int (n : Int)] : List V)) ++ ([.int 0] : List V)) ++ ([.ref ln] : List V)) ++ ([.int 0] : List V)))) (ne_of of_tk ox7 (by intro z; cases z))).trans of_tk
    have of_thm' := (upd_ne (o := .ins C dx (((((((((([] : List Str) ++ (["aisle"] : List Str)) ++ (["orders"] : List Str)) ++ (["taken"] : List Str)) ++ (["homes"] : List Str)) ++ (["many"] : List Str)) ++ (["come"] : List Str)) ++ (["lines"] : List Str)) ++ (["queued"] : List Str)).zip ((((((((([] : List V) ++ ([.ref a] : List V)) ++ ([.ref lo] : List V)) ++ ([.ref tk] : List V)) ++ ([.ref hm] : List V)) ++ ([.int (n : Int)] : List V)) ++ ([.int 0] : List V)) ++ ([.ref ln] : List V)) ++ ([.int 0] : List V)))) (ne_of of_thm ox7 (by intro z; cases z))).trans of_thm
    have of_hm' := (upd_ne (o := .ins C dx (((((((((([] : List Str) ++ (["aisle"] : List Str)) ++ (["orders"] : List Str)) ++ (["taken"] : List Str)) ++ (["homes"] : List Str)) ++ (["many"] : List Str)) ++ (["come"] : List Str)) ++ (["lines"] : List Str)) ++ (["queued"] : List Str)).zip ((((((((([] : List V) ++ ([.ref a] : List V)) ++ ([.ref lo] : List V)) ++ ([.ref tk] : List V)) ++ ([.ref hm] : List V)) ++ ([.int (n : Int)] : List V)) ++ ([.int 0] : List V)) ++ ([.ref ln] : List V)) ++ ([.int 0] : List V)))) (ne_of of_hm ox7 (by intro z; cases z))).trans of_hm
    have of_ln' := (upd_ne (o := .ins C dx (((((((((([] : List Str) ++ (["aisle"] : List Str)) ++ (["orders"] : List Str)) ++ (["taken"] : List Str)) ++ (["homes"] : List Str)) ++ (["many"] : List Str)) ++ (["come"] : List Str)) ++ (["lines"] : List Str)) ++ (["queued"] : List Str)).zip ((((((((([] : List V) ++ ([.ref a] : List V)) ++ ([.ref lo] : List V)) ++ ([.ref tk] : List V)) ++ ([.ref hm] : List V)) ++ ([.int (n : Int)] : List V)) ++ ([.int 0] : List V)) ++ ([.ref ln] : List V)) ++ ([.int 0] : List V)))) (ne_of of_ln ox7 (by intro z; cases z))).trans of_ln
    have ox8 : (upd K6x x (.ins C dx (((((((((([] : List Str) ++ (["aisle"] : List Str)) ++ (["orders"] : List Str)) ++ (["taken"] : List Str)) ++ (["homes"] : List Str)) ++ (["many"] : List Str)) ++ (["come"] : List Str)) ++ (["lines"] : List Str)) ++ (["queued"] : List Str)).zip ((((((((([] : List V) ++ ([.ref a] : List V)) ++ ([.ref lo] : List V)) ++ ([.ref tk] : List V)) ++ ([.ref hm] : List V)) ++ ([.int (n : Int)] : List V)) ++ ([.int 0] : List V)) ++ ([.ref ln] : List V)) ++ ([.int 0] : List V))))) x = some (.ins C dx (((((((((([] : List Str) ++ (["aisle"] : List Str)) ++ (["orders"] : List Str)) ++ (["taken"] : List Str)) ++ (["homes"] : List Str)) ++ (["many"] : List Str)) ++ (["come"] : List Str)) ++ (["lines"] : List Str)) ++ (["queued"] : List Str)).zip ((((((((([] : List V) ++ ([.ref a] : List V)) ++ ([.ref lo] : List V)) ++ ([.ref tk] : List V)) ++ ([.ref hm] : List V)) ++ ([.int (n : Int)] : List V)) ++ ([.int 0] : List V)) ++ ([.ref ln] : List V)) ++ ([.int 0] : List V)))) := upd_same
    clear sm of_ttk of_tk of_thm of_hm of_ln
    have sm := sm'
    have of_ttk := of_ttk'
    have of_tk := of_tk'
    have of_thm := of_thm'
    have of_hm := of_hm'
    have of_ln := of_ln'
    clear sm' of_ttk' of_tk' of_thm' of_hm' of_ln'
    generalize hK7 : upd K6x x (.ins C dx (((((((((([] : List Str) ++ (["aisle"] : List Str)) ++ (["orders"] : List Str)) ++ (["taken"] : List Str)) ++ (["homes"] : List Str)) ++ (["many"] : List Str)) ++ (["come"] : List Str)) ++ (["lines"] : List Str)) ++ (["queued"] : List Str)).zip ((((((((([] : List V) ++ ([.ref a] : List V)) ++ ([.ref lo] : List V)) ++ ([.ref tk] : List V)) ++ ([.ref hm] : List V)) ++ ([.int (n : Int)] : List V)) ++ ([.int 0] : List V)) ++ ([.ref ln] : List V)) ++ ([.int 0] : List V)))) = K7x at sm ox8 of_ttk of_tk of_thm of_hm of_ln
    refine ⟨Nat.zero_le _, fun rd hrd => ?_⟩
    have sm' := Same.new (o := .lst []) sm hrd
    have s1 := same_new (o := .lst []) hrd
    have ox' := s1 _ _ ox8
    have of_ttk' := s1 _ _ of_ttk
    have of_tk' := s1 _ _ of_tk
    have of_thm' := s1 _ _ of_thm
    have of_hm' := s1 _ _ of_hm
    have of_ln' := s1 _ _ of_ln
    have of_rd : (upd K7x rd (.lst [])) rd = some (.lst []) := upd_same
    have nf_rd : H0 rd = none := Same.free sm hrd
    have n_ttk_rd : ttk ≠ rd := fun z => by rw [z, hrd] at of_ttk; cases of_ttk
    have n_tk_rd : tk ≠ rd := fun z => by rw [z, hrd] at of_tk; cases of_tk
    have n_thm_rd : thm ≠ rd := fun z => by rw [z, hrd] at of_thm; cases of_thm
    have n_hm_rd : hm ≠ rd := fun z => by rw [z, hrd] at of_hm; cases of_hm
    have n_ln_rd : ln ≠ rd := fun z => by rw [z, hrd] at of_ln; cases of_ln
    clear sm ox8 s1 of_ttk of_tk of_thm of_hm of_ln
    have sm := sm'
    have ox8 := ox'
    have of_ttk := of_ttk'
    have of_tk := of_tk'
    have of_thm := of_thm'
    have of_hm := of_hm'
    have of_ln := of_ln'
    clear sm' ox' of_ttk' of_tk' of_thm' of_hm' of_ln'
    generalize hG6 : upd K7x rd (.lst []) = H6x at sm ox8 of_rd of_ttk of_tk of_thm of_hm of_ln
    refine ⟨_, rfl, x, C, dx, _, rfl, ox8, TT.cl, TT.nRiding, zip_few (by decide), ?_⟩
    rw [zip_app (by decide +kernel) (by rfl)]
    have sm' := Same.but (o := .ins C dx ((((((((((([] : List Str) ++ (["aisle"] : List Str)) ++ (["orders"] : List Str)) ++ (["taken"] : List Str)) ++ (["homes"] : List Str)) ++ (["many"] : List Str)) ++ (["come"] : List Str)) ++ (["lines"] : List Str)) ++ (["queued"] : List Str)) ++ (["riding"] : List Str)).zip (((((((((([] : List V) ++ ([.ref a] : List V)) ++ ([.ref lo] : List V)) ++ ([.ref tk] : List V)) ++ ([.ref hm] : List V)) ++ ([.int (n : Int)] : List V)) ++ ([.int 0] : List V)) ++ ([.ref ln] : List V)) ++ ([.int 0] : List V)) ++ ([.ref rd] : List V)))) sm x0
    have of_ttk' := (upd_ne (o := .ins C dx ((((((((((([] : List Str) ++ (["aisle"] : List Str)) ++ (["orders"] : List Str)) ++ (["taken"] : List Str)) ++ (["homes"] : List Str)) ++ (["many"] : List Str)) ++ (["come"] : List Str)) ++ (["lines"] : List Str)) ++ (["queued"] : List Str)) ++ (["riding"] : List Str)).zip (((((((((([] : List V) ++ ([.ref a] : List V)) ++ ([.ref lo] : List V)) ++ ([.ref tk] : List V)) ++ ([.ref hm] : List V)) ++ ([.int (n : Int)] : List V)) ++ ([.int 0] : List V)) ++ ([.ref ln] : List V)) ++ ([.int 0] : List V)) ++ ([.ref rd] : List V)))) (ne_of of_ttk ox8 (by intro z; cases z))).trans of_ttk
    have of_tk' := (upd_ne (o := .ins C dx ((((((((((([] : List Str) ++ (["aisle"] : List Str)) ++ (["orders"] : List Str)) ++ (["taken"] : List Str)) ++ (["homes"] : List Str)) ++ (["many"] : List Str)) ++ (["come"] : List Str)) ++ (["lines"] : List Str)) ++ (["queued"] : List Str)) ++ (["riding"] : List Str)).zip (((((((((([] : List V) ++ ([.ref a] : List V)) ++ ([.ref lo] : List V)) ++ ([.ref tk] : List V)) ++ ([.ref hm] : List V)) ++ ([.int (n : Int)] : List V)) ++ ([.int 0] : List V)) ++ ([.ref ln] : List V)) ++ ([.int 0] : List V)) ++ ([.ref rd] : List V)))) (ne_of of_tk ox8 (by intro z; cases z))).trans of_tk
    have of_thm' := (upd_ne (o := .ins C dx ((((((((((([] : List Str) ++ (["aisle"] : List Str)) ++ (["orders"] : List Str)) ++ (["taken"] : List Str)) ++ (["homes"] : List Str)) ++ (["many"] : List Str)) ++ (["come"] : List Str)) ++ (["lines"] : List Str)) ++ (["queued"] : List Str)) ++ (["riding"] : List Str)).zip (((((((((([] : List V) ++ ([.ref a] : List V)) ++ ([.ref lo] : List V)) ++ ([.ref tk] : List V)) ++ ([.ref hm] : List V)) ++ ([.int (n : Int)] : List V)) ++ ([.int 0] : List V)) ++ ([.ref ln] : List V)) ++ ([.int 0] : List V)) ++ ([.ref rd] : List V)))) (ne_of of_thm ox8 (by intro z; cases z))).trans of_thm
    have of_hm' := (upd_ne (o := .ins C dx ((((((((((([] : List Str) ++ (["aisle"] : List Str)) ++ (["orders"] : List Str)) ++ (["taken"] : List Str)) ++ (["homes"] : List Str)) ++ (["many"] : List Str)) ++ (["come"] : List Str)) ++ (["lines"] : List Str)) ++ (["queued"] : List Str)) ++ (["riding"] : List Str)).zip (((((((((([] : List V) ++ ([.ref a] : List V)) ++ ([.ref lo] : List V)) ++ ([.ref tk] : List V)) ++ ([.ref hm] : List V)) ++ ([.int (n : Int)] : List V)) ++ ([.int 0] : List V)) ++ ([.ref ln] : List V)) ++ ([.int 0] : List V)) ++ ([.ref rd] : List V)))) (ne_of of_hm ox8 (by intro z; cases z))).trans of_hm
    have of_ln' := (upd_ne (o := .ins C dx ((((((((((([] : List Str) ++ (["aisle"] : List Str)) ++ (["orders"] : List Str)) ++ (["taken"] : List Str)) ++ (["homes"] : List Str)) ++ (["many"] : List Str)) ++ (["come"] : List Str)) ++ (["lines"] : List Str)) ++ (["queued"] : List Str)) ++ (["riding"] : List Str)).zip (((((((((([] : List V) ++ ([.ref a] : List V)) ++ ([.ref lo] : List V)) ++ ([.ref tk] : List V)) ++ ([.ref hm] : List V)) ++ ([.int (n : Int)] : List V)) ++ ([.int 0] : List V)) ++ ([.ref ln] : List V)) ++ ([.int 0] : List V)) ++ ([.ref rd] : List V)))) (ne_of of_ln ox8 (by intro z; cases z))).trans of_ln
    have of_rd' := (upd_ne (o := .ins C dx ((((((((((([] : List Str) ++ (["aisle"] : List Str)) ++ (["orders"] : List Str)) ++ (["taken"] : List Str)) ++ (["homes"] : List Str)) ++ (["many"] : List Str)) ++ (["come"] : List Str)) ++ (["lines"] : List Str)) ++ (["queued"] : List Str)) ++ (["riding"] : List Str)).zip (((((((((([] : List V) ++ ([.ref a] : List V)) ++ ([.ref lo] : List V)) ++ ([.ref tk] : List V)) ++ ([.ref hm] : List V)) ++ ([.int (n : Int)] : List V)) ++ ([.int 0] : List V)) ++ ([.ref ln] : List V)) ++ ([.int 0] : List V)) ++ ([.ref rd] : List V)))) (ne_of of_rd ox8 (by intro z; cases z))).trans of_rd
    have ox9 : (upd H6x x (.ins C dx ((((((((((([] : List Str) ++ (["aisle"] : List Str)) ++ (["orders"] : List Str)) ++ (["taken"] : List Str)) ++ (["homes"] : List Str)) ++ (["many"] : List Str)) ++ (["come"] : List Str)) ++ (["lines"] : List Str)) ++ (["queued"] : List Str)) ++ (["riding"] : List Str)).zip (((((((((([] : List V) ++ ([.ref a] : List V)) ++ ([.ref lo] : List V)) ++ ([.ref tk] : List V)) ++ ([.ref hm] : List V)) ++ ([.int (n : Int)] : List V)) ++ ([.int 0] : List V)) ++ ([.ref ln] : List V)) ++ ([.int 0] : List V)) ++ ([.ref rd] : List V))))) x = some (.ins C dx ((((((((((([] : List Str) ++ (["aisle"] : List Str)) ++ (["orders"] : List Str)) ++ (["taken"] : List Str)) ++ (["homes"] : List Str)) ++ (["many"] : List Str)) ++ (["come"] : List Str)) ++ (["lines"] : List Str)) ++ (["queued"] : List Str)) ++ (["riding"] : List Str)).zip (((((((((([] : List V) ++ ([.ref a] : List V)) ++ ([.ref lo] : List V)) ++ ([.ref tk] : List V)) ++ ([.ref hm] : List V)) ++ ([.int (n : Int)] : List V)) ++ ([.int 0] : List V)) ++ ([.ref ln] : List V)) ++ ([.int 0] : List V)) ++ ([.ref rd] : List V)))) := upd_same
    clear sm of_ttk of_tk of_thm of_hm of_ln of_rd
    have sm := sm'
    have of_ttk := of_ttk'
    have of_tk := of_tk'
    have of_thm := of_thm'
    have of_hm := of_hm'
    have of_ln := of_ln'
    have of_rd := of_rd'
    clear sm' of_ttk' of_tk' of_thm' of_hm' of_ln' of_rd'
    generalize hK8 : upd H6x x (.ins C dx ((((((((((([] : List Str) ++ (["aisle"] : List Str)) ++ (["orders"] : List Str)) ++ (["taken"] : List Str)) ++ (["homes"] : List Str)) ++ (["many"] : List Str)) ++ (["come"] : List Str)) ++ (["lines"] : List Str)) ++ (["queued"] : List Str)) ++ (["riding"] : List Str)).zip (((((((((([] : List V) ++ ([.ref a] : List V)) ++ ([.ref lo] : List V)) ++ ([.ref tk] : List V)) ++ ([.ref hm] : List V)) ++ ([.int (n : Int)] : List V)) ++ ([.int 0] : List V)) ++ ([.ref ln] : List V)) ++ ([.int 0] : List V)) ++ ([.ref rd] : List V)))) = K8x at sm ox9 of_ttk of_tk of_thm of_hm of_ln of_rd
    refine ⟨_, rfl, x, C, dx, _, rfl, ox9, TT.cl, TT.nTick, zip_few (by decide), ?_⟩
    rw [zip_app (by decide +kernel) (by rfl)]
    have sm' := Same.but (o := .ins C dx (((((((((((([] : List Str) ++ (["aisle"] : List Str)) ++ (["orders"] : List Str)) ++ (["taken"] : List Str)) ++ (["homes"] : List Str)) ++ (["many"] : List Str)) ++ (["come"] : List Str)) ++ (["lines"] : List Str)) ++ (["queued"] : List Str)) ++ (["riding"] : List Str)) ++ (["tick"] : List Str)).zip ((((((((((([] : List V) ++ ([.ref a] : List V)) ++ ([.ref lo] : List V)) ++ ([.ref tk] : List V)) ++ ([.ref hm] : List V)) ++ ([.int (n : Int)] : List V)) ++ ([.int 0] : List V)) ++ ([.ref ln] : List V)) ++ ([.int 0] : List V)) ++ ([.ref rd] : List V)) ++ ([.int 0] : List V)))) sm x0
    have of_ttk' := (upd_ne (o := .ins C dx (((((((((((([] : List Str) ++ (["aisle"] : List Str)) ++ (["orders"] : List Str)) ++ (["taken"] : List Str)) ++ (["homes"] : List Str)) ++ (["many"] : List Str)) ++ (["come"] : List Str)) ++ (["lines"] : List Str)) ++ (["queued"] : List Str)) ++ (["riding"] : List Str)) ++ (["tick"] : List Str)).zip ((((((((((([] : List V) ++ ([.ref a] : List V)) ++ ([.ref lo] : List V)) ++ ([.ref tk] : List V)) ++ ([.ref hm] : List V)) ++ ([.int (n : Int)] : List V)) ++ ([.int 0] : List V)) ++ ([.ref ln] : List V)) ++ ([.int 0] : List V)) ++ ([.ref rd] : List V)) ++ ([.int 0] : List V)))) (ne_of of_ttk ox9 (by intro z; cases z))).trans of_ttk
    have of_tk' := (upd_ne (o := .ins C dx (((((((((((([] : List Str) ++ (["aisle"] : List Str)) ++ (["orders"] : List Str)) ++ (["taken"] : List Str)) ++ (["homes"] : List Str)) ++ (["many"] : List Str)) ++ (["come"] : List Str)) ++ (["lines"] : List Str)) ++ (["queued"] : List Str)) ++ (["riding"] : List Str)) ++ (["tick"] : List Str)).zip ((((((((((([] : List V) ++ ([.ref a] : List V)) ++ ([.ref lo] : List V)) ++ ([.ref tk] : List V)) ++ ([.ref hm] : List V)) ++ ([.int (n : Int)] : List V)) ++ ([.int 0] : List V)) ++ ([.ref ln] : List V)) ++ ([.int 0] : List V)) ++ ([.ref rd] : List V)) ++ ([.int 0] : List V)))) (ne_of of_tk ox9 (by intro z; cases z))).trans of_tk
    have of_thm' := (upd_ne (o := .ins C dx (((((((((((([] : List Str) ++ (["aisle"] : List Str)) ++ (["orders"] : List Str)) ++ (["taken"] : List Str)) ++ (["homes"] : List Str)) ++ (["many"] : List Str)) ++ (["come"] : List Str)) ++ (["lines"] : List Str)) ++ (["queued"] : List Str)) ++ (["riding"] : List Str)) ++ (["tick"] : List Str)).zip ((((((((((([] : List V) ++ ([.ref a] : List V)) ++ ([.ref lo] : List V)) ++ ([.ref tk] : List V)) ++ ([.ref hm] : List V)) ++ ([.int (n : Int)] : List V)) ++ ([.int 0] : List V)) ++ ([.ref ln] : List V)) ++ ([.int 0] : List V)) ++ ([.ref rd] : List V)) ++ ([.int 0] : List V)))) (ne_of of_thm ox9 (by intro z; cases z))).trans of_thm
    have of_hm' := (upd_ne (o := .ins C dx (((((((((((([] : List Str) ++ (["aisle"] : List Str)) ++ (["orders"] : List Str)) ++ (["taken"] : List Str)) ++ (["homes"] : List Str)) ++ (["many"] : List Str)) ++ (["come"] : List Str)) ++ (["lines"] : List Str)) ++ (["queued"] : List Str)) ++ (["riding"] : List Str)) ++ (["tick"] : List Str)).zip ((((((((((([] : List V) ++ ([.ref a] : List V)) ++ ([.ref lo] : List V)) ++ ([.ref tk] : List V)) ++ ([.ref hm] : List V)) ++ ([.int (n : Int)] : List V)) ++ ([.int 0] : List V)) ++ ([.ref ln] : List V)) ++ ([.int 0] : List V)) ++ ([.ref rd] : List V)) ++ ([.int 0] : List V)))) (ne_of of_hm ox9 (by intro z; cases z))).trans of_hm
    have of_ln' := (upd_ne (o := .ins C dx (((((((((((([] : List Str) ++ (["aisle"] : List Str)) ++ (["orders"] : List Str)) ++ (["taken"] : List Str)) ++ (["homes"] : List Str)) ++ (["many"] : List Str)) ++ (["come"] : List Str)) ++ (["lines"] : List Str)) ++ (["queued"] : List Str)) ++ (["riding"] : List Str)) ++ (["tick"] : List Str)).zip ((((((((((([] : List V) ++ ([.ref a] : List V)) ++ ([.ref lo] : List V)) ++ ([.ref tk] : List V)) ++ ([.ref hm] : List V)) ++ ([.int (n : Int)] : List V)) ++ ([.int 0] : List V)) ++ ([.ref ln] : List V)) ++ ([.int 0] : List V)) ++ ([.ref rd] : List V)) ++ ([.int 0] : List V)))) (ne_of of_ln ox9 (by intro z; cases z))).trans of_ln
    have of_rd' := (upd_ne (o := .ins C dx (((((((((((([] : List Str) ++ (["aisle"] : List Str)) ++ (["orders"] : List Str)) ++ (["taken"] : List Str)) ++ (["homes"] : List Str)) ++ (["many"] : List Str)) ++ (["come"] : List Str)) ++ (["lines"] : List Str)) ++ (["queued"] : List Str)) ++ (["riding"] : List Str)) ++ (["tick"] : List Str)).zip ((((((((((([] : List V) ++ ([.ref a] : List V)) ++ ([.ref lo] : List V)) ++ ([.ref tk] : List V)) ++ ([.ref hm] : List V)) ++ ([.int (n : Int)] : List V)) ++ ([.int 0] : List V)) ++ ([.ref ln] : List V)) ++ ([.int 0] : List V)) ++ ([.ref rd] : List V)) ++ ([.int 0] : List V)))) (ne_of of_rd ox9 (by intro z; cases z))).trans of_rd
    have ox10 : (upd K8x x (.ins C dx (((((((((((([] : List Str) ++ (["aisle"] : List Str)) ++ (["orders"] : List Str)) ++ (["taken"] : List Str)) ++ (["homes"] : List Str)) ++ (["many"] : List Str)) ++ (["come"] : List Str)) ++ (["lines"] : List Str)) ++ (["queued"] : List Str)) ++ (["riding"] : List Str)) ++ (["tick"] : List Str)).zip ((((((((((([] : List V) ++ ([.ref a] : List V)) ++ ([.ref lo] : List V)) ++ ([.ref tk] : List V)) ++ ([.ref hm] : List V)) ++ ([.int (n : Int)] : List V)) ++ ([.int 0] : List V)) ++ ([.ref ln] : List V)) ++ ([.int 0] : List V)) ++ ([.ref rd] : List V)) ++ ([.int 0] : List V))))) x = some (.ins C dx (((((((((((([] : List Str) ++ (["aisle"] : List Str)) ++ (["orders"] : List Str)) ++ (["taken"] : List Str)) ++ (["homes"] : List Str)) ++ (["many"] : List Str)) ++ (["come"] : List Str)) ++ (["lines"] : List Str)) ++ (["queued"] : List Str)) ++ (["riding"] : List Str)) ++ (["tick"] : List Str)).zip ((((((((((([] : List V) ++ ([.ref a] : List V)) ++ ([.ref lo] : List V)) ++ ([.ref tk] : List V)) ++ ([.ref hm] : List V)) ++ ([.int (n : Int)] : List V)) ++ ([.int 0] : List V)) ++ ([.ref ln] : List V)) ++ ([.int 0] : List V)) ++ ([.ref rd] : List V)) ++ ([.int 0] : List V)))) := upd_same
    clear sm of_ttk of_tk of_thm of_hm of_ln of_rd
    have sm := sm'
    have of_ttk := of_ttk'
    have of_tk := of_tk'
    have of_thm := of_thm'
    have of_hm := of_hm'
    have of_ln := of_ln'
    have of_rd := of_rd'
    clear sm' of_ttk' of_tk' of_thm' of_hm' of_ln' of_rd'
    generalize hK9 : upd K8x x (.ins C dx (((((((((((([] : List Str) ++ (["aisle"] : List Str)) ++ (["orders"] : List Str)) ++ (["taken"] : List Str)) ++ (["homes"] : List Str)) ++ (["many"] : List Str)) ++ (["come"] : List Str)) ++ (["lines"] : List Str)) ++ (["queued"] : List Str)) ++ (["riding"] : List Str)) ++ (["tick"] : List Str)).zip ((((((((((([] : List V) ++ ([.ref a] : List V)) ++ ([.ref lo] : List V)) ++ ([.ref tk] : List V)) ++ ([.ref hm] : List V)) ++ ([.int (n : Int)] : List V)) ++ ([.int 0] : List V)) ++ ([.ref ln] : List V)) ++ ([.int 0] : List V)) ++ ([.ref rd] : List V)) ++ ([.int 0] : List V)))) = K9x at sm ox10 of_ttk of_tk of_thm of_hm of_ln of_rd
    refine ⟨_, rfl, x, C, dx, _, rfl, ox10, TT.cl, TT.nBay, zip_few (by decide), ?_⟩
    rw [zip_app (by decide +kernel) (by rfl)]
    have sm' := Same.but (o := .ins C dx ((((((((((((([] : List Str) ++ (["aisle"] : List Str)) ++ (["orders"] : List Str)) ++ (["taken"] : List Str)) ++ (["homes"] : List Str)) ++ (["many"] : List Str)) ++ (["come"] : List Str)) ++ (["lines"] : List Str)) ++ (["queued"] : List Str)) ++ (["riding"] : List Str)) ++ (["tick"] : List Str)) ++ (["bay"] : List Str)).zip (((((((((((([] : List V) ++ ([.ref a] : List V)) ++ ([.ref lo] : List V)) ++ ([.ref tk] : List V)) ++ ([.ref hm] : List V)) ++ ([.int (n : Int)] : List V)) ++ ([.int 0] : List V)) ++ ([.ref ln] : List V)) ++ ([.int 0] : List V)) ++ ([.ref rd] : List V)) ++ ([.int 0] : List V)) ++ ([.int 0] : List V)))) sm x0
    have of_ttk' := (upd_ne (o := .ins C dx ((((((((((((([] : List Str) ++ (["aisle"] : List Str)) ++ (["orders"] : List Str)) ++ (["taken"] : List Str)) ++ (["homes"] : List Str)) ++ (["many"] : List Str)) ++ (["come"] : List Str)) ++ (["lines"] : List Str)) ++ (["queued"] : List Str)) ++ (["riding"] : List Str)) ++ (["tick"] : List Str)) ++ (["bay"] : List Str)).zip (((((((((((([] : List V) ++ ([.ref a] : List V)) ++ ([.ref lo] : List V)) ++ ([.ref tk] : List V)) ++ ([.ref hm] : List V)) ++ ([.int (n : Int)] : List V)) ++ ([.int 0] : List V)) ++ ([.ref ln] : List V)) ++ ([.int 0] : List V)) ++ ([.ref rd] : List V)) ++ ([.int 0] : List V)) ++ ([.int 0] : List V)))) (ne_of of_ttk ox10 (by intro z; cases z))).trans of_ttk
    have of_tk' := (upd_ne (o := .ins C dx ((((((((((((([] : List Str) ++ (["aisle"] : List Str)) ++ (["orders"] : List Str)) ++ (["taken"] : List Str)) ++ (["homes"] : List Str)) ++ (["many"] : List Str)) ++ (["come"] : List Str)) ++ (["lines"] : List Str)) ++ (["queued"] : List Str)) ++ (["riding"] : List Str)) ++ (["tick"] : List Str)) ++ (["bay"] : List Str)).zip (((((((((((([] : List V) ++ ([.ref a] : List V)) ++ ([.ref lo] : List V)) ++ ([.ref tk] : List V)) ++ ([.ref hm] : List V)) ++ ([.int (n : Int)] : List V)) ++ ([.int 0] : List V)) ++ ([.ref ln] : List V)) ++ ([.int 0] : List V)) ++ ([.ref rd] : List V)) ++ ([.int 0] : List V)) ++ ([.int 0] : List V)))) (ne_of of_tk ox10 (by intro z; cases z))).trans of_tk
    have of_thm' := (upd_ne (o := .ins C dx ((((((((((((([] : List Str) ++ (["aisle"] : List Str)) ++ (["orders"] : List Str)) ++ (["taken"] : List Str)) ++ (["homes"] : List Str)) ++ (["many"] : List Str)) ++ (["come"] : List Str)) ++ (["lines"] : List Str)) ++ (["queued"] : List Str)) ++ (["riding"] : List Str)) ++ (["tick"] : List Str)) ++ (["bay"] : List Str)).zip (((((((((((([] : List V) ++ ([.ref a] : List V)) ++ ([.ref lo] : List V)) ++ ([.ref tk] : List V)) ++ ([.ref hm] : List V)) ++ ([.int (n : Int)] : List V)) ++ ([.int 0] : List V)) ++ ([.ref ln] : List V)) ++ ([.int 0] : List V)) ++ ([.ref rd] : List V)) ++ ([.int 0] : List V)) ++ ([.int 0] : List V)))) (ne_of of_thm ox10 (by intro z; cases z))).trans of_thm
    have of_hm' := (upd_ne (o := .ins C dx ((((((((((((([] : List Str) ++ (["aisle"] : List Str)) ++ (["orders"] : List Str)) ++ (["taken"] : List Str)) ++ (["homes"] : List Str)) ++ (["many"] : List Str)) ++ (["come"] : List Str)) ++ (["lines"] : List Str)) ++ (["queued"] : List Str)) ++ (["riding"] : List Str)) ++ (["tick"] : List Str)) ++ (["bay"] : List Str)).zip (((((((((((([] : List V) ++ ([.ref a] : List V)) ++ ([.ref lo] : List V)) ++ ([.ref tk] : List V)) ++ ([.ref hm] : List V)) ++ ([.int (n : Int)] : List V)) ++ ([.int 0] : List V)) ++ ([.ref ln] : List V)) ++ ([.int 0] : List V)) ++ ([.ref rd] : List V)) ++ ([.int 0] : List V)) ++ ([.int 0] : List V)))) (ne_of of_hm ox10 (by intro z; cases z))).trans of_hm
    have of_ln' := (upd_ne (o := .ins C dx ((((((((((((([] : List Str) ++ (["aisle"] : List Str)) ++ (["orders"] : List Str)) ++ (["taken"] : List Str)) ++ (["homes"] : List Str)) ++ (["many"] : List Str)) ++ (["come"] : List Str)) ++ (["lines"] : List Str)) ++ (["queued"] : List Str)) ++ (["riding"] : List Str)) ++ (["tick"] : List Str)) ++ (["bay"] : List Str)).zip (((((((((((([] : List V) ++ ([.ref a] : List V)) ++ ([.ref lo] : List V)) ++ ([.ref tk] : List V)) ++ ([.ref hm] : List V)) ++ ([.int (n : Int)] : List V)) ++ ([.int 0] : List V)) ++ ([.ref ln] : List V)) ++ ([.int 0] : List V)) ++ ([.ref rd] : List V)) ++ ([.int 0] : List V)) ++ ([.int 0] : List V)))) (ne_of of_ln ox10 (by intro z; cases z))).trans of_ln
    have of_rd' := (upd_ne (o := .ins C dx ((((((((((((([] : List Str) ++ (["aisle"] : List Str)) ++ (["orders"] : List Str)) ++ (["taken"] : List Str)) ++ (["homes"] : List Str)) ++ (["many"] : List Str)) ++ (["come"] : List Str)) ++ (["lines"] : List Str)) ++ (["queued"] : List Str)) ++ (["riding"] : List Str)) ++ (["tick"] : List Str)) ++ (["bay"] : List Str)).zip (((((((((((([] : List V) ++ ([.ref a] : List V)) ++ ([.ref lo] : List V)) ++ ([.ref tk] : List V)) ++ ([.ref hm] : List V)) ++ ([.int (n : Int)] : List V)) ++ ([.int 0] : List V)) ++ ([.ref ln] : List V)) ++ ([.int 0] : List V)) ++ ([.ref rd] : List V)) ++ ([.int 0] : List V)) ++ ([.int 0] : List V)))) (ne_of of_rd ox10 (by intro z; cases z))).trans of_rd
    have ox11 : (upd K9x x (.ins C dx ((((((((((((([] : List Str) ++ (["aisle"] : List Str)) ++ (["orders"] : List Str)) ++ (["taken"] : List Str)) ++ (["homes"] : List Str)) ++ (["many"] : List Str)) ++ (["come"] : List Str)) ++ (["lines"] : List Str)) ++ (["queued"] : List Str)) ++ (["riding"] : List Str)) ++ (["tick"] : List Str)) ++ (["bay"] : List Str)).zip (((((((((((([] : List V) ++ ([.ref a] : List V)) ++ ([.ref lo] : List V)) ++ ([.ref tk] : List V)) ++ ([.ref hm] : List V)) ++ ([.int (n : Int)] : List V)) ++ ([.int 0] : List V)) ++ ([.ref ln] : List V)) ++ ([.int 0] : List V)) ++ ([.ref rd] : List V)) ++ ([.int 0] : List V)) ++ ([.int 0] : List V))))) x = some (.ins C dx ((((((((((((([] : List Str) ++ (["aisle"] : List Str)) ++ (["orders"] : List Str)) ++ (["taken"] : List Str)) ++ (["homes"] : List Str)) ++ (["many"] : List Str)) ++ (["come"] : List Str)) ++ (["lines"] : List Str)) ++ (["queued"] : List Str)) ++ (["riding"] : List Str)) ++ (["tick"] : List Str)) ++ (["bay"] : List Str)).zip (((((((((((([] : List V) ++ ([.ref a] : List V)) ++ ([.ref lo] : List V)) ++ ([.ref tk] : List V)) ++ ([.ref hm] : List V)) ++ ([.int (n : Int)] : List V)) ++ ([.int 0] : List V)) ++ ([.ref ln] : List V)) ++ ([.int 0] : List V)) ++ ([.ref rd] : List V)) ++ ([.int 0] : List V)) ++ ([.int 0] : List V)))) := upd_same
    clear sm of_ttk of_tk of_thm of_hm of_ln of_rd
    have sm := sm'
    have of_ttk := of_ttk'
    have of_tk := of_tk'
    have of_thm := of_thm'
    have of_hm := of_hm'
    have of_ln := of_ln'
    have of_rd := of_rd'
    clear sm' of_ttk' of_tk' of_thm' of_hm' of_ln' of_rd'
    generalize hK10 : upd K9x x (.ins C dx ((((((((((((([] : List Str) ++ (["aisle"] : List Str)) ++ (["orders"] : List Str)) ++ (["taken"] : List Str)) ++ (["homes"] : List Str)) ++ (["many"] : List Str)) ++ (["come"] : List Str)) ++ (["lines"] : List Str)) ++ (["queued"] : List Str)) ++ (["riding"] : List Str)) ++ (["tick"] : List Str)) ++ (["bay"] : List Str)).zip (((((((((((([] : List V) ++ ([.ref a] : List V)) ++ ([.ref lo] : List V)) ++ ([.ref tk] : List V)) ++ ([.ref hm] : List V)) ++ ([.int (n : Int)] : List V)) ++ ([.int 0] : List V)) ++ ([.ref ln] : List V)) ++ ([.int 0] : List V)) ++ ([.ref rd] : List V)) ++ ([.int 0] : List V)) ++ ([.int 0] : List V)))) = K10x at sm ox11 of_ttk of_tk of_thm of_hm of_ln of_rd
    refine ⟨_, rfl, x, C, dx, _, rfl, ox11, TT.cl, TT.nUpward, zip_few (by decide), ?_⟩
    rw [zip_app (by decide +kernel) (by rfl)]
    have sm' := Same.but (o := .ins C dx (((((((((((((([] : List Str) ++ (["aisle"] : List Str)) ++ (["orders"] : List Str)) ++ (["taken"] : List Str)) ++ (["homes"] : List Str)) ++ (["many"] : List Str)) ++ (["come"] : List Str)) ++ (["lines"] : List Str)) ++ (["queued"] : List Str)) ++ (["riding"] : List Str)) ++ (["tick"] : List Str)) ++ (["bay"] : List Str)) ++ (["upward"] : List Str)).zip ((((((((((((([] : List V) ++ ([.ref a] : List V)) ++ ([.ref lo] : List V)) ++ ([.ref tk] : List V)) ++ ([.ref hm] : List V)) ++ ([.int (n : Int)] : List V)) ++ ([.int 0] : List V)) ++ ([.ref ln] : List V)) ++ ([.int 0] : List V)) ++ ([.ref rd] : List V)) ++ ([.int 0] : List V)) ++ ([.int 0] : List V)) ++ ([.bl true] : List V)))) sm x0
    have of_ttk' := (upd_ne (o := .ins C dx (((((((((((((([] : List Str) ++ (["aisle"] : List Str)) ++ (["orders"] : List Str)) ++ (["taken"] : List Str)) ++ (["homes"] : List Str)) ++ (["many"] : List Str)) ++ (["come"] : List Str)) ++ (["lines"] : List Str)) ++ (["queued"] : List Str)) ++ (["riding"] : List Str)) ++ (["tick"] : List Str)) ++ (["bay"] : List Str)) ++ (["upward"] : List Str)).zip ((((((((((((([] : List V) ++ ([.ref a] : List V)) ++ ([.ref lo] : List V)) ++ ([.ref tk] : List V)) ++ ([.ref hm] : List V)) ++ ([.int (n : Int)] : List V)) ++ ([.int 0] : List V)) ++ ([.ref ln] : List V)) ++ ([.int 0] : List V)) ++ ([.ref rd] : List V)) ++ ([.int 0] : List V)) ++ ([.int 0] : List V)) ++ ([.bl true] : List V)))) (ne_of of_ttk ox11 (by intro z; cases z))).trans of_ttk
    have of_tk' := (upd_ne (o := .ins C dx (((((((((((((([] : List Str) ++ (["aisle"] : List Str)) ++ (["orders"] : List Str)) ++ (["taken"] : List Str)) ++ (["homes"] : List Str)) ++ (["many"] : List Str)) ++ (["come"] : List Str)) ++ (["lines"] : List Str)) ++ (["queued"] : List Str)) ++ (["riding"] : List Str)) ++ (["tick"] : List Str)) ++ (["bay"] : List Str)) ++ (["upward"] : List Str)).zip ((((((((((((([] : List V) ++ ([.ref a] : List V)) ++ ([.ref lo] : List V)) ++ ([.ref tk] : List V)) ++ ([.ref hm] : List V)) ++ ([.int (n : Int)] : List V)) ++ ([.int 0] : List V)) ++ ([.ref ln] : List V)) ++ ([.int 0] : List V)) ++ ([.ref rd] : List V)) ++ ([.int 0] : List V)) ++ ([.int 0] : List V)) ++ ([.bl true] : List V)))) (ne_of of_tk ox11 (by intro z; cases z))).trans of_tk
    have of_thm' := (upd_ne (o := .ins C dx (((((((((((((([] : List Str) ++ (["aisle"] : List Str)) ++ (["orders"] : List Str)) ++ (["taken"] : List Str)) ++ (["homes"] : List Str)) ++ (["many"] : List Str)) ++ (["come"] : List Str)) ++ (["lines"] : List Str)) ++ (["queued"] : List Str)) ++ (["riding"] : List Str)) ++ (["tick"] : List Str)) ++ (["bay"] : List Str)) ++ (["upward"] : List Str)).zip ((((((((((((([] : List V) ++ ([.ref a] : List V)) ++ ([.ref lo] : List V)) ++ ([.ref tk] : List V)) ++ ([.ref hm] : List V)) ++ ([.int (n : Int)] : List V)) ++ ([.int 0] : List V)) ++ ([.ref ln] : List V)) ++ ([.int 0] : List V)) ++ ([.ref rd] : List V)) ++ ([.int 0] : List V)) ++ ([.int 0] : List V)) ++ ([.bl true] : List V)))) (ne_of of_thm ox11 (by intro z; cases z))).trans of_thm
    have of_hm' := (upd_ne (o := .ins C dx (((((((((((((([] : List Str) ++ (["aisle"] : List Str)) ++ (["orders"] : List Str)) ++ (["taken"] : List Str)) ++ (["homes"] : List Str)) ++ (["many"] : List Str)) ++ (["come"] : List Str)) ++ (["lines"] : List Str)) ++ (["queued"] : List Str)) ++ (["riding"] : List Str)) ++ (["tick"] : List Str)) ++ (["bay"] : List Str)) ++ (["upward"] : List Str)).zip ((((((((((((([] : List V) ++ ([.ref a] : List V)) ++ ([.ref lo] : List V)) ++ ([.ref tk] : List V)) ++ ([.ref hm] : List V)) ++ ([.int (n : Int)] : List V)) ++ ([.int 0] : List V)) ++ ([.ref ln] : List V)) ++ ([.int 0] : List V)) ++ ([.ref rd] : List V)) ++ ([.int 0] : List V)) ++ ([.int 0] : List V)) ++ ([.bl true] : List V)))) (ne_of of_hm ox11 (by intro z; cases z))).trans of_hm
    have of_ln' := (upd_ne (o := .ins C dx (((((((((((((([] : List Str) ++ (["aisle"] : List Str)) ++ (["orders"] : List Str)) ++ (["taken"] : List Str)) ++ (["homes"] : List Str)) ++ (["many"] : List Str)) ++ (["come"] : List Str)) ++ (["lines"] : List Str)) ++ (["queued"] : List Str)) ++ (["riding"] : List Str)) ++ (["tick"] : List Str)) ++ (["bay"] : List Str)) ++ (["upward"] : List Str)).zip ((((((((((((([] : List V) ++ ([.ref a] : List V)) ++ ([.ref lo] : List V)) ++ ([.ref tk] : List V)) ++ ([.ref hm] : List V)) ++ ([.int (n : Int)] : List V)) ++ ([.int 0] : List V)) ++ ([.ref ln] : List V)) ++ ([.int 0] : List V)) ++ ([.ref rd] : List V)) ++ ([.int 0] : List V)) ++ ([.int 0] : List V)) ++ ([.bl true] : List V)))) (ne_of of_ln ox11 (by intro z; cases z))).trans of_ln
    have of_rd' := (upd_ne (o := .ins C dx (((((((((((((([] : List Str) ++ (["aisle"] : List Str)) ++ (["orders"] : List Str)) ++ (["taken"] : List Str)) ++ (["homes"] : List Str)) ++ (["many"] : List Str)) ++ (["come"] : List Str)) ++ (["lines"] : List Str)) ++ (["queued"] : List Str)) ++ (["riding"] : List Str)) ++ (["tick"] : List Str)) ++ (["bay"] : List Str)) ++ (["upward"] : List Str)).zip ((((((((((((([] : List V) ++ ([.ref a] : List V)) ++ ([.ref lo] : List V)) ++ ([.ref tk] : List V)) ++ ([.ref hm] : List V)) ++ ([.int (n : Int)] : List V)) ++ ([.int 0] : List V)) ++ ([.ref ln] : List V)) ++ ([.int 0] : List V)) ++ ([.ref rd] : List V)) ++ ([.int 0] : List V)) ++ ([.int 0] : List V)) ++ ([.bl true] : List V)))) (ne_of of_rd ox11 (by intro z; cases z))).trans of_rd
    have ox12 : (upd K10x x (.ins C dx (((((((((((((([] : List Str) ++ (["aisle"] : List Str)) ++ (["orders"] : List Str)) ++ (["taken"] : List Str)) ++ (["homes"] : List Str)) ++ (["many"] : List Str)) ++ (["come"] : List Str)) ++ (["lines"] : List Str)) ++ (["queued"] : List Str)) ++ (["riding"] : List Str)) ++ (["tick"] : List Str)) ++ (["bay"] : List Str)) ++ (["upward"] : List Str)).zip ((((((((((((([] : List V) ++ ([.ref a] : List V)) ++ ([.ref lo] : List V)) ++ ([.ref tk] : List V)) ++ ([.ref hm] : List V)) ++ ([.int (n : Int)] : List V)) ++ ([.int 0] : List V)) ++ ([.ref ln] : List V)) ++ ([.int 0] : List V)) ++ ([.ref rd] : List V)) ++ ([.int 0] : List V)) ++ ([.int 0] : List V)) ++ ([.bl true] : List V))))) x = some (.ins C dx (((((((((((((([] : List Str) ++ (["aisle"] : List Str)) ++ (["orders"] : List Str)) ++ (["taken"] : List Str)) ++ (["homes"] : List Str)) ++ (["many"] : List Str)) ++ (["come"] : List Str)) ++ (["lines"] : List Str)) ++ (["queued"] : List Str)) ++ (["riding"] : List Str)) ++ (["tick"] : List Str)) ++ (["bay"] : List Str)) ++ (["upward"] : List Str)).zip ((((((((((((([] : List V) ++ ([.ref a] : List V)) ++ ([.ref lo] : List V)) ++ ([.ref tk] : List V)) ++ ([.ref hm] : List V)) ++ ([.int (n : Int)] : List V)) ++ ([.int 0] : List V)) ++ ([.ref ln] : List V)) ++ ([.int 0] : List V)) ++ ([.ref rd] : List V)) ++ ([.int 0] : List V)) ++ ([.int 0] : List V)) ++ ([.bl true] : List V)))) := upd_same
    clear sm of_ttk of_tk of_thm of_hm of_ln of_rd
    have sm := sm'
    have of_ttk := of_ttk'
    have of_tk := of_tk'
    have of_thm := of_thm'
    have of_hm := of_hm'
    have of_ln := of_ln'
    have of_rd := of_rd'
    clear sm' of_ttk' of_tk' of_thm' of_hm' of_ln' of_rd'
    generalize hK11 : upd K10x x (.ins C dx (((((((((((((([] : List Str) ++ (["aisle"] : List Str)) ++ (["orders"] : List Str)) ++ (["taken"] : List Str)) ++ (["homes"] : List Str)) ++ (["many"] : List Str)) ++ (["come"] : List Str)) ++ (["lines"] : List Str)) ++ (["queued"] : List Str)) ++ (["riding"] : List Str)) ++ (["tick"] : List Str)) ++ (["bay"] : List Str)) ++ (["upward"] : List Str)).zip ((((((((((((([] : List V) ++ ([.ref a] : List V)) ++ ([.ref lo] : List V)) ++ ([.ref tk] : List V)) ++ ([.ref hm] : List V)) ++ ([.int (n : Int)] : List V)) ++ ([.int 0] : List V)) ++ ([.ref ln] : List V)) ++ ([.int 0] : List V)) ++ ([.ref rd] : List V)) ++ ([.int 0] : List V)) ++ ([.int 0] : List V)) ++ ([.bl true] : List V)))) = K11x at sm ox12 of_ttk of_tk of_thm of_hm of_ln of_rd
    refine k _ ⟨dx, tk, hm, ln, rd, [], ?_⟩
    refine ⟨sm, x0, nf_tk, nf_hm, nf_ln, fun e he => (nomatch he), ox12, of_tk, of_hm, of_rd, ⟨⟨of_ln, fun e he => (nomatch he)⟩, List.nodup_nil, fun e he => (nomatch he), fun b u _ => rfl⟩, ?_⟩
    simp only [List.map_nil, List.nodup_cons, List.mem_cons, not_or]
    exact ⟨⟨n_tk_hm, n_tk_rd, fun z => nomatch z⟩, ⟨n_hm_rd, fun z => nomatch z⟩, fun z => (nomatch z), List.nodup_nil⟩
end
end Bay

/-! homes_of, end_of. -/
namespace Bay
open PySem L2 PyProof.Rows
/-- behind homes_of: a new list of tuples (taken, home) -/
structure HomesAt (H : Hp) (D : Addr) (p : Par) (q : Nat → Addr) : Prop where
  lst : H D = some (.lst (refs q (List.range p.n)))
  at_ : ∀ i, i < p.n → H (q i) = some (.tup [.int (fT p i), .int (fH p i)])
theorem HomesAt.same {H H' D p q} (h : HomesAt H D p q) (s : Same H H') : HomesAt H' D p q := ⟨s _ _ h.lst, fun i hi => s _ _ (h.at_ i hi)⟩
def spHomes : Sp := fun vs H Q _ => ∃ (a lo : Addr) (n : Nat) (r : Nat → Addr) (ord : Nat → Ord) (gaps : List Int) (most : Int), vs = [.ref a, .ref lo] ∧ Ctx H a lo n r ord gaps most ∧
  ∀ H' D q, Same H H' → H D = none → HomesAt H' D (parOf n ord gaps most) q → Q (.ref D) H'
def spEnd : Sp := fun vs H Q _ => ∃ (a lo : Addr) (n : Nat) (r : Nat → Addr) (ord : Nat → Ord) (gaps : List Int) (most : Int), vs = [.ref a, .ref lo] ∧ Ctx H a lo n r ord gaps most ∧
  ∀ H', Same H H' → Q (.int (maxOf ((List.range n).map (fH (parOf n ord gaps most))))) H'
theorem opts_full {n : Nat} {f : Nat → Option Int} {g : Nat → Int} (h : ∀ i, i < n → f i = some (g i)) : opts n f = (List.range n).map fun i => V.int (g i) := by
  unfold opts
  apply List.map_congr_left
  intro i hi
  unfold ov
  rw [h i (List.mem_range.mp hi)]
section
variable {P : Program} {w : World} {K : PySem.W.Frag} {mg : Str → Option Value} {base : Heap}
theorem kSkip : ix "skip" tourK = none := by decide +kernel
theorem kLie : ix "lie_down" tourK = none := by decide +kernel
theorem kStop : ix "stop" tourK = none := by decide +kernel
theorem kLeave : ix "leave" tourK = none := by decide +kernel
theorem scHomesOf : FnScope ["aisle", "orders", "tour", "taken", "home"] ["aisle", "orders"] (defScope sHomesOf) := ⟨rfl, rfl, rfl, by decide +kernel, rfl, by decide +kernel, by decide +kernel⟩
theorem ok_homesOf {f C : Addr} {fd : FuncData} (F : Fun K "homes_of" "homes_of" sHomesOf f fd) (T : Txt mg) (TT : TourTxt K C) (gC : mg "Tour" = some (.ref C)) {f1 fd1 f2 fd2 f3 fd3 f4 fd4 f5 fd5 f6 fd6}
    (D1 : Df P w K mg base 4 "look_at_orders" ["aisle", "thing"] spLookOrders f1 fd1) (MK : Mk K C f2) (GI : FnOk P w K mg base CX0 1 f2 fd2 ["self", "aisle", "orders"] (spTourInit P w C)) (bI : Binds K fd2 ["self", "aisle", "orders"] [])
    (M3 : Mf P w K mg base 2 C "skip" ["self"] (spSkip P w C) f3 fd3) (M4 : Mf P w K mg base 2 C "lie_down" ["self"] (spLie P w C) f4 fd4) (M5 : Mf P w K mg base 2 C "stop" ["self"] (spStop P w C) f5 fd5) (M6 : Mf P w K mg base 2 C "leave" ["self"] (spLeave P w C) f6 fd6) :
    FnOk P w K mg base CX0 6 f fd ["aisle", "orders"] spHomes := by
  refine F.ok scHomesOf (fun vs H Q E h => ?_) (fun cdv A outer s H vs Q E hr h => ?_)
  · obtain ⟨a, lo, n, r, ord, gaps, most, rfl, _⟩ := h
    rfl
  · obtain ⟨a, lo, n, r, ord, gaps, most, rfl, hC, k⟩ := h
    have hr4 : Room 4 _ := hr.mono (by decide)
    have hr2 : Room 2 _ := hr.mono (by decide)
    refine ⟨_, pss_cons (ps_expr (pe_call D1.ok hr4 rfl D1.gl D1.kp D1.bd .nil pass0 (pa_cons (pv 0) (pa_cons (pv 1) pa_nil))))
      (pss_cons (ps_set (i := 2) scHomesOf.nd rfl (Or.inl rfl) (pe_make MK GI hr2 rfl gC bI .nil pass0 (pa_cons (pv 0) (pa_cons (pv 1) pa_nil))))
      (pss_cons (ps_while PassesOwn.never (pt_cmpR op_gt (pe_fld (pv 2) rfl) pe_int (nomark _))
        (pss_cons (ps_expr (pe_meth0 (pv 2) TT.cl M3.me M3.ok hr2 M3.bd .nil pass0))
        (pss_cons (ps_expr (pe_meth0 (pv 2) TT.cl M4.me M4.ok hr2 M4.bd .nil pass0))
        (pss_cons (ps_expr (pe_meth0 (pv 2) TT.cl M5.me M5.ok hr2 M5.bd .nil pass0))
        (pss_one (ps_expr (pe_meth0 (pv 2) TT.cl M6.me M6.ok hr2 M6.bd .nil pass0)))))))
      (pss_one (ps_ret (pe_lc (own := [("taken", 3), ("home", 4)]) (g := gTup K 2 (gCons (gName 3) (gCons (gName 4) gNil))) (by rfl) scHomesOf.nd (pi_zip (by rfl) T.zip (pa_cons (pe_fld (pv 2) rfl) (pa_cons (pe_fld (pv 2) rfl) pa_nil)))
        (blkOk_by (own := [("taken", 3), ("home", 4)]) (N := ["aisle", "orders", "tour", "taken", "home"]) (sc := defScope sHomesOf) (by decide +kernel))
        (fun _ _ _ _ _ => pg_tup rfl (pgs_cons (pg_name (i := 3) scHomesOf.nd rfl (Or.inl rfl)) (pgs_cons (pg_name (i := 4) scHomesOf.nd rfl (Or.inl rfl)) pgs_nil))) (fun _ _ _ _ _ => pts_nil) (fun _ _ _ _ _ => pe_tup (pa_cons (pv 3) (pa_cons (pv 4) pa_nil)))))))), ?_⟩
    refine ⟨_, rfl, _, rfl, a, lo, gaps, most, n, r, ord, rfl, hC.A, hC.Ao, hC.O, hC.Oo, fun Hb sb => ?_⟩
    have hCb := hC.same sb
    have pok : (parOf n ord gaps most).Ok := par_ok (L := 0) hC.Ao hC.Oo
    refine ⟨_, rfl, _, rfl, fun x dx0 hx hdx hne => ?_⟩
    have s0 : Same Hb (upd (upd Hb dx0 (.own x)) x (.ins C dx0 [])) := fun b o e => by
      rw [upd_ne (ne_of_none e hx), upd_ne (ne_of_none e hdx)]
      exact e
    refine ⟨Hb, x, dx0, a, lo, n, r, ord, gaps, most, rfl, hCb, s0, hx, upd_same, fun H1 T1 => ⟨rfl, ?_⟩⟩
    refine ⟨fun m σ H' => ∃ (κ : Nat) (S : TS), m = kLast (parOf n ord gaps most) + 1 - κ ∧ σ = [some (.ref a), some (.ref lo), some (.ref x), none, none] ∧ κ ≤ kLast (parOf n ord gaps most) + 1 ∧ TourAt P w C Hb H' x a lo (parOf n ord gaps most) S ∧ TInv (parOf n ord gaps most) κ S,
      ⟨_, 0, initS n, rfl, rfl, Nat.zero_le _, T1, tinv_init pok⟩, ?_⟩
    rintro m σ H2 ⟨κ, S, rfl, rfl, hκ, ⟨dx, tk, hm, ln, rd, xs, h⟩, I⟩
    refine ⟨_, rfl, x, C, dx, _, _, rfl, h.obj, TT.cl, TT.nMany, zip_lookup xMany rfl, _, _, rfl, rfl, _, rfl, ?_⟩
    by_cases hmany : 0 < S.many
    · rw [decide_eq_true hmany]
      obtain ⟨first, κ1, hκ1, hrun, I1⟩ := tinv_skip pok I hmany
      have hlt : (run (parOf n ord gaps most) κ1).arr.length < n := by
        rw [hrun]
        have := I.many
        have e : ((parOf n ord gaps most).n : Int) = n := rfl
        omega
      have hκl := le_kLast pok hlt
      refine iteT ⟨fun σ' H' => σ' = [some (.ref a), some (.ref lo), some (.ref x), none, none] ∧ ∃ S', TourAt P w C Hb H' x a lo (parOf n ord gaps most) S' ∧ TInv (parOf n ord gaps most) (κ1 + 1) S', ?_, ?_⟩
      · rintro σ' H' ⟨rfl, S', T', I'⟩
        exact ⟨kLast (parOf n ord gaps most) + 1 - (κ1 + 1), by omega, κ1 + 1, S', rfl, rfl, by omega, T', I'⟩
      · refine ⟨_, rfl, x, dx, _, rfl, h.obj, zip_none kSkip, Hb, x, a, lo, n, r, ord, gaps, most, S, rfl, hCb, ⟨dx, tk, hm, ln, rd, xs, h⟩, first, fun H3 T3 => ?_⟩
        obtain ⟨dx3, tk3, hm3, ln3, rd3, xs3, h3⟩ := id T3
        refine ⟨_, rfl, x, dx3, _, rfl, h3.obj, zip_none kLie, Hb, x, a, lo, n, r, ord, gaps, most, skipS (parOf n ord gaps most) S, rfl, hCb, T3, I1.cn, fun i h1 h2 => by rw [I1.tak]; exact I1.c2 i h1 h2, fun H4 c c1 c2 c3 c4 T4 => ?_⟩
        obtain ⟨I2, hcome⟩ := tinv_lie pok I1 c1 c2 c3 c4
        obtain ⟨dx4, tk4, hm4, ln4, rd4, xs4, h4⟩ := id T4
        have G := good_run pok κ1
        refine ⟨_, rfl, x, dx4, _, rfl, h4.obj, zip_none kStop, Hb, x, a, lo, n, r, ord, gaps, most, lieS (skipS (parOf n ord gaps most) S) c, rfl, hCb, T4, c2, ?_, fun i hi => ?_, ?_, fun H5 T5 => ?_⟩
        · rw [I2.bay]; exact bay_le pok κ1
        · rw [I2.rid] at hi; exact rid_lt pok hi
        · rw [I2.rid]; exact G.most
        obtain ⟨dx5, tk5, hm5, ln5, rd5, xs5, h5⟩ := id T5
        have I3 := tinv_stop pok I2 hcome
        refine ⟨_, rfl, x, dx5, _, rfl, h5.obj, zip_none kLeave, Hb, x, a, lo, n, r, ord, gaps, most, stopS (parOf n ord gaps most) (lieS (skipS (parOf n ord gaps most) S) c), rfl, hCb, T5, fun hu => ?_, fun hu => ?_, fun H6 T6 => ?_⟩
        · have e1 : up (parOf n ord gaps most) κ1 = true := I2.up.symm.trans hu
          have := (bay_up e1).2
          rw [← I2.bay] at this
          exact this
        · have e1 : up (parOf n ord gaps most) κ1 = false := I2.up.symm.trans hu
          have h1 := (bay_down pok e1).2
          have h2 := bay_le pok κ1
          rw [← I2.bay] at h1 h2
          exact ⟨h1, h2⟩
        exact ⟨rfl, _, T6, I3⟩
    · rw [decide_eq_false hmany]
      refine iteF ?_
      have hfull : (run (parOf n ord gaps most) κ).arr.length = (parOf n ord gaps most).n := by
        have h1 := arr_len pok κ
        have h2 := I.many
        omega
      have et : opts (parOf n ord gaps most).n S.tak = (List.range n).map fun i => V.int (fT (parOf n ord gaps most) i) := opts_full fun i hi => by rw [I.tak]; exact (tak_full pok hfull hi).1
      have eh : opts (parOf n ord gaps most).n S.hom = (List.range n).map fun i => V.int (fH (parOf n ord gaps most) i) := opts_full fun i hi => by rw [I.hom]; exact (tak_full pok hfull hi).2
      have otk := h.otk
      have ohm := h.ohm
      rw [et] at otk
      rw [eh] at ohm
      refine ⟨_, rfl, x, C, dx, _, _, rfl, h.obj, TT.cl, TT.nTaken, zip_lookup xTaken rfl, _, rfl, x, C, dx, _, _, rfl, h.obj, TT.cl, TT.nHomes, zip_lookup xHomes rfl, tk, hm, _, _, rfl, SqL.of otk, SqL.of ohm, fun D hD => ?_⟩
      have sD : Same H (upd H2 D (.lst [])) := sb.trans (Same.new h.same hD)
      refine lc_it (walk_zip (K := K) (a := tk) (b := hm) (n := n) (by rw [List.length_map, List.length_map, List.length_range, Nat.min_self])) (fun i H' => Same H2 H' ∧ ∃ q : Nat → Addr, H' D = some (.lst (refs q (List.range i))) ∧ ∀ j, j < i → H' (q j) = some (.tup [.int (fT (parOf n ord gaps most) j), .int (fH (parOf n ord gaps most) j)]))
        ⟨same_new hD, fun _ => 0, upd_same, fun j hj => absurd hj (Nat.not_lt_zero j)⟩ (fun i H' _ q => ⟨SqL.of (q.1 _ _ otk), SqL.of (q.1 _ _ ohm)⟩) ?_ ?_
      · rintro i v H3 H4 hi ⟨s3, q, q1, q2⟩ ⟨Ta, y, z, rfl, hTa, rfl, hy, hz⟩
        have hy : (List.map (fun i => V.int (fT (parOf n ord gaps most) i)) (List.range n))[i]? = some y := hy
        have hz : (List.map (fun i => V.int (fH (parOf n ord gaps most) i)) (List.range n))[i]? = some z := hz
        have ey : y = V.int (fT (parOf n ord gaps most) i) := by
          rw [List.getElem?_map, List.getElem?_range hi] at hy
          exact (Option.some.inj hy).symm
        have ez : z = V.int (fH (parOf n ord gaps most) i) := by
          rw [List.getElem?_map, List.getElem?_range hi] at hz
          exact (Option.some.inj hz).symm
        subst ey ez
        refine ⟨Ta, _, rfl, SqT.of upd_same, rfl, _, _, rfl, _, _, rfl, rfl, rfl, tyesT ⟨_, rfl, _, rfl, (by show 2 ≤ sizeLine; decide), fun t ht => ?_⟩⟩
        have s4 : Same H3 (upd (upd H3 Ta (.tup [.int (fT (parOf n ord gaps most) i), .int (fH (parOf n ord gaps most) i)])) t (.tup [.int (fT (parOf n ord gaps most) i), .int (fH (parOf n ord gaps most) i)])) := Same.new (same_new hTa) ht
        refine ⟨_, s4 _ _ q1, ?_, Same.but (s3.trans s4) hD, fun j => if j = i then t else q j, ?_, fun j hj => ?_⟩
        · rw [refs_len, List.length_range, sizeLine_eq]
          have := hC.Oo.few
          omega
        · rw [upd_same, List.range_succ]
          unfold refs
          rw [List.map_append]
          congr 2
          congr 1
          · apply List.map_congr_left
            intro j hj
            have : j < i := List.mem_range.mp hj
            show V.ref (q j) = V.ref (if j = i then t else q j)
            rw [if_neg (by omega)]
          · simp
        · by_cases c : j = i
          · subst c
            show upd _ _ _ (if j = j then t else q j) = _
            rw [if_pos rfl, upd_ne, upd_same]
            intro z
            rw [z] at ht
            have e1 := same_new (o := .tup [.int (fT (parOf n ord gaps most) j), .int (fH (parOf n ord gaps most) j)]) hTa _ _ q1
            rw [e1] at ht
            cases ht
          · show upd _ _ _ (if j = i then t else q j) = _
            rw [if_neg c]
            have e1 := q2 j (by omega)
            have e2 := s4 _ _ e1
            rw [upd_ne]
            · exact e2
            · exact ne_of e1 q1 (by intro z; cases z)
      · rintro H3 ⟨s3, q, q1, q2⟩
        exact k H3 D q ((sb.trans h.same).trans s3) (Same.free (sb.trans h.same) hD) ⟨q1, q2⟩
theorem scEndOf : FnScope ["aisle", "orders", "taken", "home"] ["aisle", "orders"] (defScope sEndOf) := ⟨rfl, rfl, rfl, by decide +kernel, rfl, by decide +kernel, by decide +kernel⟩
theorem ok_endOf {f : Addr} {fd : FuncData} (F : Fun K "end_of" "end_of" sEndOf f fd) (T : Txt mg) {f1 fd1} (D1 : Df P w K mg base 6 "homes_of" ["aisle", "orders"] spHomes f1 fd1) : FnOk P w K mg base CX0 7 f fd ["aisle", "orders"] spEnd := by
  refine F.ok scEndOf (fun vs H Q E h => ?_) (fun cdv A outer s H vs Q E hr h => ?_)
  · obtain ⟨a, lo, n, r, ord, gaps, most, rfl, _⟩ := h
    rfl
  · obtain ⟨a, lo, n, r, ord, gaps, most, rfl, hC, k⟩ := h
    refine ⟨_, pss_one (ps_ret (pe_callBK (cr_maxDef rfl hr) (by rfl) T.max bt_max (pa_cons (pe_lc (own := [("taken", 2), ("home", 3)]) (g := gTup K 2 (gCons (gName 2) (gCons (gName 3) gNil))) (by rfl) scEndOf.nd (pi_list (pe_call D1.ok hr rfl D1.gl D1.kp D1.bd .nil pass0 (pa_cons (pv 0) (pa_cons (pv 1) pa_nil))))
        (blkOk_by (own := [("taken", 2), ("home", 3)]) (N := ["aisle", "orders", "taken", "home"]) (sc := defScope sEndOf) (by decide +kernel))
        (fun _ _ _ _ _ => pg_tup rfl (pgs_cons (pg_name (i := 2) scEndOf.nd rfl (Or.inl rfl)) (pgs_cons (pg_name (i := 3) scEndOf.nd rfl (Or.inl rfl)) pgs_nil))) (fun _ _ _ _ _ => pts_nil) (fun _ _ _ _ _ => pv 3)) pa_nil) (pk_cons pe_int pk_nil))), ?_⟩
    refine ⟨_, rfl, _, rfl, a, lo, n, r, ord, gaps, most, rfl, hC, fun H1 D q s1 hD0 hH => ?_⟩
    refine ⟨D, rfl, ⟨_, SqL.of hH.lst⟩, fun D2 hD2 => ?_⟩
    refine lc_listF (List.range n) (fun i => V.ref (q i)) (fun _ => true) (fun i => .int (fH (parOf n ord gaps most) i)) hD2 (SqL.of hH.lst) (by rw [List.length_range]; have := hC.Oo.few; omega) ?_ ?_
    · intro i H3 R R' hi s3 _ k2
      have hin : i < n := List.mem_range.mp hi
      refine ⟨q i, _, rfl, SqT.of (s3 _ _ (hH.at_ i hin)), rfl, _, _, rfl, _, _, rfl, rfl, rfl, tyesT ⟨_, rfl, k2 rfl _ (Same.refl _)⟩⟩
    · intro H3 s3 q3
      have e : ((List.range n).filter fun _ => true).map (fun i => V.int (fH (parOf n ord gaps most) i)) = ((List.range n).map (fH (parOf n ord gaps most))).map V.int := by
        rw [List.filter_eq_self.mpr (fun _ _ => rfl), List.map_map]; rfl
      rw [e] at q3
      refine ⟨D2, (List.range n).map (fH (parOf n ord gaps most)), _, rfl, rfl, SqL.of q3, fun e0 => ?_, fun m rr e0 => ?_⟩
      · have := k H3 (s1.trans s3)
        rw [e0] at this
        exact this
      · have := k H3 (s1.trans s3)
        rw [e0] at this
        exact this
end
end Bay

/-! The sweep's object; turn, leave, put. -/
namespace Bay
open PySem L2 PyProof.Rows
def sweepK : List Str := ["gaps", "most", "coming", "waiting", "riding", "arrived", "tick", "bay", "step", "ahead"]
def sv (g : Addr) (most : Int) (co wa rd ar : Addr) (tick bay step ahead : Int) : List V := [.ref g, .int most, .ref co, .ref wa, .ref rd, .ref ar, .int tick, .int bay, .int step, .int ahead]
theorem yGaps : ix "gaps" sweepK = some 0 := by decide +kernel
theorem yMost : ix "most" sweepK = some 1 := by decide +kernel
theorem yComing : ix "coming" sweepK = some 2 := by decide +kernel
theorem yWaiting : ix "waiting" sweepK = some 3 := by decide +kernel
theorem yRiding : ix "riding" sweepK = some 4 := by decide +kernel
theorem yArrived : ix "arrived" sweepK = some 5 := by decide +kernel
theorem yTick : ix "tick" sweepK = some 6 := by decide +kernel
theorem yBay : ix "bay" sweepK = some 7 := by decide +kernel
theorem yStep : ix "step" sweepK = some 8 := by decide +kernel
theorem yAhead : ix "ahead" sweepK = some 9 := by decide +kernel
theorem few10 : sweepK.length < 1000 := by decide
structure SweepTxt (K : PySem.W.Frag) (C : Addr) : Prop where
  cl : Cls K C
  nGaps : NoAttr K C "gaps"
  nMost : NoAttr K C "most"
  nComing : NoAttr K C "coming"
  nWaiting : NoAttr K C "waiting"
  nRiding : NoAttr K C "riding"
  nArrived : NoAttr K C "arrived"
  nTick : NoAttr K C "tick"
  nBay : NoAttr K C "bay"
  nStep : NoAttr K C "step"
  nAhead : NoAttr K C "ahead"
structure SS where
  co : List Nat
  wa : List Nat
  rd : List Nat
  ar : List Nat
  tick : Int
  bay : Nat
  step : Int
  ahead : Int
structure SweepIn (C : Addr) (H0 H : Hp) (x : Addr) (gaps : List Int) (most : Int) (r : Nat → Addr) (S : SS) (dx g co wa rd ar : Addr) : Prop where
  same : Same H0 H
  x0 : H0 x = none
  co0 : H0 co = none
  wa0 : H0 wa = none
  rd0 : H0 rd = none
  obj : H x = some (.ins C dx (sweepK.zip (sv g most co wa rd ar S.tick S.bay S.step S.ahead)))
  og : H g = some (.lst (gaps.map V.int))
  oco : H co = some (.lst (refs r S.co))
  owa : H wa = some (.lst (refs r S.wa))
  ord : H rd = some (.lst (refs r S.rd))
  oar : H ar = some (.lst (refs r S.ar))
  nd : [g, co, wa, rd, ar].Nodup
def SweepAt (C : Addr) (H0 H : Hp) (x : Addr) (gaps : List Int) (most : Int) (r : Nat → Addr) (S : SS) : Prop := ∃ dx g co wa rd ar, SweepIn C H0 H x gaps most r S dx g co wa rd ar
section
variable {C : Addr} {H0 H H' : Hp} {x : Addr} {gaps : List Int} {most : Int} {r : Nat → Addr} {S : SS} {dx g co wa rd ar : Addr}
theorem SweepIn.move (h : SweepIn C H0 H x gaps most r S dx g co wa rd ar) (s : Same H H') : SweepIn C H0 H' x gaps most r S dx g co wa rd ar :=
  ⟨h.same.trans s, h.x0, h.co0, h.wa0, h.rd0, s _ _ h.obj, s _ _ h.og, s _ _ h.oco, s _ _ h.owa, s _ _ h.ord, s _ _ h.oar, h.nd⟩
theorem SweepIn.setx (h : SweepIn C H0 H x gaps most r S dx g co wa rd ar) (S' : SS) (e1 : S'.co = S.co) (e2 : S'.wa = S.wa) (e3 : S'.rd = S.rd) (e4 : S'.ar = S.ar) :
    SweepIn C H0 (upd H x (.ins C dx (sweepK.zip (sv g most co wa rd ar S'.tick S'.bay S'.step S'.ahead)))) x gaps most r S' dx g co wa rd ar := by
  refine ⟨Same.but h.same h.x0, h.x0, h.co0, h.wa0, h.rd0, upd_same, ?_, ?_, ?_, ?_, ?_, h.nd⟩
  · rw [upd_ne (ne_of h.og h.obj (by intro q; cases q))]; exact h.og
  · rw [upd_ne (ne_of h.oco h.obj (by intro q; cases q)), e1]; exact h.oco
  · rw [upd_ne (ne_of h.owa h.obj (by intro q; cases q)), e2]; exact h.owa
  · rw [upd_ne (ne_of h.ord h.obj (by intro q; cases q)), e3]; exact h.ord
  · rw [upd_ne (ne_of h.oar h.obj (by intro q; cases q)), e4]; exact h.oar
end
/-- a context in which the sweep was made: its orders -/
structure SCtx (H0 : Hp) (n : Nat) (r : Nat → Addr) (ord : Nat → Ord) (gaps : List Int) (most : Int) : Prop where
  at_ : ∀ i, i < n → H0 (r i) = some (.tup (ord i).vs)
  Ao : AisleOk gaps most
  Oo : OrdsOk n ord gaps.length
def turnS (L : Nat) (S : SS) : SS := { S with step := if S.bay = L then -1 else if S.bay = 0 then 1 else S.step }
def spTurn (C : Addr) : Sp := fun vs H Q _ => ∃ (H0 : Hp) (x : Addr) (gaps : List Int) (most : Int) (r : Nat → Addr) (S : SS), vs = [.ref x] ∧ SweepAt C H0 H x gaps most r S ∧ 1 ≤ gaps.length ∧ ∀ H', SweepAt C H0 H' x gaps most r (turnS gaps.length S) → Q .non H'
def leaveW (gaps : List Int) (S : SS) : SS := if S.step = 1 then { S with ahead := gaps.getD S.bay 0, bay := S.bay + 1 } else { S with ahead := gaps.getD (S.bay - 1) 0, bay := S.bay - 1 }
def spLeaveW (C : Addr) : Sp := fun vs H Q _ => ∃ (H0 : Hp) (x : Addr) (gaps : List Int) (most : Int) (r : Nat → Addr) (S : SS), vs = [.ref x] ∧ SweepAt C H0 H x gaps most r S ∧ ((S.step = 1 ∧ S.bay < gaps.length) ∨ (S.step = -1 ∧ 1 ≤ S.bay ∧ S.bay ≤ gaps.length)) ∧
  ∀ H', SweepAt C H0 H' x gaps most r (leaveW gaps S) → Q .non H'
def putS (ord : Nat → Ord) (S : SS) : SS := { S with ar := S.ar ++ S.rd.filter (fun i => decide ((ord i).dst = S.bay)), rd := S.rd.filter (fun i => !decide ((ord i).dst = S.bay)) }
def spPut (C : Addr) : Sp := fun vs H Q _ => ∃ (H0 : Hp) (x : Addr) (n : Nat) (gaps : List Int) (most : Int) (r : Nat → Addr) (ord : Nat → Ord) (S : SS), vs = [.ref x] ∧ SCtx H0 n r ord gaps most ∧ SweepAt C H0 H x gaps most r S ∧ (∀ i ∈ S.rd, i < n) ∧ S.rd.length ≤ 1000 ∧ S.ar.length ≤ 1000 ∧
  ∀ H', SweepAt C H0 H' x gaps most r (putS ord S) → Q .non H'
section
variable {P : Program} {w : World} {K : PySem.W.Frag} {mg : Str → Option Value} {base : Heap}
theorem pe_fldK {X : Cx} {e : Expr} {f : Str} {pos : Pos} {ta : TE} {K : PySem.W.Frag} (hK : X.K = K) (he : PE X e ta) (hb : attributeBase e f X.env (eval e X.env) = eval e X.env) : PE X (.Attribute e f pos) (tFld K ta f) := by
  subst hK
  exact pe_fld he hb
theorem scTurn : FnScope ["self"] ["self"] (defScope sTurn) := ⟨rfl, rfl, rfl, by decide +kernel, rfl, by decide +kernel, by decide +kernel⟩
theorem ok_turn {f C : Addr} {fd : FuncData} (F : Fun K "turn" "Sweep.turn" sTurn f fd) (T : Txt mg) (TT : SweepTxt K C) : FnOk P w K mg base CX0 1 f fd ["self"] (spTurn C) := by
  refine F.ok scTurn (fun vs H Q E h => ?_) (fun cdv A outer s H vs Q E hr h => ?_)
  · obtain ⟨H0, x, gaps, most, r, S, rfl, _⟩ := h
    rfl
  · obtain ⟨H0, x, gaps, most, r, S, rfl, ⟨dx, g, co, wa, rd, ar, h⟩, hL, k⟩ := h
    refine ⟨_, pss_cons (ps_if (pt_cmpR op_eq (pe_fld (pv 0) rfl) pe_int (nomark _)) (pss_one (ps_fld (pv 0) pe_int rfl)) pss_nil)
      (pss_one (ps_if (pt_cmpR op_eq (pe_fld (pv 0) rfl) (pe_callB call_len_seq (by rfl) T.len PySem.boot_len (pa_cons (pe_fld (pv 0) rfl) pa_nil)) (nomark _)) (pss_one (ps_fld (pv 0) (pe_un un_neg pe_int) rfl)) pss_nil)), ?_⟩
    -- behind the first if
    have second : ∀ (S1 : SS) (H1 : Hp), SweepIn C H0 H1 x gaps most r S1 dx g co wa rd ar → S1.bay = S.bay → (S.bay = gaps.length → SweepIn C H0 (upd H1 x (.ins C dx (sweepK.zip ((sv g most co wa rd ar S1.tick S1.bay S1.step S1.ahead).set 8 (.int (-1)))))) x gaps most r (turnS gaps.length S) dx g co wa rd ar) → (S.bay ≠ gaps.length → S1 = turnS gaps.length S) →
        tIfS (tTest (tOp rEq (tFld K (tVar 0) "bay") (tCB (fun xs H Q => ∃ p ys, xs = [.ref p] ∧ (SqL K H p ys ∨ SqT K H p ys) ∧ Q (.int ys.length) H) (tCons (tFld K (tVar 0) "gaps") tNil)))) (sFld K (tVar 0) (tUn (rU fun i => .int (-i)) (tC (.int 1))) "step") tNext { nx := fun _ H' => Q .non H', rt := Q } [some (.ref x)] H1 := by
      intro S1 H1 h1 eb hyes hno
      refine ⟨_, rfl, x, C, dx, _, _, rfl, h1.obj, TT.cl, TT.nBay, zip_lookup yBay rfl, _, rfl, x, C, dx, _, _, rfl, h1.obj, TT.cl, TT.nGaps, zip_lookup yGaps rfl, g, _, rfl, .inl (SqL.of h1.og), rfl, _, rfl, ?_⟩
      rw [List.length_map, eb]
      by_cases hb : S.bay = gaps.length
      · rw [decide_eq_true (show V.int (S.bay : Int) = V.int (gaps.length : Int) by rw [hb])]
        refine iteT ⟨_, rfl, _, rfl, x, C, dx, _, rfl, h1.obj, TT.cl, TT.nStep, zip_few few10, ?_⟩
        rw [zip_put yStep (by show 8 < 10; omega)]
        exact k _ ⟨dx, g, co, wa, rd, ar, hyes hb⟩
      · rw [decide_eq_false (show ¬ V.int (S.bay : Int) = V.int (gaps.length : Int) from fun z => hb (by injection z with z; omega))]
        refine iteF ?_
        refine k _ ⟨dx, g, co, wa, rd, ar, ?_⟩
        rw [← hno hb]
        exact h1
    refine ⟨_, rfl, x, C, dx, _, _, rfl, h.obj, TT.cl, TT.nBay, zip_lookup yBay rfl, rfl, _, rfl, ?_⟩
    by_cases h0 : S.bay = 0
    · rw [decide_eq_true (show V.int (S.bay : Int) = V.int 0 by rw [h0]; rfl)]
      refine iteT ⟨_, rfl, x, C, dx, _, rfl, h.obj, TT.cl, TT.nStep, zip_few few10, ?_⟩
      rw [zip_put yStep (by show 8 < 10; omega)]
      have h1 := h.setx { S with step := 1 } rfl rfl rfl rfl
      refine second { S with step := 1 } _ h1 rfl (fun hb => by omega) (fun hb => ?_)
      unfold turnS
      rw [if_neg hb, if_pos h0]
    · rw [decide_eq_false (show ¬ V.int (S.bay : Int) = V.int 0 from fun z => h0 (by injection z with z; omega))]
      refine iteF ?_
      refine second S _ h rfl (fun hb => ?_) (fun hb => ?_)
      · have h1 := h.setx { S with step := -1 } rfl rfl rfl rfl
        have e : turnS gaps.length S = { S with step := -1 } := by
          unfold turnS
          rw [if_pos hb]
        rw [e]
        exact h1
      · unfold turnS
        rw [if_neg hb, if_neg h0]
theorem scLeaveW : FnScope ["self"] ["self"] (defScope sSweepLeave) := ⟨rfl, rfl, rfl, by decide +kernel, rfl, by decide +kernel, by decide +kernel⟩
theorem ok_leaveW {f C : Addr} {fd : FuncData} (F : Fun K "leave" "Sweep.leave" sSweepLeave f fd) (T : Txt mg) (TT : SweepTxt K C) : FnOk P w K mg base CX0 1 f fd ["self"] (spLeaveW C) := by
  refine F.ok scLeaveW (fun vs H Q E h => ?_) (fun cdv A outer s H vs Q E hr h => ?_)
  · obtain ⟨H0, x, gaps, most, r, S, rfl, _⟩ := h
    rfl
  · obtain ⟨H0, x, gaps, most, r, S, rfl, ⟨dx, g, co, wa, rd, ar, h⟩, hst, k⟩ := h
    refine ⟨_, pss_cons (ps_fld (pv 0) (pe_ix ix_list (pe_fld (pv 0) rfl) (pe_callB (call_min2 rfl) (by rfl) T.min bt_min (pa_cons (pe_fld (pv 0) rfl) (pa_cons (pe_op op_add (pe_fld (pv 0) rfl) (pe_fld (pv 0) rfl)) pa_nil))) (fun _ _ => rfl)) rfl)
      (pss_one (ps_fldaug (pv 0) (pe_fld (pv 0) rfl) in_add)), ?_⟩
    rcases hst with ⟨hs, hb⟩ | ⟨hs, hb1, hb2⟩
    · have em : (if (S.bay : Int) + S.step < (S.bay : Int) then (S.bay : Int) + S.step else (S.bay : Int)) = (S.bay : Int) := if_neg (by omega)
      refine ⟨_, rfl, x, C, dx, _, _, rfl, h.obj, TT.cl, TT.nGaps, zip_lookup yGaps rfl, _, rfl, x, C, dx, _, _, rfl, h.obj, TT.cl, TT.nBay, zip_lookup yBay rfl, _, rfl, x, C, dx, _, _, rfl, h.obj, TT.cl, TT.nBay, zip_lookup yBay rfl, _, rfl, x, C, dx, _, _, rfl, h.obj, TT.cl, TT.nStep, zip_lookup yStep rfl, _, _, rfl, rfl, _, _, rfl, g, _, _, _, rfl, rfl, SqL.of h.og, by rw [em]; exact atI_nat (gaps_at hb), _, rfl, x, C, dx, _, rfl, h.obj, TT.cl, TT.nAhead, zip_few few10, ?_⟩
      rw [zip_put yAhead (by show 9 < 10; omega)]
      have h1 := h.setx { S with ahead := gaps.getD S.bay 0 } rfl rfl rfl rfl
      refine ⟨_, rfl, x, C, dx, _, _, rfl, h1.obj, TT.cl, TT.nBay, zip_lookup yBay rfl, _, rfl, x, C, dx, _, _, rfl, h1.obj, TT.cl, TT.nStep, zip_lookup yStep rfl, _, _, rfl, rfl, dx, _, h1.obj, zip_few few10, ?_⟩
      rw [zip_put yBay (by show 7 < 10; omega)]
      have eb : (S.bay : Int) + S.step = ((S.bay + 1 : Nat) : Int) := by omega
      refine k _ ⟨dx, g, co, wa, rd, ar, ?_⟩
      have e : leaveW gaps S = { S with ahead := gaps.getD S.bay 0, bay := S.bay + 1 } := by unfold leaveW; rw [if_pos hs]
      rw [e]
      show SweepIn C H0 (upd _ x (.ins C dx (sweepK.zip (sv g most co wa rd ar S.tick ((S.bay : Int) + S.step) S.step (gaps.getD S.bay 0))))) x gaps most r _ dx g co wa rd ar
      rw [eb]
      exact h1.setx { S with ahead := gaps.getD S.bay 0, bay := S.bay + 1 } rfl rfl rfl rfl
    · have em : (if (S.bay : Int) + S.step < (S.bay : Int) then (S.bay : Int) + S.step else (S.bay : Int)) = ((S.bay - 1 : Nat) : Int) := by rw [if_pos (by omega)]; omega
      refine ⟨_, rfl, x, C, dx, _, _, rfl, h.obj, TT.cl, TT.nGaps, zip_lookup yGaps rfl, _, rfl, x, C, dx, _, _, rfl, h.obj, TT.cl, TT.nBay, zip_lookup yBay rfl, _, rfl, x, C, dx, _, _, rfl, h.obj, TT.cl, TT.nBay, zip_lookup yBay rfl, _, rfl, x, C, dx, _, _, rfl, h.obj, TT.cl, TT.nStep, zip_lookup yStep rfl, _, _, rfl, rfl, _, _, rfl, g, _, _, _, rfl, rfl, SqL.of h.og, by rw [em]; exact atI_nat (gaps_at (show S.bay - 1 < gaps.length by omega)), _, rfl, x, C, dx, _, rfl, h.obj, TT.cl, TT.nAhead, zip_few few10, ?_⟩
      rw [zip_put yAhead (by show 9 < 10; omega)]
      have h1 := h.setx { S with ahead := gaps.getD (S.bay - 1) 0 } rfl rfl rfl rfl
      refine ⟨_, rfl, x, C, dx, _, _, rfl, h1.obj, TT.cl, TT.nBay, zip_lookup yBay rfl, _, rfl, x, C, dx, _, _, rfl, h1.obj, TT.cl, TT.nStep, zip_lookup yStep rfl, _, _, rfl, rfl, dx, _, h1.obj, zip_few few10, ?_⟩
      rw [zip_put yBay (by show 7 < 10; omega)]
      have eb : (S.bay : Int) + S.step = ((S.bay - 1 : Nat) : Int) := by omega
      refine k _ ⟨dx, g, co, wa, rd, ar, ?_⟩
      have e : leaveW gaps S = { S with ahead := gaps.getD (S.bay - 1) 0, bay := S.bay - 1 } := by unfold leaveW; rw [if_neg (by rw [hs]; decide)]
      rw [e]
      show SweepIn C H0 (upd _ x (.ins C dx (sweepK.zip (sv g most co wa rd ar S.tick ((S.bay : Int) + S.step) S.step (gaps.getD (S.bay - 1) 0))))) x gaps most r _ dx g co wa rd ar
      rw [eb]
      exact h1.setx { S with ahead := gaps.getD (S.bay - 1) 0, bay := S.bay - 1 } rfl rfl rfl rfl
end
end Bay

/-! put and take of the sweep. -/
namespace Bay
open PySem L2 PyProof.Rows
theorem SweepIn.readdr {C : Addr} {H0 H : Hp} {x : Addr} {gaps : List Int} {most : Int} {r : Nat → Addr} {S : SS} {dx g co wa rd ar : Addr} (h : SweepIn C H0 H x gaps most r S dx g co wa rd ar) (S' : SS) {wa' rd' ar' : Addr} (e1 : S'.co = S.co) (w0 : H0 wa' = none) (r0 : H0 rd' = none)
    (w1 : H wa' = some (.lst (refs r S'.wa))) (r1 : H rd' = some (.lst (refs r S'.rd))) (a1 : H ar' = some (.lst (refs r S'.ar))) (nd : [g, co, wa', rd', ar'].Nodup) :
    SweepIn C H0 (upd H x (.ins C dx (sweepK.zip (sv g most co wa' rd' ar' S'.tick S'.bay S'.step S'.ahead)))) x gaps most r S' dx g co wa' rd' ar' := by
  refine ⟨Same.but h.same h.x0, h.x0, h.co0, w0, r0, upd_same, ?_, ?_, ?_, ?_, ?_, nd⟩
  · rw [upd_ne (ne_of h.og h.obj (by intro q; cases q))]; exact h.og
  · rw [upd_ne (ne_of h.oco h.obj (by intro q; cases q)), e1]; exact h.oco
  · rw [upd_ne (ne_of w1 h.obj (by intro q; cases q))]; exact w1
  · rw [upd_ne (ne_of r1 h.obj (by intro q; cases q))]; exact r1
  · rw [upd_ne (ne_of a1 h.obj (by intro q; cases q))]; exact a1
theorem refs_app (r : Nat → Addr) (a b : List Nat) : refs r a ++ refs r b = refs r (a ++ b) := by unfold refs; rw [List.map_append]
/-! ### take, plainly -/
def fitW (ord : Nat → Ord) (S : SS) (i : Nat) : Bool := decide ((ord i).src = S.bay) && (decide ((ord i).src < (ord i).dst) == decide (S.step = 1))
def tkW (ord : Nat → Ord) (S : SS) (room i : Nat) : List Nat := ((S.wa.take i).filter (fitW ord S)).take room
def nwW (ord : Nat → Ord) (S : SS) (room : Nat) : List Nat := (S.wa.filter (fitW ord S)).take room
def stW (ord : Nat → Ord) (S : SS) (room i : Nat) : List Nat := (S.wa.take i).filter fun j => decide (j ∉ nwW ord S room)
section
variable {ord : Nat → Ord} {S : SS} {room i y : Nat}
theorem wa_split {l : List Nat} (h : l[i]? = some y) : l = l.take i ++ y :: l.drop (i + 1) := by
  have h1 := (List.getElem?_eq_some_iff.mp h)
  obtain ⟨h2, h3⟩ := h1
  rw [← h3]
  exact (List.take_append_drop i l).symm.trans (by rw [List.drop_eq_getElem_cons h2])
theorem tk_yes (hy : S.wa[i]? = some y) (hf : fitW ord S y = true) (hl : (tkW ord S room i).length < room) : tkW ord S room (i + 1) = tkW ord S room i ++ [y] ∧ y ∈ nwW ord S room := by
  have hlen : ((S.wa.take i).filter (fitW ord S)).length < room := by
    unfold tkW at hl
    rw [List.length_take] at hl
    omega
  have e1 : tkW ord S room i = (S.wa.take i).filter (fitW ord S) := by unfold tkW; exact List.take_of_length_le (by omega)
  refine ⟨?_, ?_⟩
  · rw [e1]
    unfold tkW
    rw [take_succ_of hy, List.filter_append]
    have : [y].filter (fitW ord S) = [y] := by simp [hf]
    rw [this]
    exact List.take_of_length_le (by rw [List.length_append, List.length_singleton]; omega)
  · unfold nwW
    rw [wa_split hy, List.filter_append, List.filter_cons, if_pos hf, List.take_append]
    refine List.mem_append_right _ ?_
    obtain ⟨m, hm⟩ : ∃ m, room - ((S.wa.take i).filter (fitW ord S)).length = m + 1 := ⟨room - ((S.wa.take i).filter (fitW ord S)).length - 1, by omega⟩
    rw [hm, List.take_succ_cons]
    exact List.mem_cons_self
theorem tk_no (hn : S.wa.Nodup) (hy : S.wa[i]? = some y) (hf : fitW ord S y = false ∨ room ≤ (tkW ord S room i).length) : tkW ord S room (i + 1) = tkW ord S room i ∧ y ∉ nwW ord S room := by
  have hs := wa_split hy
  have hny : y ∉ S.wa.take i := fun z => by
    rw [hs, List.nodup_append] at hn
    exact hn.2.2 y z y List.mem_cons_self rfl
  have hny2 : y ∉ S.wa.drop (i + 1) := fun z => by
    rw [hs, List.nodup_append] at hn
    exact (List.nodup_cons.mp hn.2.1).1 z
  rcases hf with hf | hf
  · refine ⟨?_, fun z => ?_⟩
    · unfold tkW
      rw [take_succ_of hy, List.filter_append]
      have : [y].filter (fitW ord S) = [] := by simp [hf]
      rw [this, List.append_nil]
    · have := (List.mem_filter.mp (List.mem_of_mem_take z)).2
      rw [hf] at this
      cases this
  · have hlen : room ≤ ((S.wa.take i).filter (fitW ord S)).length := by
      unfold tkW at hf
      rw [List.length_take] at hf
      omega
    refine ⟨?_, fun z => ?_⟩
    · unfold tkW
      rw [take_succ_of hy, List.filter_append, List.take_append, Nat.sub_eq_zero_of_le hlen, List.take_zero, List.append_nil]
    · unfold nwW at z
      rw [hs, List.filter_append, List.take_append, Nat.sub_eq_zero_of_le hlen, List.take_zero, List.append_nil] at z
      exact hny (List.mem_filter.mp (List.mem_of_mem_take z)).1
theorem st_yes (hy : S.wa[i]? = some y) (hm : y ∈ nwW ord S room) : stW ord S room (i + 1) = stW ord S room i := by
  unfold stW
  rw [take_succ_of hy, List.filter_append]
  have : [y].filter (fun j => decide (j ∉ nwW ord S room)) = [] := by simp [hm]
  rw [this, List.append_nil]
theorem st_no (hy : S.wa[i]? = some y) (hm : y ∉ nwW ord S room) : stW ord S room (i + 1) = stW ord S room i ++ [y] := by
  unfold stW
  rw [take_succ_of hy, List.filter_append]
  have : [y].filter (fun j => decide (j ∉ nwW ord S room)) = [y] := by simp [hm]
  rw [this]
theorem tk_len : (tkW ord S room i).length ≤ room := List.length_take_le _ _
theorem tk_all : tkW ord S room S.wa.length = nwW ord S room := by unfold tkW nwW; rw [List.take_length]
end
def takeS (ord : Nat → Ord) (most : Int) (S : SS) : SS := { S with rd := S.rd ++ nwW ord S (most.toNat - S.rd.length), wa := S.wa.filter fun j => decide (j ∉ nwW ord S (most.toNat - S.rd.length)) }
def spTake (C : Addr) : Sp := fun vs H Q _ => ∃ (H0 : Hp) (x : Addr) (n : Nat) (gaps : List Int) (most : Int) (r : Nat → Addr) (ord : Nat → Ord) (S : SS), vs = [.ref x] ∧ SCtx H0 n r ord gaps most ∧ SweepAt C H0 H x gaps most r S ∧ (∀ i ∈ S.wa, i < n) ∧ S.wa.Nodup ∧ S.rd.length ≤ most.toNat ∧
  ∀ H', SweepAt C H0 H' x gaps most r (takeS ord most S) → Q .non H'
section
variable {P : Program} {w : World} {K : PySem.W.Frag} {mg : Str → Option Value} {base : Heap}
theorem scPut : FnScope ["self", "order"] ["self"] (defScope sPut) := ⟨rfl, rfl, rfl, by decide +kernel, rfl, by decide +kernel, by decide +kernel⟩
theorem ok_put {f C : Addr} {fd : FuncData} (F : Fun K "put" "Sweep.put" sPut f fd) (T : Txt mg) (TT : SweepTxt K C) : FnOk P w K mg base CX0 1 f fd ["self"] (spPut C) := by
  refine F.ok scPut (fun vs H Q E h => ?_) (fun cdv A outer s H vs Q E hr h => ?_)
  · obtain ⟨H0, x, n, gaps, most, r, ord, S, rfl, _⟩ := h
    rfl
  · obtain ⟨H0, x, n, gaps, most, r, ord, S, rfl, hC, ⟨dx, g, co, wa, rd, ar, h⟩, hrn, hr1, ha1, k⟩ := h
    refine ⟨_, pss_cons (ps_fld (pv 0) (pe_op op_cat (pe_fld (pv 0) rfl) (pe_lc (own := [("order", 1)]) (g := gName 1) (tt := tTest (tOp rEq (tOp (rIxT K) (tVar 1) (tC (.int 3))) (tFld K (tVar 0) "bay"))) (by rfl) scPut.nd (pi_list (pe_fld (pv 0) rfl))
        (blkOk_by (own := [("order", 1)]) (N := ["self", "order"]) (sc := defScope sPut) (by decide +kernel)) (fun _ _ _ _ _ => pg_name (i := 1) scPut.nd rfl (Or.inl rfl)) (fun _ _ _ _ _ => pts_one (pt_cmpR op_eq (pe_ix (r := rIxT K) ix_tup (pv 1) pe_int (fun _ _ => rfl)) (pe_fldK rfl (pv 0) rfl) (nomark _))) (fun _ _ _ _ _ => pv 1))) rfl)
      (pss_one (ps_fld (pv 0) (pe_lc (own := [("order", 1)]) (g := gName 1) (tt := tTest (tOp rNe (tOp (rIxT K) (tVar 1) (tC (.int 3))) (tFld K (tVar 0) "bay"))) (by rfl) scPut.nd (pi_list (pe_fld (pv 0) rfl))
        (blkOk_by (own := [("order", 1)]) (N := ["self", "order"]) (sc := defScope sPut) (by decide +kernel)) (fun _ _ _ _ _ => pg_name (i := 1) scPut.nd rfl (Or.inl rfl)) (fun _ _ _ _ _ => pts_one (pt_cmpR op_ne (pe_ix (r := rIxT K) ix_tup (pv 1) pe_int (fun _ _ => rfl)) (pe_fldK rfl (pv 0) rfl) (nomark _))) (fun _ _ _ _ _ => pv 1)) rfl)), ?_⟩
    refine ⟨_, rfl, x, C, dx, _, _, rfl, h.obj, TT.cl, TT.nArrived, zip_lookup yArrived rfl, _, rfl, x, C, dx, _, _, rfl, h.obj, TT.cl, TT.nRiding, zip_lookup yRiding rfl, rd, rfl, ⟨_, SqL.of h.ord⟩, fun D hD => ?_⟩
    refine lc_listF S.rd (fun i => V.ref (r i)) (fun i => decide ((ord i).dst = S.bay)) (fun i => V.ref (r i)) hD (SqL.of h.ord) (by omega) ?_ ?_
    · intro i H1 R R' hi s1 k1 k2
      have ho := s1 _ _ (h.same _ _ (hC.at_ i (hrn i hi)))
      have hx := s1 _ _ h.obj
      refine ⟨rfl, _, rfl, r i, _, _, _, rfl, rfl, SqT.of ho, at_of (j := 3) rfl rfl, _, rfl, x, C, dx, _, _, rfl, hx, TT.cl, TT.nBay, zip_lookup yBay rfl, rfl, _, rfl, ?_⟩
      by_cases hd : (ord i).dst = S.bay
      · rw [decide_eq_true (show V.int ((ord i).dst : Int) = V.int (S.bay : Int) by rw [hd])]
        exact iteT ⟨_, rfl, k2 (decide_eq_true hd) _ (Same.refl _)⟩
      · rw [decide_eq_false (show ¬ V.int ((ord i).dst : Int) = V.int (S.bay : Int) from fun z => hd (by injection z with z; omega))]
        exact iteF (k1 (decide_eq_false hd) _ (Same.refl _))
    · intro H1 s1 q1
      have h1 := h.move s1
      have q1' : H1 D = some (.lst (refs r (S.rd.filter fun i => decide ((ord i).dst = S.bay)))) := q1
      have fl := List.length_filter_le (fun i => decide ((ord i).dst = S.bay)) S.rd
      refine ⟨ar, D, _, _, rfl, rfl, h1.oar, q1', by rw [refs_len, refs_len, sizeLine_eq]; omega, fun ar' har' => ?_⟩
      rw [refs_app]
      have h2 := h1.move (same_new (o := .lst (refs r (S.ar ++ S.rd.filter fun i => decide ((ord i).dst = S.bay)))) har')
      have ha2 : (upd H1 ar' (.lst (refs r (S.ar ++ S.rd.filter fun i => decide ((ord i).dst = S.bay))))) ar' = some (.lst (refs r (S.ar ++ S.rd.filter fun i => decide ((ord i).dst = S.bay)))) := upd_same
      have nd := h.nd
      simp only [List.nodup_cons, List.mem_cons, not_or, List.not_mem_nil, not_false_iff, and_true] at nd
      have ng : g ≠ ar' := fun z => by rw [← z, h1.og] at har'; cases har'
      have nco : co ≠ ar' := fun z => by rw [← z, h1.oco] at har'; cases har'
      have nwa : wa ≠ ar' := fun z => by rw [← z, h1.owa] at har'; cases har'
      have nrd : rd ≠ ar' := fun z => by rw [← z, h1.ord] at har'; cases har'
      generalize hG : upd H1 ar' (.lst (refs r (S.ar ++ S.rd.filter fun i => decide ((ord i).dst = S.bay)))) = H2 at h2 ha2
      refine ⟨_, rfl, x, C, dx, _, rfl, h2.obj, TT.cl, TT.nArrived, zip_few few10, ?_⟩
      rw [zip_put yArrived (by show 5 < 10; omega)]
      have h3 : SweepIn C H0 (upd H2 x (.ins C dx (sweepK.zip ((sv g most co wa rd ar S.tick S.bay S.step S.ahead).set 5 (.ref ar'))))) x gaps most r { S with ar := S.ar ++ S.rd.filter (fun i => decide ((ord i).dst = S.bay)) } dx g co wa rd ar' :=
        h2.readdr { S with ar := S.ar ++ S.rd.filter (fun i => decide ((ord i).dst = S.bay)) } rfl h.wa0 h.rd0 h2.owa h2.ord ha2 (by
          simp only [List.nodup_cons, List.mem_cons, not_or, List.not_mem_nil, not_false_iff, and_true]
          exact ⟨⟨nd.1.1, nd.1.2.1, nd.1.2.2.1, ng⟩, ⟨nd.2.1.1, nd.2.1.2.1, nco⟩, ⟨nd.2.2.1.1, nwa⟩, nrd, trivial, List.nodup_nil⟩)
      generalize hG2 : upd H2 x (.ins C dx (sweepK.zip ((sv g most co wa rd ar S.tick S.bay S.step S.ahead).set 5 (.ref ar')))) = H3 at h3
      refine ⟨_, rfl, x, C, dx, _, _, rfl, h3.obj, TT.cl, TT.nRiding, zip_lookup yRiding rfl, rd, rfl, ⟨_, SqL.of h3.ord⟩, fun D2 hD2 => ?_⟩
      refine lc_listF S.rd (fun i => V.ref (r i)) (fun i => !decide ((ord i).dst = S.bay)) (fun i => V.ref (r i)) hD2 (SqL.of h3.ord) (by omega) ?_ ?_
      · intro i H4 R R' hi s4 k1 k2
        have ho := s4 _ _ (h3.same _ _ (hC.at_ i (hrn i hi)))
        have hx := s4 _ _ h3.obj
        refine ⟨rfl, _, rfl, r i, _, _, _, rfl, rfl, SqT.of ho, at_of (j := 3) rfl rfl, _, rfl, x, C, dx, _, _, rfl, hx, TT.cl, TT.nBay, zip_lookup yBay rfl, rfl, _, rfl, ?_⟩
        by_cases hd : (ord i).dst = S.bay
        · rw [decide_eq_true (show V.int ((ord i).dst : Int) = V.int (S.bay : Int) by rw [hd])]
          exact iteF (k1 (by rw [decide_eq_true hd]; rfl) _ (Same.refl _))
        · rw [decide_eq_false (show ¬ V.int ((ord i).dst : Int) = V.int (S.bay : Int) from fun z => hd (by injection z with z; omega))]
          exact iteT ⟨_, rfl, k2 (by rw [decide_eq_false hd]; rfl) _ (Same.refl _)⟩
      · intro H4 s4 q4
        have h4 := h3.move s4
        have q4' : H4 D2 = some (.lst (refs r (S.rd.filter fun i => !decide ((ord i).dst = S.bay)))) := q4
        have ng2 : g ≠ D2 := fun z => by rw [← z, h3.og] at hD2; cases hD2
        have nco2 : co ≠ D2 := fun z => by rw [← z, h3.oco] at hD2; cases hD2
        have nwa2 : wa ≠ D2 := fun z => by rw [← z, h3.owa] at hD2; cases hD2
        have nar2 : ar' ≠ D2 := fun z => by rw [← z, h3.oar] at hD2; cases hD2
        refine ⟨_, rfl, x, C, dx, _, rfl, h4.obj, TT.cl, TT.nRiding, zip_few few10, ?_⟩
        rw [zip_put yRiding (by show 4 < 10; omega)]
        refine k _ ⟨dx, g, co, wa, D2, ar', ?_⟩
        exact h4.readdr (putS ord S) rfl h.wa0 (Same.free h3.same hD2) h4.owa q4' h4.oar (by
          simp only [List.nodup_cons, List.mem_cons, not_or, List.not_mem_nil, not_false_iff, and_true]
          exact ⟨⟨nd.1.1, nd.1.2.1, ng2, ng⟩, ⟨nd.2.1.1, nco2, nco⟩, ⟨nwa2, nwa⟩, nar2.symm, trivial, List.nodup_nil⟩)
theorem scTake : FnScope ["self", "stayed", "order", "fits"] ["self"] (defScope sTake) := ⟨rfl, rfl, rfl, by decide +kernel, rfl, by decide +kernel, by decide +kernel⟩
theorem ok_take {f C : Addr} {fd : FuncData} (F : Fun K "take" "Sweep.take" sTake f fd) (T : Txt mg) (TT : SweepTxt K C) {f1 fd1} (D1 : Df P w K mg base 1 "is_upward" ["order"] spIsUpward f1 fd1) : FnOk P w K mg base CX0 2 f fd ["self"] (spTake C) := by
  refine F.ok scTake (fun vs H Q E h => ?_) (fun cdv A outer s H vs Q E hr h => ?_)
  · obtain ⟨H0, x, n, gaps, most, r, ord, S, rfl, _⟩ := h
    rfl
  · obtain ⟨H0, x, n, gaps, most, r, ord, S, rfl, hC, ⟨dx, g, co, wa, rd, ar, h⟩, hwn, hwN, hrm, k⟩ := h
    refine ⟨_, pss_cons (ps_set (i := 1) scTake.nd rfl (Or.inl rfl) (pe_lst pa_nil))
      (pss_cons (ps_for PassesOwn.never rfl (pi_list (pe_fld (pv 0) rfl)) (pg_name (i := 2) scTake.nd rfl (Or.inl rfl))
        (pss_cons (ps_set (i := 3) scTake.nd rfl (Or.inl rfl) (pe_and (pe_cmpR op_eq (pe_ix ix_tup (pv 2) pe_int (fun _ _ => rfl)) (pe_fld (pv 0) rfl) (nomark _))
            (pe_one (pe_cmpR op_eq (pe_call D1.ok hr rfl D1.gl D1.kp D1.bd .nil pass0 (pa_cons (pv 2) pa_nil)) (pe_cmpR op_eq (pe_fld (pv 0) rfl) pe_int (nomark _)) (nomark _)))))
        (pss_one (ps_if (PW.pt (pw_and (pt_val (pv 3)) (pw_and1 (pt_cmpR op_lt (pe_callB call_len_seq (by rfl) T.len PySem.boot_len (pa_cons (pe_fld (pv 0) rfl) pa_nil)) (pe_fld (pv 0) rfl) (nomark _)))))
          (pss_one (ps_expr (pe_bm PySem.F.plainAttrs_list PySem.F.slot_list_append PySem.F.type_list_append mt_append (pe_fld (pv 0) rfl) (pa_cons (pv 2) pa_nil))))
          (pss_one (ps_expr (pe_bm PySem.F.plainAttrs_list PySem.F.slot_list_append PySem.F.type_list_append mt_append (pv 1) (pa_cons (pv 2) pa_nil))))))))
      (pss_one (ps_fld (pv 0) (pv 1) rfl))), ?_⟩
    refine ⟨Nat.zero_le _, fun st hst => ?_⟩
    have h1 := h.move (same_new (o := .lst []) hst)
    have hs1 : (upd H st (.lst [])) st = some (.lst []) := upd_same
    have st0 : H0 st = none := Same.free h.same hst
    have fr : ∀ b, H b ≠ none → b ≠ st := fun b hb z => hb (z ▸ hst)
    have nx : x ≠ st := fr _ (by rw [h.obj]; simp)
    have ng : g ≠ st := fr _ (by rw [h.og]; simp)
    have nco : co ≠ st := fr _ (by rw [h.oco]; simp)
    have nwa : wa ≠ st := fr _ (by rw [h.owa]; simp)
    have nrd : rd ≠ st := fr _ (by rw [h.ord]; simp)
    have nar : ar ≠ st := fr _ (by rw [h.oar]; simp)
    generalize hG : upd H st (.lst []) = H1 at h1 hs1
    have nd := h.nd
    simp only [List.nodup_cons, List.mem_cons, not_or, List.not_mem_nil, not_false_iff, and_true] at nd
    have nwr : wa ≠ rd := nd.2.2.1.1
    have nxr : x ≠ rd := ne_of h.obj h.ord (by intro z; cases z)
    have m1 := hC.Ao.m1
    have m2 := hC.Ao.m2
    refine ⟨_, rfl, x, C, dx, _, _, rfl, h1.obj, TT.cl, TT.nWaiting, zip_lookup yWaiting rfl, wa, rfl, ⟨_, SqL.of h1.owa⟩, for_list (K := K) (a := wa) (xs := refs r S.wa) (fun i σ H' => ∃ v1 v2, σ = [some (.ref x), some (.ref st), v1, v2] ∧ (∀ b o, b ≠ rd → b ≠ st → H1 b = some o → H' b = some o) ∧
        H' rd = some (.lst (refs r (S.rd ++ tkW ord S (most.toNat - S.rd.length) i))) ∧ H' st = some (.lst (refs r (stW ord S (most.toNat - S.rd.length) i))))
      ⟨none, none, rfl, fun b o _ _ e => e, ?_, ?_⟩ ?_ ?_ ?_⟩
    · rw [h1.ord]
      have : tkW ord S (most.toNat - S.rd.length) 0 = [] := by unfold tkW; simp
      rw [this, List.append_nil]
    · rw [hs1]
      have : stW ord S (most.toNat - S.rd.length) 0 = [] := by unfold stW; simp
      rw [this]
      rfl
    · rintro i σ H' _ ⟨v1, v2, rfl, hf, _⟩
      exact SqL.of (hf _ _ nwr nwa h1.owa)
    · rintro i y σ H2 hy ⟨v1, v2, rfl, hf, hr2, hs2⟩
      obtain ⟨j, hj, rfl⟩ := refs_get hy
      have hjn : j < n := hwn j (List.mem_of_getElem? hj)
      have sm2 : Same H0 H2 := fun b o e => hf b o (fun z => by rw [z, h.rd0] at e; cases e) (fun z => by rw [z, st0] at e; cases e) (h1.same b o e)
      have ho := sm2 _ _ (hC.at_ j hjn)
      have hx2 := hf _ _ nxr nx h1.obj
      have tl := tk_len (ord := ord) (S := S) (room := most.toNat - S.rd.length) (i := i)
      have lens : (refs r (stW ord S (most.toNat - S.rd.length) i)).length < sizeLine := by
        rw [refs_len, sizeLine_eq]
        have g1 := List.length_filter_le (fun j => decide (j ∉ nwW ord S (most.toNat - S.rd.length))) (S.wa.take i)
        have g2 : (S.wa.take i).length ≤ S.wa.length := by rw [List.length_take]; exact Nat.min_le_right _ _
        have g3 := hwN.length_le_of_subset (l₂ := List.range n) fun q hq => List.mem_range.mpr (hwn q hq)
        rw [List.length_range] at g3
        have := hC.Oo.few
        unfold stW
        omega
      -- the box stays
      have stays : fitW ord S j = false ∨ (most.toNat - S.rd.length) ≤ (tkW ord S (most.toNat - S.rd.length) i).length →
          (∀ b o, b ≠ rd → b ≠ st → H1 b = some o → (upd H2 st (.lst (refs r (stW ord S (most.toNat - S.rd.length) i) ++ [.ref (r j)]))) b = some o) ∧
          (upd H2 st (.lst (refs r (stW ord S (most.toNat - S.rd.length) i) ++ [.ref (r j)]))) rd = some (.lst (refs r (S.rd ++ tkW ord S (most.toNat - S.rd.length) (i + 1)))) ∧
          (upd H2 st (.lst (refs r (stW ord S (most.toNat - S.rd.length) i) ++ [.ref (r j)]))) st = some (.lst (refs r (stW ord S (most.toNat - S.rd.length) (i + 1)))) := fun hno => by
        obtain ⟨e1, e2⟩ := tk_no hwN hj hno
        refine ⟨fun b o b1 b2 e => ?_, ?_, ?_⟩
        · rw [upd_ne b2]; exact hf b o b1 b2 e
        · rw [upd_ne nrd, e1]; exact hr2
        · rw [upd_same, st_no hj e2]
          unfold refs
          rw [List.map_append]
          rfl
      refine ⟨_, rfl, r j, _, _, _, rfl, rfl, SqT.of ho, at_of (j := 2) rfl rfl, _, rfl, x, C, dx, _, _, rfl, hx2, TT.cl, TT.nBay, zip_lookup yBay rfl, rfl, _, rfl, ?_⟩
      by_cases hb : (ord j).src = S.bay
      · rw [decide_eq_true (show V.int ((ord j).src : Int) = V.int (S.bay : Int) by rw [hb])]
        refine iteT ⟨_, rfl, r j, ord j, rfl, ho, _, rfl, x, C, dx, _, _, rfl, hx2, TT.cl, TT.nStep, zip_lookup yStep rfl, rfl, rfl, ?_⟩
        have ef : decide (V.bl (decide ((ord j).src < (ord j).dst)) = V.bl (decide (V.int S.step = V.int 1))) = fitW ord S j := by
          unfold fitW
          rw [decide_eq_true hb, Bool.true_and]
          have e1 : decide (V.int S.step = V.int 1) = decide (S.step = 1) := decide_eq_decide.mpr ⟨fun z => by injection z, fun z => by rw [z]⟩
          rw [e1]
          cases decide ((ord j).src < (ord j).dst) <;> cases decide (S.step = 1) <;> rfl
        refine ⟨_, rfl, _, rfl, ?_⟩
        rw [ef]
        cases hfit : fitW ord S j with
        | true =>
          refine iteT ⟨_, rfl, x, C, dx, _, _, rfl, hx2, TT.cl, TT.nRiding, zip_lookup yRiding rfl, rd, _, rfl, .inl (SqL.of hr2), _, rfl, x, C, dx, _, _, rfl, hx2, TT.cl, TT.nMost, zip_lookup yMost rfl, _, _, rfl, rfl, _, rfl, ?_⟩
          rw [refs_len, List.length_append]
          by_cases hl : (tkW ord S (most.toNat - S.rd.length) i).length < most.toNat - S.rd.length
          · rw [decide_eq_true (show (((S.rd.length + (tkW ord S (most.toNat - S.rd.length) i).length : Nat)) : Int) < most by omega)]
            obtain ⟨e1, e2⟩ := tk_yes hj hfit hl
            refine iteT ⟨_, rfl, x, C, dx, _, _, rfl, hx2, TT.cl, TT.nRiding, zip_lookup yRiding rfl, .inl ⟨rfl, _, SqL.of hr2⟩, _, rfl, rd, _, _, rfl, rfl, hr2, ?_, ?_⟩
            · rw [refs_len, List.length_append, sizeLine_eq]
              omega
            · refine ⟨_, _, rfl, fun b o b1 b2 e => ?_, ?_, ?_⟩
              · rw [upd_ne b1]; exact hf b o b1 b2 e
              · rw [upd_same, e1]
                unfold refs
                rw [← List.append_assoc, List.map_append (l₂ := [j])]
                rfl
              · rw [upd_ne nrd.symm, st_yes hj e2]; exact hs2
          · rw [decide_eq_false (show ¬ (((S.rd.length + (tkW ord S (most.toNat - S.rd.length) i).length : Nat)) : Int) < most by omega)]
            obtain ⟨a1, a2, a3⟩ := stays (.inr (by omega))
            exact iteF ⟨_, rfl, .inl ⟨rfl, _, SqL.of hs2⟩, _, rfl, st, _, _, rfl, rfl, hs2, lens, _, _, rfl, a1, a2, a3⟩
        | false =>
          obtain ⟨a1, a2, a3⟩ := stays (.inl hfit)
          exact iteF (iteF ⟨_, rfl, .inl ⟨rfl, _, SqL.of hs2⟩, _, rfl, st, _, _, rfl, rfl, hs2, lens, _, _, rfl, a1, a2, a3⟩)
      · rw [decide_eq_false (show ¬ V.int ((ord j).src : Int) = V.int (S.bay : Int) from fun z => hb (by injection z with z; omega))]
        have hfit : fitW ord S j = false := by unfold fitW; rw [decide_eq_false hb]; rfl
        obtain ⟨a1, a2, a3⟩ := stays (.inl hfit)
        refine iteF ⟨_, rfl, _, rfl, ?_⟩
        exact iteF (iteF ⟨_, rfl, .inl ⟨rfl, _, SqL.of hs2⟩, _, rfl, st, _, _, rfl, rfl, hs2, lens, _, _, rfl, a1, a2, a3⟩)
    · rintro σ H2 ⟨v1, v2, rfl, hf, hr2, hs2⟩
      rw [refs_len, tk_all] at hr2
      have es : stW ord S (most.toNat - S.rd.length) (refs r S.wa).length = (takeS ord most S).wa := by
        unfold stW
        rw [refs_len, List.take_length]
        rfl
      rw [es] at hs2
      have nxw : x ≠ wa := ne_of h.obj h.owa (by intro z; cases z)
      have sm2 : Same H0 H2 := fun b o e => hf b o (fun z => by rw [z, h.rd0] at e; cases e) (fun z => by rw [z, st0] at e; cases e) (h1.same b o e)
      have h2 : SweepIn C H0 H2 x gaps most r { S with rd := S.rd ++ nwW ord S (most.toNat - S.rd.length) } dx g co wa rd ar :=
        ⟨sm2, h.x0, h.co0, h.wa0, h.rd0, hf _ _ nxr nx h1.obj, hf _ _ nd.1.2.2.1 ng h1.og, hf _ _ nd.2.1.2.1 nco h1.oco, hf _ _ nwr nwa h1.owa, hr2, hf _ _ (fun z => nd.2.2.2.1 z.symm) nar h1.oar, h.nd⟩
      refine ⟨_, rfl, _, rfl, x, C, dx, _, rfl, h2.obj, TT.cl, TT.nWaiting, zip_few few10, ?_⟩
      rw [zip_put yWaiting (by show 3 < 10; omega)]
      refine k _ ⟨dx, g, co, st, rd, ar, ?_⟩
      exact h2.readdr (takeS ord most S) rfl st0 h.rd0 hs2 h2.ord h2.oar (by
        simp only [List.nodup_cons, List.mem_cons, not_or, List.not_mem_nil, not_false_iff, and_true]
        exact ⟨⟨nd.1.1, ng, nd.1.2.2.1, nd.1.2.2.2⟩, ⟨nco, nd.2.1.2.1, nd.2.1.2.2⟩, ⟨nrd.symm, nar.symm⟩, nd.2.2.2.1, trivial, List.nodup_nil⟩)
end
end Bay

/-! One tick of the sweep against the run over all stops. -/
namespace Bay
open PySem L2 PyProof.Rows
structure SInv (p : Par) (t : Int) (k : Nat) (S : SS) : Prop where
  tick : S.tick = t
  ahead : S.ahead = time p k - t
  a0 : t ≤ time p k
  past : ∀ j, j < k → time p j < t
  bay : S.bay = Bay.bay p k
  step : Bay.bay p k ≠ 0 → Bay.bay p k ≠ p.L → S.step = if up p k = true then 1 else -1
  rd : S.rd = (run p k).rid
  ar : S.ar = (run p k).arr
def popS (p : Par) (k : Nat) (S : SS) (c : Nat) : SS := { S with co := (List.range p.n).drop c, wa := (List.range c).filter fun i => ((run p k).tak i).isNone }
structure CInv (p : Par) (t : Int) (k : Nat) (c : Nat) : Prop where
  cn : c ≤ p.n
  c1 : ∀ i, i < c → p.tk i ≤ t
  c2 : ∀ i, c ≤ i → i < p.n → (run p k).tak i = none
def initW (n : Nat) : SS := ⟨List.range n, [], [], [], 0, 0, 1, 0⟩
section
variable {p : Par} {t : Int} {k c : Nat} {S : SS}
theorem sinv_init (o : p.Ok) : SInv p 0 0 (initW p.n) ∧ CInv p 0 0 0 ∧ popS p 0 (initW p.n) 0 = initW p.n :=
  ⟨⟨rfl, by show (0 : Int) = time p 0 - 0; rfl, Int.le_refl _, fun j h => absurd h (Nat.not_lt_zero j), bay_zero.symm, fun h => absurd bay_zero h, rfl, rfl⟩, ⟨Nat.zero_le _, fun i h => absurd h (Nat.not_lt_zero i), fun i _ _ => rfl⟩, rfl⟩
/-- between the bays -/
theorem sinv_still (h : SInv p t k S) (hc : CInv p t k c) (ht : t < time p k) : SInv p (t + 1) k { popS p k S c with tick := S.tick + 1, ahead := S.ahead - 1 } ∧ CInv p (t + 1) k c ∧ At p k t := by
  refine ⟨⟨?_, ?_, by omega, fun j hj => ?_, h.bay, h.step, h.rd, h.ar⟩, ⟨hc.cn, fun i hi => ?_, hc.c2⟩, ht, fun j hj => Int.le_of_lt (h.past j hj)⟩
  · show S.tick + 1 = t + 1
    rw [h.tick]
  · show S.ahead - 1 = _
    rw [h.ahead]; omega
  · have := h.past j hj; omega
  · have := hc.c1 i hi; omega
theorem turn_step (o : p.Ok) (h : SInv p t k S) : (turnS p.L (popS p k S c)).step = if up p k = true then 1 else -1 := by
  show (if S.bay = p.L then (-1 : Int) else if S.bay = 0 then 1 else S.step) = _
  rw [h.bay]
  by_cases h1 : bay p k = p.L
  · rw [if_pos h1, if_neg]
    intro z
    have := (bay_up z).2
    omega
  · rw [if_neg h1]
    by_cases h2 : bay p k = 0
    · rw [if_pos h2, if_pos]
      cases hu : up p k with
      | true => rfl
      | false => have := (bay_down o hu).2; omega
    · rw [if_neg h2]
      exact h.step h2 h1
end
section
variable {n : Nat} {ord : Nat → Ord} {gaps : List Int} {most : Int} {t : Int} {k c : Nat} {S : SS}
theorem sinv_stop (Ao : AisleOk gaps most) (Oo : OrdsOk n ord gaps.length) (h : SInv (parOf n ord gaps most) t k S) (hc : CInv (parOf n ord gaps most) t k c) (hcome : c = come (parOf n ord gaps most) t) (ht : t = time (parOf n ord gaps most) k) :
    ∀ S1 S2 S3 S4 : SS, S1 = turnS gaps.length (popS (parOf n ord gaps most) k S c) → S2 = putS ord S1 → S3 = takeS ord most S2 → S4 = leaveW gaps S3 →
    (∀ i ∈ S1.rd, i < n) ∧ S1.rd.length ≤ 1000 ∧ S1.ar.length ≤ 1000 ∧ (∀ i ∈ S2.wa, i < n) ∧ S2.wa.Nodup ∧ S2.rd.length ≤ most.toNat ∧
    ((S3.step = 1 ∧ S3.bay < gaps.length) ∨ (S3.step = -1 ∧ 1 ≤ S3.bay ∧ S3.bay ≤ gaps.length)) ∧
    SInv (parOf n ord gaps most) (t + 1) (k + 1) { S4 with tick := S4.tick + 1, ahead := S4.ahead - 1 } ∧ CInv (parOf n ord gaps most) (t + 1) (k + 1) c ∧ At (parOf n ord gaps most) (k + 1) t ∧
    popS (parOf n ord gaps most) (k + 1) { S4 with tick := S4.tick + 1, ahead := S4.ahead - 1 } c = { S4 with tick := S4.tick + 1, ahead := S4.ahead - 1 } := by
  intro S1 S2 S3 S4 d1 d2 d3 d4
  have o : (parOf n ord gaps most).Ok := par_ok (L := 0) Ao Oo
  generalize hp : parOf n ord gaps most = p at *
  have pn : p.n = n := by rw [← hp]; rfl
  have pL : p.L = gaps.length := by rw [← hp]; rfl
  have pm : p.most = most.toNat := by rw [← hp]; rfl
  have pd : ∀ i, p.dst i = (ord i).dst := fun i => by rw [← hp]; rfl
  have ps : ∀ i, p.src i = (ord i).src := fun i => by rw [← hp]; rfl
  have pdir : ∀ i, p.dir i = decide ((ord i).src < (ord i).dst) := fun i => by rw [← hp]; rfl
  have pg : ∀ i, p.g i = gaps.getD i 0 := fun i => by rw [← hp]; rfl
  have G := good_run o k
  have hst : S1.step = if up p k = true then 1 else -1 := by
    rw [d1]
    have := turn_step (c := c) o h
    rw [pL] at this
    exact this
  have hup : decide (S1.step = 1) = up p k := by
    rw [hst]
    cases up p k <;> rfl
  have hbay : S1.bay = bay p k := by rw [d1]; exact h.bay
  have hrd1 : S1.rd = (run p k).rid := by rw [d1]; exact h.rd
  have har1 : S1.ar = (run p k).arr := by rw [d1]; exact h.ar
  have hwa1 : S1.wa = (List.range c).filter fun i => ((run p k).tak i).isNone := by rw [d1]; rfl
  have s3 : S3.step = S1.step := by rw [d3, d2]; rfl
  have b3 : S3.bay = S1.bay := by rw [d3, d2]; rfl
  have t3 : S3.tick = S.tick := by rw [d3, d2, d1]; rfl
  have o3 : S3.co = (List.range p.n).drop c := by rw [d3, d2, d1]; rfl
  have wz : S2.wa = S1.wa := by rw [d2]; rfl
  have hn60 : n ≤ 60 := Oo.few
  have ek : S2.rd = keptOf p (bay p k) (run p k) := by
    rw [d2]
    show S1.rd.filter (fun i => !decide ((ord i).dst = S1.bay)) = _
    unfold keptOf
    rw [hrd1, hbay]
    apply List.filter_congr
    intro i _
    rw [pd]
  have eo : S2.ar = (run p k).arr ++ outOf p (bay p k) (run p k) := by
    rw [d2]
    show S1.ar ++ S1.rd.filter (fun i => decide ((ord i).dst = S1.bay)) = _
    unfold outOf
    rw [hrd1, har1, hbay]
    congr 1
    apply List.filter_congr
    intro i _
    rw [pd]
  have enw : nwW ord S2 (most.toNat - S2.rd.length) = newOf p (time p k) (bay p k) (up p k) (run p k) := by
    unfold nwW newOf
    rw [ek, pm]
    congr 1
    have f2 : fitW ord S2 = fitW ord S1 := by rw [d2]; rfl
    have w2 : S2.wa = S1.wa := by rw [d2]; rfl
    rw [f2, w2]
    rw [hwa1, List.filter_filter, ← ht, ← hcome]
    unfold lineOf
    apply List.filter_congr
    intro i _
    show (decide ((ord i).src = S1.bay) && (decide ((ord i).src < (ord i).dst) == decide (S1.step = 1)) && ((run p k).tak i).isNone) = _
    rw [hbay, hup, ps, pdir]
  have r1 : run p (k + 1) = stopM p (time p k) (bay p k) (up p k) (run p k) := rfl
  have e3 : S3.rd = (run p (k + 1)).rid := by
    rw [r1, d3]
    show S2.rd ++ nwW ord S2 (most.toNat - S2.rd.length) = keptOf p (bay p k) (run p k) ++ newOf p (time p k) (bay p k) (up p k) (run p k)
    rw [enw, ek]
  have e4 : S3.ar = (run p (k + 1)).arr := by
    rw [r1, d3]
    exact eo
  have e5 : S3.wa = (List.range c).filter fun i => ((run p (k + 1)).tak i).isNone := by
    rw [d3]
    show S2.wa.filter (fun j => decide (j ∉ nwW ord S2 (most.toNat - S2.rd.length))) = _
    have w2 : S2.wa = S1.wa := by rw [d2]; rfl
    rw [w2, hwa1, enw, List.filter_filter, r1]
    apply List.filter_congr
    intro i _
    show _ = (if i ∈ newOf p (time p k) (bay p k) (up p k) (run p k) then some (time p k) else (run p k).tak i).isNone
    by_cases z : i ∈ newOf p (time p k) (bay p k) (up p k) (run p k)
    · simp [z]
    · simp [z]
  have hleave : (S3.step = 1 ∧ S3.bay < gaps.length) ∨ (S3.step = -1 ∧ 1 ≤ S3.bay ∧ S3.bay ≤ gaps.length) := by
    have hs3 : S3.step = if up p k = true then 1 else -1 := s3.trans hst
    have hb3 : S3.bay = bay p k := b3.trans hbay
    rw [hs3, hb3, ← pL]
    cases hu : up p k with
    | true => exact .inl ⟨rfl, (bay_up hu).2⟩
    | false => exact .inr ⟨rfl, (bay_down o hu).2, bay_le o k⟩
  have s4 : S4.rd = S3.rd ∧ S4.ar = S3.ar ∧ S4.wa = S3.wa ∧ S4.co = S3.co ∧ S4.tick = S3.tick ∧ S4.step = S3.step ∧ S4.bay = bay p (k + 1) ∧ S4.ahead = len p k := by
    have hs3 : S3.step = if up p k = true then 1 else -1 := s3.trans hst
    have hb3 : S3.bay = bay p k := b3.trans hbay
    rw [d4]
    show (leaveW gaps S3).rd = _ ∧ (leaveW gaps S3).ar = _ ∧ (leaveW gaps S3).wa = _ ∧ (leaveW gaps S3).co = _ ∧ (leaveW gaps S3).tick = _ ∧ (leaveW gaps S3).step = _ ∧ (leaveW gaps S3).bay = _ ∧ (leaveW gaps S3).ahead = _
    cases hu : up p k with
    | true =>
      have e : leaveW gaps S3 = { S3 with ahead := gaps.getD S3.bay 0, bay := S3.bay + 1 } := by unfold leaveW; rw [hs3, hu, if_pos rfl, if_pos rfl]
      rw [e]
      refine ⟨rfl, rfl, rfl, rfl, rfl, rfl, ?_, ?_⟩
      · show S3.bay + 1 = _; rw [hb3, bay_succ_up o hu]
      · show gaps.getD S3.bay 0 = _; rw [hb3, len_up hu, pg]
    | false =>
      have e : leaveW gaps S3 = { S3 with ahead := gaps.getD (S3.bay - 1) 0, bay := S3.bay - 1 } := by unfold leaveW; rw [hs3, hu, if_neg (by decide), if_neg (by decide)]
      rw [e]
      refine ⟨rfl, rfl, rfl, rfl, rfl, rfl, ?_, ?_⟩
      · show S3.bay - 1 = _; rw [hb3, bay_succ_down o hu]
      · show gaps.getD (S3.bay - 1) 0 = _; rw [hb3, len_down o hu, pg]
  obtain ⟨q1, q2, q3, q4, q5, q6, q7, q8⟩ := s4
  have ridlen := (good_run o k).ridN.length_le_of_subset (l₂ := List.range p.n) fun i hi => List.mem_range.mpr (rid_lt o hi)
  rw [List.length_range] at ridlen
  have arrlen := arr_len o k
  refine ⟨fun i hi => ?_, ?_, ?_, fun i hi => ?_, ?_, ?_, hleave, ⟨?_, ?_, ?_, fun j hj => ?_, q7, ?_, ?_, ?_⟩, ⟨hc.cn, fun i hi => ?_, fun i a b => ?_⟩, ⟨?_, fun j hj => ?_⟩, ?_⟩
  · rw [hrd1] at hi; rw [← pn]; exact rid_lt o hi
  · rw [hrd1]; omega
  · rw [har1]; omega
  · have hi' : i ∈ S1.wa := by rw [← wz]; exact hi
    rw [hwa1] at hi'
    have := List.mem_range.mp (List.mem_filter.mp hi').1
    have := hc.cn
    omega
  · rw [wz, hwa1]
    exact List.Nodup.sublist List.filter_sublist List.nodup_range
  · rw [ek, ← pm]
    exact Nat.le_trans kept_len G.most
  · show S4.tick + 1 = t + 1
    rw [q5, t3, h.tick]
  · show S4.ahead - 1 = _
    rw [q8, time_succ, ht]; omega
  · have := time_lt o k; omega
  · have : j = k ∨ j < k := by omega
    rcases this with e | e
    · rw [e, ht]; omega
    · have := h.past j e; omega
  · intro z1 z2
    show S4.step = _
    rw [q6, s3, hst]
    have hle := bay_le o (k + 1)
    cases hu : up p k with
    | true =>
      have : up p (k + 1) = true := by rw [up_succ_up o hu]; exact decide_eq_true (by omega)
      rw [this]
    | false =>
      have : up p (k + 1) = false := by rw [up_succ_down o hu]; exact decide_eq_false (by omega)
      rw [this]
  · show S4.rd = _
    rw [q1, e3]
  · show S4.ar = _
    rw [q2, e4]
  · have := hc.c1 i hi; omega
  · rw [r1]
    show (if i ∈ newOf p (time p k) (bay p k) (up p k) (run p k) then some (time p k) else (run p k).tak i) = none
    rw [if_neg]
    · exact hc.c2 i a b
    · intro z
      have := (mem_line.mp (List.mem_of_mem_take z)).1
      rw [← ht, ← hcome] at this
      omega
  · rw [ht]; exact time_lt o k
  · rw [ht]; exact time_mono o (by omega)
  · show SS.mk ((List.range p.n).drop c) ((List.range c).filter fun i => ((run p (k + 1)).tak i).isNone) S4.rd S4.ar (S4.tick + 1) S4.bay S4.step (S4.ahead - 1) = SS.mk S4.co S4.wa S4.rd S4.ar (S4.tick + 1) S4.bay S4.step (S4.ahead - 1)
    rw [q3, q4, e5, o3]
end
end Bay

/-! next_tick of the sweep. -/
namespace Bay
open PySem L2 PyProof.Rows
theorem seq_then {α : Type} {t u : L2.TS} {D : Ends} {σ : L2.St} {H : Hp} (Cond : α → Hp → Prop) (mk : α → L2.St) (rest : ∀ a H', Cond a H' → u D (mk a) H')
    (h : (∀ a H', Cond a H' → u D (mk a) H') → t { D with nx := u D } σ H) : tSeq t u D σ H := h rest
theorem seq_after {α : Type} {s t u : L2.TS} {D : Ends} {σ σ' : L2.St} {H : Hp} (h0 : tSeq t u D σ' H → s { D with nx := tSeq t u D } σ H) (Cond : α → Hp → Prop) (mk : α → L2.St) (rest : ∀ a H', Cond a H' → u D (mk a) H')
    (h : (∀ a H', Cond a H' → u D (mk a) H') → t { D with nx := u D } σ' H) : tSeq s (tSeq t u) D σ H := h0 (h rest)
theorem kTurn : ix "turn" sweepK = none := by decide +kernel
theorem kPut : ix "put" sweepK = none := by decide +kernel
theorem kTake : ix "take" sweepK = none := by decide +kernel
theorem kLeaveW : ix "leave" sweepK = none := by decide +kernel
/-- where the sweep stands before a tick -/
structure WInv (p : Par) (t : Int) (k c : Nat) (S : SS) : Prop where
  I : SInv p t k S
  cc : CInv p t k c
  e : popS p k S c = S
theorem pop_co {p : Par} {k c : Nat} {S : SS} (h : c < p.n) : (popS p k S c).co = c :: (popS p k S (c + 1)).co := by
  show (List.range p.n).drop c = c :: (List.range p.n).drop (c + 1)
  rw [List.drop_eq_getElem_cons (by rw [List.length_range]; exact h), List.getElem_range]
theorem pop_wa {p : Par} {k c : Nat} {S : SS} (h : (run p k).tak c = none) : (popS p k S (c + 1)).wa = (popS p k S c).wa ++ [c] := by
  show (List.range (c + 1)).filter _ = (List.range c).filter _ ++ [c]
  rw [List.range_succ, List.filter_append]
  congr 1
  have : ((run p k).tak c).isNone = true := by rw [h]; rfl
  rw [List.filter_cons, if_pos this, List.filter_nil]
theorem SweepIn.popped {C : Addr} {H0 H : Hp} {x : Addr} {gaps : List Int} {most : Int} {r : Nat → Addr} {S : SS} {dx g co wa rd ar : Addr} (h : SweepIn C H0 H x gaps most r S dx g co wa rd ar) (S' : SS) (e1 : S'.tick = S.tick) (e2 : S'.bay = S.bay) (e3 : S'.step = S.step) (e4 : S'.ahead = S.ahead) (e5 : S'.rd = S.rd) (e6 : S'.ar = S.ar) :
    SweepIn C H0 (upd (upd H co (.lst (refs r S'.co))) wa (.lst (refs r S'.wa))) x gaps most r S' dx g co wa rd ar := by
  have nd := h.nd
  simp only [List.nodup_cons, List.mem_cons, not_or, List.not_mem_nil, not_false_iff, and_true] at nd
  have keep : ∀ b o, b ≠ co → b ≠ wa → H b = some o → (upd (upd H co (.lst (refs r S'.co))) wa (.lst (refs r S'.wa))) b = some o := fun b o n1 n2 e => by
    rw [upd_ne n2, upd_ne n1]; exact e
  refine ⟨Same.but (Same.but h.same h.co0) h.wa0, h.x0, h.co0, h.wa0, h.rd0, ?_, ?_, ?_, ?_, ?_, ?_, h.nd⟩
  · rw [e1, e2, e3, e4]
    exact keep _ _ (ne_of h.obj h.oco (by intro q; cases q)) (ne_of h.obj h.owa (by intro q; cases q)) h.obj
  · exact keep _ _ nd.1.1 nd.1.2.1 h.og
  · rw [upd_ne nd.2.1.1, upd_same]
  · rw [upd_same]
  · rw [e5]; exact keep _ _ (fun z => nd.2.1.2.1 z.symm) (fun z => nd.2.2.1.1 z.symm) h.ord
  · rw [e6]; exact keep _ _ (fun z => nd.2.1.2.2 z.symm) (fun z => nd.2.2.1.2 z.symm) h.oar
theorem idx0 (m : Nat) : seqIndex? 0 (m + 1) = some 0 := by
  unfold seqIndex?
  simp
def spNext (C : Addr) : Sp := fun vs H Q _ => ∃ (H0 : Hp) (x : Addr) (n : Nat) (gaps : List Int) (most : Int) (r : Nat → Addr) (ord : Nat → Ord) (S : SS) (t : Int) (k c : Nat), vs = [.ref x] ∧ SCtx H0 n r ord gaps most ∧ SweepAt C H0 H x gaps most r S ∧ WInv (parOf n ord gaps most) t k c S ∧
  ∀ (H' : Hp) (S' : SS) (k' c' : Nat) (T n1 n2 : Addr) (ys zs : List Str) (bv : V), SweepAt C H0 H' x gaps most r S' → WInv (parOf n ord gaps most) (t + 1) k' c' S' → At (parOf n ord gaps most) k' t → (∀ j, time (parOf n ord gaps most) j = t → bv = .int (bay (parOf n ord gaps most) j : Nat)) →
    ys.Perm ((run (parOf n ord gaps most) k').rid.map fun i => (ord i).name) → sortedS ys = true → zs.Perm ((run (parOf n ord gaps most) k').arr.map fun i => (ord i).name) → sortedS zs = true →
    H' T = some (.tup [.int t, bv, .ref n1, .ref n2]) → H' n1 = some (.lst (ys.map V.str)) → H' n2 = some (.lst (zs.map V.str)) → Q (.ref T) H'
section
variable {P : Program} {w : World} {K : PySem.W.Frag} {mg : Str → Option Value} {base : Heap}
theorem scNext : FnScope ["self", "bay", "told"] ["self"] (defScope sNextTick) := ⟨rfl, rfl, rfl, by decide +kernel, rfl, by decide +kernel, by decide +kernel⟩
theorem ok_next {f C : Addr} {fd : FuncData} (F : Fun K "next_tick" "Sweep.next_tick" sNextTick f fd) (T : Txt mg) (TT : SweepTxt K C) {f1 fd1 f2 fd2 f3 fd3 f4 fd4 f5 fd5}
    (D1 : Df P w K mg base 1 "names_of" ["orders"] spNamesOf f1 fd1)
    (M2 : Mf P w K mg base 1 C "turn" ["self"] (spTurn C) f2 fd2) (M3 : Mf P w K mg base 1 C "put" ["self"] (spPut C) f3 fd3) (M4 : Mf P w K mg base 2 C "take" ["self"] (spTake C) f4 fd4) (M5 : Mf P w K mg base 1 C "leave" ["self"] (spLeaveW C) f5 fd5) :
    FnOk P w K mg base CX0 3 f fd ["self"] (spNext C) := by
  refine F.ok scNext (fun vs H Q E h => ?_) (fun cdv A outer s H vs Q E hr h => ?_)
  · obtain ⟨H0, x, n, gaps, most, r, ord, S, t, k, c, rfl, _⟩ := h
    rfl
  · obtain ⟨H0, x, n, gaps, most, r, ord, S, t, k, c, rfl, hC, hS, hW, kk⟩ := h
    have hr1 : Room 1 _ := hr.mono (by decide)
    have hr2 : Room 2 _ := hr.mono (by decide)
    have pok : (parOf n ord gaps most).Ok := par_ok (L := 0) hC.Ao hC.Oo
    have hn60 : n ≤ 60 := hC.Oo.few
    refine ⟨_, pss_cons (ps_while PassesOwn.never (PW.pt (pw_and (pt_cmpR (op_neD hr.units) (pe_fld (pv 0) rfl) (pe_lst pa_nil) (nomark _))
        (pw_and1 (pt_cmpR op_le (pe_ix ix_tup (pe_ix ix_list (pe_fld (pv 0) rfl) pe_int (fun _ _ => rfl)) pe_int (fun _ _ => rfl)) (pe_fld (pv 0) rfl) (nomark _)))))
      (pss_one (ps_expr (pe_bm PySem.F.plainAttrs_list PySem.F.slot_list_append PySem.F.type_list_append mt_append (pe_fld (pv 0) rfl)
        (pa_cons (pe_bm PySem.F.plainAttrs_list PySem.F.slot_list_pop PySem.F.type_list_pop mt_popAt (pe_fld (pv 0) rfl) (pa_cons pe_int pa_nil)) pa_nil)))))
      (pss_cons (ps_set (i := 1) scNext.nd rfl (Or.inl rfl) pe_non)
      (pss_cons (ps_if (pt_cmpR op_eq (pe_fld (pv 0) rfl) pe_int (nomark _))
        (pss_cons (ps_set (i := 1) scNext.nd rfl (Or.inl rfl) (pe_fld (pv 0) rfl))
        (pss_cons (ps_expr (pe_meth0 (pv 0) TT.cl M2.me M2.ok hr1 M2.bd .nil pass0))
        (pss_cons (ps_expr (pe_meth0 (pv 0) TT.cl M3.me M3.ok hr1 M3.bd .nil pass0))
        (pss_cons (ps_expr (pe_meth0 (pv 0) TT.cl M4.me M4.ok hr2 M4.bd .nil pass0))
        (pss_one (ps_expr (pe_meth0 (pv 0) TT.cl M5.me M5.ok hr1 M5.bd .nil pass0))))))) pss_nil)
      (pss_cons (ps_set (i := 2) scNext.nd rfl (Or.inl rfl) (pe_tup (pa_cons (pe_fld (pv 0) rfl) (pa_cons (pv 1) (pa_cons (pe_call D1.ok hr1 rfl D1.gl D1.kp D1.bd .nil pass0 (pa_cons (pe_fld (pv 0) rfl) pa_nil))
        (pa_cons (pe_call D1.ok hr1 rfl D1.gl D1.kp D1.bd .nil pass0 (pa_cons (pe_fld (pv 0) rfl) pa_nil)) pa_nil))))))
      (pss_cons (ps_fldaug (pv 0) pe_int in_add) (pss_cons (ps_fldaug (pv 0) pe_int in_sub) (pss_one (ps_ret (pv 2)))))))), ?_⟩
    refine seq_then (α := Nat) (fun c' H' => CInv (parOf n ord gaps most) t k c' ∧ c' = come (parOf n ord gaps most) t ∧ SweepAt C H0 H' x gaps most r (popS (parOf n ord gaps most) k S c')) (fun _ => [some (.ref x), none, none]) ?_ (fun post => ?_)
    · rintro c' H1 ⟨hc, hcome, hS1⟩
      refine seq_after (α := V × SS × Nat) (σ' := [some (.ref x), some .non, none]) (fun z => z) (fun q H' => SweepAt C H0 H' x gaps most r q.2.1 ∧ q.2.1.tick = t ∧ WInv (parOf n ord gaps most) (t + 1) q.2.2 c' { q.2.1 with tick := q.2.1.tick + 1, ahead := q.2.1.ahead - 1 } ∧ At (parOf n ord gaps most) q.2.2 t ∧
          (∀ j, time (parOf n ord gaps most) j = t → q.1 = .int (bay (parOf n ord gaps most) j : Nat)))
        (fun q => [some (.ref x), some q.1, none]) ?_ (fun rest => ?_)
      · rintro ⟨bv, S4, k'⟩ H4 ⟨⟨dx, g, co, wa, rd, ar, h⟩, ht, hw4, hat4, hbv⟩
        have hS4 : SInv (parOf n ord gaps most) (t + 1) k' { S4 with tick := S4.tick + 1, ahead := S4.ahead - 1 } := hw4.I
        have hr4 : S4.rd = (run (parOf n ord gaps most) k').rid := hS4.rd
        have ha4 : S4.ar = (run (parOf n ord gaps most) k').arr := hS4.ar
        have rl : ∀ i ∈ S4.rd, i < n := fun i hi => rid_lt pok (hr4 ▸ hi)
        have al : ∀ i ∈ S4.ar, i < n := fun i hi => arr_lt pok (ha4 ▸ hi)
        have rlen : S4.rd.length < 64 := by
          have := (good_run pok k').ridN.length_le_of_subset (l₂ := List.range n) fun i hi => List.mem_range.mpr (rid_lt pok hi)
          rw [List.length_range] at this
          rw [hr4]; omega
        have alen : S4.ar.length < 64 := by
          have := arr_len pok k'
          have e : (parOf n ord gaps most).n = n := rfl
          rw [ha4]; omega
        refine ⟨_, rfl, x, C, dx, _, _, rfl, h.obj, TT.cl, TT.nTick, zip_lookup yTick rfl, _, rfl, _, rfl, x, C, dx, _, _, rfl, h.obj, TT.cl, TT.nRiding, zip_lookup yRiding rfl, rd, S4.rd, r, ord, rfl, h.ord, fun i hi => h.same _ _ (hC.at_ i (rl i hi)), rlen, fun ys n1 H5 hys sys s5 n10 hn1 => ?_⟩
        have h5 := h.move s5
        refine ⟨_, rfl, x, C, dx, _, _, rfl, h5.obj, TT.cl, TT.nArrived, zip_lookup yArrived rfl, ar, S4.ar, r, ord, rfl, h5.oar, fun i hi => h5.same _ _ (hC.at_ i (al i hi)), alen, fun zs n2 H6 hzs szs s6 n20 hn2 => ?_⟩
        have h6 := h5.move s6
        refine ⟨by show 4 ≤ sizeLine; decide, fun T0 hT0 => ?_⟩
        have h7 := h6.move (same_new (o := .tup [.int S4.tick, bv, .ref n1, .ref n2]) hT0)
        have hT7 : (upd H6 T0 (.tup [.int S4.tick, bv, .ref n1, .ref n2])) T0 = some (.tup [.int S4.tick, bv, .ref n1, .ref n2]) := upd_same
        have hn17 : (upd H6 T0 (.tup [.int S4.tick, bv, .ref n1, .ref n2])) n1 = some (.lst (ys.map V.str)) := same_new hT0 _ _ (s6 _ _ hn1)
        have hn27 : (upd H6 T0 (.tup [.int S4.tick, bv, .ref n1, .ref n2])) n2 = some (.lst (zs.map V.str)) := same_new hT0 _ _ hn2
        generalize hG : upd H6 T0 (.tup [.int S4.tick, bv, .ref n1, .ref n2]) = H7 at h7 hT7 hn17 hn27
        refine ⟨_, rfl, x, C, dx, _, _, rfl, h7.obj, TT.cl, TT.nTick, zip_lookup yTick rfl, _, _, rfl, rfl, dx, _, h7.obj, zip_few few10, ?_⟩
        rw [zip_put yTick (by show 6 < 10; omega)]
        have h8 := h7.setx { S4 with tick := S4.tick + 1 } rfl rfl rfl rfl
        refine ⟨_, rfl, x, C, dx, _, _, rfl, h8.obj, TT.cl, TT.nAhead, zip_lookup yAhead rfl, _, _, rfl, rfl, dx, _, h8.obj, zip_few few10, ?_⟩
        rw [zip_put yAhead (by show 9 < 10; omega)]
        have h9 := h8.setx { S4 with tick := S4.tick + 1, ahead := S4.ahead - 1 } rfl rfl rfl rfl
        have nT : T0 ≠ x := ne_of hT7 h7.obj (by intro q; cases q)
        have n1x : n1 ≠ x := ne_of hn17 h7.obj (by intro q; cases q)
        have n2x : n2 ≠ x := ne_of hn27 h7.obj (by intro q; cases q)
        refine ⟨_, rfl, kk _ _ k' c' T0 n1 n2 ys zs bv ⟨dx, g, co, wa, rd, ar, h9⟩ hw4 hat4 hbv (hr4 ▸ hys) sys (ha4 ▸ hzs) szs ?_ ?_ ?_⟩
        · rw [upd_ne nT, upd_ne nT, ← ht]; exact hT7
        · rw [upd_ne n1x, upd_ne n1x]; exact hn17
        · rw [upd_ne n2x, upd_ne n2x]; exact hn27
      · obtain ⟨dx, g, co, wa, rd, ar, h⟩ := id hS1
        refine ⟨_, rfl, x, C, dx, _, _, rfl, h.obj, TT.cl, TT.nAhead, zip_lookup yAhead rfl, rfl, _, rfl, ?_⟩
        by_cases h0 : S.ahead = 0
        · have htk : t = time (parOf n ord gaps most) k := by have := hW.I.ahead; omega
          rw [decide_eq_true (show V.int (popS (parOf n ord gaps most) k S c').ahead = V.int 0 by rw [show (popS (parOf n ord gaps most) k S c').ahead = 0 from h0])]
          obtain ⟨a1, a2, a3, a4, a5, a6, a7, a8, a9, a10, a11⟩ := sinv_stop hC.Ao hC.Oo hW.I hc hcome htk _ _ _ _ rfl rfl rfl rfl
          refine iteT ⟨_, rfl, x, C, dx, _, _, rfl, h.obj, TT.cl, TT.nBay, zip_lookup yBay rfl, ?_⟩
          refine ⟨_, rfl, x, dx, _, rfl, h.obj, zip_none kTurn, H0, x, gaps, most, r, _, rfl, hS1, hC.Ao.l1, fun H2 T2 => ?_⟩
          obtain ⟨dx2, g2, co2, wa2, rd2, ar2, h2⟩ := id T2
          refine ⟨_, rfl, x, dx2, _, rfl, h2.obj, zip_none kPut, H0, x, n, gaps, most, r, ord, _, rfl, hC, T2, a1, a2, a3, fun H3 T3 => ?_⟩
          obtain ⟨dx3, g3, co3, wa3, rd3, ar3, h3⟩ := id T3
          refine ⟨_, rfl, x, dx3, _, rfl, h3.obj, zip_none kTake, H0, x, n, gaps, most, r, ord, _, rfl, hC, T3, a4, a5, a6, fun H4 T4 => ?_⟩
          obtain ⟨dx4, g4, co4, wa4, rd4, ar4, h4⟩ := id T4
          refine ⟨_, rfl, x, dx4, _, rfl, h4.obj, zip_none kLeaveW, H0, x, gaps, most, r, _, rfl, T4, a7, fun H5 T5 => ?_⟩
          refine rest (.int (S.bay : Nat), _, k + 1) H5 ⟨T5, ?_, ⟨a8, a9, a11⟩, a10, fun j hj => ?_⟩
          · have := a8.tick
            have e : ∀ z : Int, z + 1 = t + 1 → z = t := fun z h => by omega
            exact e _ this
          · have e : j = k := time_inj pok (by rw [hj, htk])
            rw [e, hW.I.bay]
        · rw [decide_eq_false (show ¬ V.int (popS (parOf n ord gaps most) k S c').ahead = V.int 0 from fun z => h0 (by injection z))]
          have htk : t < time (parOf n ord gaps most) k := by have := hW.I.ahead; have := hW.I.a0; omega
          obtain ⟨b1, b2, b3⟩ := sinv_still hW.I hc htk
          refine iteF (rest (.non, popS (parOf n ord gaps most) k S c', k) H1 ⟨hS1, hW.I.tick, ⟨b1, b2, rfl⟩, b3, fun j hj => ?_⟩)
          rcases Nat.lt_or_ge j k with z | z
          · have := hW.I.past j z; omega
          · have := time_mono pok z; omega
    refine ⟨fun m σ H' => ∃ (c' : Nat), m = n - c' ∧ σ = [some (.ref x), none, none] ∧ CInv (parOf n ord gaps most) t k c' ∧ SweepAt C H0 H' x gaps most r (popS (parOf n ord gaps most) k S c'),
      ⟨_, c, rfl, rfl, hW.cc, by rw [hW.e]; exact hS⟩, ?_⟩
    rintro m σ H1 ⟨c', rfl, rfl, hc, ⟨dx, g, co, wa, rd, ar, h⟩⟩
    refine ⟨_, rfl, x, C, dx, _, _, rfl, h.obj, TT.cl, TT.nComing, zip_lookup yComing rfl, Nat.zero_le _, fun l hl => ?_⟩
    have h1 := h.move (same_new (o := .lst []) hl)
    have hat : ∀ i, i < n → upd H1 l (.lst []) (r i) = some (.tup (ord i).vs) := fun i hi => h1.same _ _ (hC.at_ i hi)
    have hdr : ∀ i ∈ (popS (parOf n ord gaps most) k S c').co, i < n := fun i hi => List.mem_range.mp (List.mem_of_mem_drop hi)
    refine ne_nil h1.oco (dp_refs fun i hi => hat i (hdr i hi)) (fun d hd => by obtain ⟨i, hi, rfl⟩ := List.mem_map.mp hd; exact flat_ord (hC.Oo.ok i (hdr i hi)).nm) upd_same ⟨_, rfl, ?_⟩
    generalize hG : upd H1 l (.lst []) = H2 at h1 hat
    by_cases hlt : c' < n
    · rw [pop_co (p := parOf n ord gaps most) hlt]
      refine iteT ⟨_, rfl, x, C, dx, _, _, rfl, h1.obj, TT.cl, TT.nComing, zip_lookup yComing rfl, co, _, _, _, rfl, rfl, SqL.of h1.oco, at_of (j := 0) rfl (by rw [pop_co (p := parOf n ord gaps most) hlt]; rfl), r c', _, _, _, rfl, rfl, SqT.of (hat c' hlt), at_of (j := 1) rfl rfl, _, rfl, x, C, dx, _, _, rfl, h1.obj, TT.cl, TT.nTick, zip_lookup yTick rfl, _, _, rfl, rfl, _, rfl, ?_⟩
      by_cases hle : (ord c').tick ≤ (popS (parOf n ord gaps most) k S c').tick
      · rw [decide_eq_true hle]
        refine iteT ⟨fun σ' H' => σ' = [some (.ref x), none, none] ∧ CInv (parOf n ord gaps most) t k (c' + 1) ∧ SweepAt C H0 H' x gaps most r (popS (parOf n ord gaps most) k S (c' + 1)), ?_, ?_⟩
        · rintro σ' H' ⟨rfl, a, b⟩
          exact ⟨n - (c' + 1), by omega, c' + 1, rfl, rfl, a, b⟩
        refine ⟨_, rfl, x, C, dx, _, _, rfl, h1.obj, TT.cl, TT.nWaiting, zip_lookup yWaiting rfl, .inl ⟨rfl, _, SqL.of h1.owa⟩, ?_⟩
        have oco1 : H2 co = some (.lst (.ref (r c') :: refs r (popS (parOf n ord gaps most) k S (c' + 1)).co)) := by rw [h1.oco, pop_co (p := parOf n ord gaps most) hlt]; rfl
        have nw : wa ≠ co := fun z => by
          have nd := h.nd
          simp only [List.nodup_cons, List.mem_cons, not_or, List.not_mem_nil, not_false_iff, and_true] at nd
          exact nd.2.1.1 z.symm
        refine ⟨_, rfl, x, C, dx, _, _, rfl, h1.obj, TT.cl, TT.nComing, zip_lookup yComing rfl, .inl ⟨rfl, _, SqL.of h1.oco⟩, co, _, 0, 0, _, rfl, rfl, oco1, by decide, by decide, idx0 _, rfl, ?_⟩
        refine ⟨wa, _, _, rfl, rfl, (by rw [upd_ne nw]; exact h1.owa), ?_, rfl, ⟨(show c' + 1 ≤ n from hlt), fun i hi => ?_, fun i a b => hc.c2 i (by omega) b⟩, dx, g, co, wa, rd, ar, ?_⟩
        · rw [refs_len, sizeLine_eq]
          have g1 := List.length_filter_le (fun i => ((run (parOf n ord gaps most) k).tak i).isNone) (List.range c')
          rw [List.length_range] at g1
          show ((List.range c').filter _).length < _
          omega
        · by_cases z : i = c'
          · have : (ord c').tick ≤ t := by rw [← hW.I.tick]; exact hle
            rw [z]; exact this
          · exact hc.c1 i (by omega)
        · have e1 : refs r (popS (parOf n ord gaps most) k S c').wa ++ [.ref (r c')] = refs r (popS (parOf n ord gaps most) k S (c' + 1)).wa := by
            rw [pop_wa (hc.c2 c' (Nat.le_refl _) hlt)]
            unfold refs
            rw [List.map_append]
            rfl
          rw [e1]
          exact h1.popped (popS (parOf n ord gaps most) k S (c' + 1)) rfl rfl rfl rfl rfl rfl
      · rw [decide_eq_false hle]
        refine iteF (post c' H2 ⟨hc, come_eq pok hc.cn hc.c1 (fun _ => ?_), dx, g, co, wa, rd, ar, h1⟩)
        have : ¬ (ord c').tick ≤ t := by rw [← hW.I.tick]; exact hle
        show t < (ord c').tick
        omega
    · have hcn : c' = n := by have := hc.cn; have e : (parOf n ord gaps most).n = n := rfl; omega
      have e2 : (popS (parOf n ord gaps most) k S c').co = [] := by
        show (List.range n).drop c' = []
        rw [hcn]
        exact List.drop_of_length_le (by rw [List.length_range]; exact Nat.le_refl _)
      have e3 : (!((popS (parOf n ord gaps most) k S c').co.map fun i => ordD (ord i)).isEmpty) = false := by rw [e2]; rfl
      rw [e3]
      exact iteF (post c' H2 ⟨hc, come_eq pok hc.cn hc.c1 (fun z => absurd z (by show ¬ c' < n; omega)), dx, g, co, wa, rd, ar, h1⟩)
end
end Bay

/-! A sweep is made. -/
namespace Bay
open PySem L2 PyProof.Rows
def spSweepInit (C : Addr) : Sp := fun vs H Q _ => ∃ (H0 : Hp) (x dx a lo : Addr) (n : Nat) (r : Nat → Addr) (ord : Nat → Ord) (gaps : List Int) (most : Int), vs = [.ref x, .ref a, .ref lo] ∧ Ctx H0 a lo n r ord gaps most ∧
  Same H0 H ∧ H0 x = none ∧ H x = some (.ins C dx []) ∧ ∀ H', SweepAt C H0 H' x gaps most r (initW n) → Q .non H'
section
variable {P : Program} {w : World} {K : PySem.W.Frag} {mg : Str → Option Value} {base : Heap}
theorem scSweepInit : FnScope ["self", "aisle", "orders"] ["self", "aisle", "orders"] (defScope sSweepInit) := ⟨rfl, rfl, rfl, by decide +kernel, rfl, by decide +kernel, by decide +kernel⟩
theorem ok_sweepInit {f C : Addr} {fd : FuncData} (F : Fun K "__init__" "Sweep.__init__" sSweepInit f fd) (T : Txt mg) (TT : SweepTxt K C) {f1 fd1} (D1 : Df P w K mg base 4 "look_at_orders" ["aisle", "thing"] spLookOrders f1 fd1) :
    FnOk P w K mg base CX0 5 f fd ["self", "aisle", "orders"] (spSweepInit C) := by
  refine F.ok scSweepInit (fun vs H Q E h => ?_) (fun cdv A outer s H vs Q E hr h => ?_)
  · obtain ⟨H0, x, dx, a, lo, n, r, ord, gaps, most, rfl, _⟩ := h
    rfl
  · obtain ⟨H0, x, dx, a, lo, n, r, ord, gaps, most, rfl, hC, sm0, x0, hx, k⟩ := h
    have hr4 : Room 4 _ := hr.mono (by decide)
    refine ⟨_, pss_cons (ps_expr (pe_call D1.ok hr4 rfl D1.gl D1.kp D1.bd .nil pass0 (pa_cons (pv 1) (pa_cons (pv 2) pa_nil))))
      (pss_cons (ps_fld (pv 0) (pe_callTy call_list_of (by rfl) T.list bt_list (pa_cons (pe_ix ix_tup (pv 1) pe_int (fun _ _ => rfl)) pa_nil)) rfl)
      (pss_cons (ps_fld (pv 0) (pe_ix ix_tup (pv 1) pe_int (fun _ _ => rfl)) rfl)
      (pss_cons (ps_fld (pv 0) (pe_callTy call_list_of (by rfl) T.list bt_list (pa_cons (pv 2) pa_nil)) rfl)
      (pss_cons (ps_fld (pv 0) (pe_lst pa_nil) rfl)
      (pss_cons (ps_fld (pv 0) (pe_lst pa_nil) rfl)
      (pss_cons (ps_fld (pv 0) (pe_lst pa_nil) rfl)
      (pss_cons (ps_fld (pv 0) pe_int rfl)
      (pss_cons (ps_fld (pv 0) pe_int rfl)
      (pss_cons (ps_fld (pv 0) pe_int rfl)
      (pss_one (ps_fld (pv 0) pe_int rfl))))))))))), ?_⟩
    refine ⟨_, rfl, _, rfl, a, lo, gaps, most, n, r, ord, rfl, hC.A.same sm0, hC.Ao, hC.O.same sm0, hC.Oo, fun Hb sb => ?_⟩
    have ox0 : Hb x = some (.ins C dx (([] : List Str).zip ([] : List V))) := sb _ _ hx
    have sm : Same H0 Hb := sm0.trans sb
    obtain ⟨g0, ha, hg0⟩ := hC.A.ex
    refine ⟨_, rfl, a, _, _, _, rfl, rfl, SqT.of (sm _ _ ha), at_of (j := 0) rfl rfl, g0, _, rfl, .inl (SqL.of (sm _ _ hg0)), fun g hg => ?_⟩
    have sm' := Same.new (o := .lst (gaps.map V.int)) sm hg
    have s1 := same_new (o := .lst (gaps.map V.int)) hg
    have ox' := s1 _ _ ox0
    have of_g : (upd Hb g (.lst (gaps.map V.int))) g = some (.lst (gaps.map V.int)) := upd_same
    have nf_g : H0 g = none := Same.free sm hg
    clear sm ox0 s1
    have sm := sm'
    have ox0 := ox'
    clear sm' ox'
    generalize hG1 : upd Hb g (.lst (gaps.map V.int)) = H1x at sm ox0 of_g
    refine ⟨_, rfl, x, C, dx, _, rfl, ox0, TT.cl, TT.nGaps, zip_few (by decide), ?_⟩
    rw [zip_app (by decide +kernel) (by rfl)]
    have sm' := Same.but (o := .ins C dx ((([] : List Str) ++ (["gaps"] : List Str)).zip (([] : List V) ++ ([.ref g] : List V)))) sm x0
    have of_g' := (upd_ne (o := .ins C dx ((([] : List Str) ++ (["gaps"] : List Str)).zip (([] : List V) ++ ([.ref g] : List V)))) (ne_of of_g ox0 (by intro z; cases z))).trans of_g
    have ox1 : (upd H1x x (.ins C dx ((([] : List Str) ++ (["gaps"] : List Str)).zip (([] : List V) ++ ([.ref g] : List V))))) x = some (.ins C dx ((([] : List Str) ++ (["gaps"] : List Str)).zip (([] : List V) ++ ([.ref g] : List V)))) := upd_same
    clear sm of_g
    have sm := sm'
    have of_g := of_g'
    clear sm' of_g'
    generalize hK0 : upd H1x x (.ins C dx ((([] : List Str) ++ (["gaps"] : List Str)).zip (([] : List V) ++ ([.ref g] : List V)))) = K0x at sm ox1 of_g
    refine ⟨_, rfl, a, _, _, _, rfl, rfl, SqT.of (sm _ _ ha), at_of (j := 1) rfl rfl, _, rfl, x, C, dx, _, rfl, ox1, TT.cl, TT.nMost, zip_few (by decide), ?_⟩
    rw [zip_app (by decide +kernel) (by rfl)]
    have sm' := Same.but (o := .ins C dx (((([] : List Str) ++ (["gaps"] : List Str)) ++ (["most"] : List Str)).zip ((([] : List V) ++ ([.ref g] : List V)) ++ ([.int most] : List V)))) sm x0
    have of_g' := (upd_ne (o := .ins C dx (((([] : List Str) ++ (["gaps"] : List Str)) ++ (["most"] : List Str)).zip ((([] : List V) ++ ([.ref g] : List V)) ++ ([.int most] : List V)))) (ne_of of_g ox1 (by intro z; cases z))).trans of_g
    have ox2 : (upd K0x x (.ins C dx (((([] : List Str) ++ (["gaps"] : List Str)) ++ (["most"] : List Str)).zip ((([] : List V) ++ ([.ref g] : List V)) ++ ([.int most] : List V))))) x = some (.ins C dx (((([] : List Str) ++ (["gaps"] : List Str)) ++ (["most"] : List Str)).zip ((([] : List V) ++ ([.ref g] : List V)) ++ ([.int most] : List V)))) := upd_same
    clear sm of_g
    have sm := sm'
    have of_g := of_g'
    clear sm' of_g'
    generalize hK1 : upd K0x x (.ins C dx (((([] : List Str) ++ (["gaps"] : List Str)) ++ (["most"] : List Str)).zip ((([] : List V) ++ ([.ref g] : List V)) ++ ([.int most] : List V)))) = K1x at sm ox2 of_g
    refine ⟨_, rfl, lo, _, rfl, .inl (SqL.of (sm _ _ hC.O.lst)), fun co hco => ?_⟩
    have sm' := Same.new (o := .lst (refs r (List.range n))) sm hco
    have s1 := same_new (o := .lst (refs r (List.range n))) hco
    have ox' := s1 _ _ ox2
    have of_g' := s1 _ _ of_g
    have of_co : (upd K1x co (.lst (refs r (List.range n)))) co = some (.lst (refs r (List.range n))) := upd_same
    have nf_co : H0 co = none := Same.free sm hco
    have n_g_co : g ≠ co := fun z => by rw [z, hco] at of_g; cases of_g
    clear sm ox2 s1 of_g
    have sm := sm'
    have ox2 := ox'
    have of_g := of_g'
    clear sm' ox' of_g'
    generalize hG2 : upd K1x co (.lst (refs r (List.range n))) = H2x at sm ox2 of_co of_g
    refine ⟨_, rfl, x, C, dx, _, rfl, ox2, TT.cl, TT.nComing, zip_few (by decide), ?_⟩
    rw [zip_app (by decide +kernel) (by rfl)]
    have sm' := Same.but (o := .ins C dx ((((([] : List Str) ++ (["gaps"] : List Str)) ++ (["most"] : List Str)) ++ (["coming"] : List Str)).zip (((([] : List V) ++ ([.ref g] : List V)) ++ ([.int most] : List V)) ++ ([.ref co] : List V)))) sm x0
    have of_g' := (upd_ne (o := .ins C dx ((((([] : List Str) ++ (["gaps"] : List Str)) ++ (["most"] : List Str)) ++ (["coming"] : List Str)).zip (((([] : List V) ++ ([.ref g] : List V)) ++ ([.int most] : List V)) ++ ([.ref co] : List V)))) (ne_of of_g ox2 (by intro z; cases z))).trans of_g
    have of_co' := (upd_ne (o := .ins C dx ((((([] : List Str) ++ (["gaps"] : List Str)) ++ (["most"] : List Str)) ++ (["coming"] : List Str)).zip (((([] : List V) ++ ([.ref g] : List V)) ++ ([.int most] : List V)) ++ ([.ref co] : List V)))) (ne_of of_co ox2 (by intro z; cases z))).trans of_co
    have ox3 : (upd H2x x (.ins C dx ((((([] : List Str) ++ (["gaps"] : List Str)) ++ (["most"] : List Str)) ++ (["coming"] : List Str)).zip (((([] : List V) ++ ([.ref g] : List V)) ++ ([.int most] : List V)) ++ ([.ref co] : List V))))) x = some (.ins C dx ((((([] : List Str) ++ (["gaps"] : List Str)) ++ (["most"] : List Str)) ++ (["coming"] : List Str)).zip (((([] : List V) ++ ([.ref g] : List V)) ++ ([.int most] : List V)) ++ ([.ref co] : List V)))) := upd_same
    clear sm of_g of_co
    have sm := sm'
    have of_g := of_g'
    have of_co := of_co'
    clear sm' of_g' of_co'
    generalize hK2 : upd H2x x (.ins C dx ((((([] : List Str) ++ (["gaps"] : List Str)) ++ (["most"] : List Str)) ++ (["coming"] : List Str)).zip (((([] : List V) ++ ([.ref g] : List V)) ++ ([.int most] : List V)) ++ ([.ref co] : List V)))) = K2x at sm ox3 of_g of_co
    refine ⟨Nat.zero_le _, fun wa hwa => ?_⟩
    have sm' := Same.new (o := .lst []) sm hwa
    have s1 := same_new (o := .lst []) hwa
    have ox' := s1 _ _ ox3
    have of_g' := s1 _ _ of_g
    have of_co' := s1 _ _ of_co
    have of_wa : (upd K2x wa (.lst [])) wa = some (.lst []) := upd_same
    have nf_wa : H0 wa = none := Same.free sm hwa
    have n_g_wa : g ≠ wa := fun z => by rw [z, hwa] at of_g; cases of_g
    have n_co_wa : co ≠ wa := fun z => by rw [z, hwa] at of_co; cases of_co
    clear sm ox3 s1 of_g of_co
    have sm := sm'
    have ox3 := ox'
    have of_g := of_g'
    have of_co := of_co'
    clear sm' ox' of_g' of_co'
    generalize hG3 : upd K2x wa (.lst []) = H3x at sm ox3 of_wa of_g of_co
    refine ⟨_, rfl, x, C, dx, _, rfl, ox3, TT.cl, TT.nWaiting, zip_few (by decide), ?_⟩
    rw [zip_app (by decide +kernel) (by rfl)]
    have sm' := Same.but (o := .ins C dx (((((([] : List Str) ++ (["gaps"] : List Str)) ++ (["most"] : List Str)) ++ (["coming"] : List Str)) ++ (["waiting"] : List Str)).zip ((((([] : List V) ++ ([.ref g] : List V)) ++ ([.int most] : List V)) ++ ([.ref co] : List V)) ++ ([.ref wa] : List V)))) sm x0
    have of_g' := (upd_ne (o := .ins C dx (((((([] : List Str) ++ (["gaps"] : List Str)) ++ (["most"] : List Str)) ++ (["coming"] : List Str)) ++ (["waiting"] : List Str)).zip ((((([] : List V) ++ ([.ref g] : List V)) ++ ([.int most] : List V)) ++ ([.ref co] : List V)) ++ ([.ref wa] : List V)))) (ne_of of_g ox3 (by intro z; cases z))).trans of_g
    have of_co' := (upd_ne (o := .ins C dx (((((([] : List Str) ++ (["gaps"] : List Str)) ++ (["most"] : List Str)) ++ (["coming"] : List Str)) ++ (["waiting"] : List Str)).zip ((((([] : List V) ++ ([.ref g] : List V)) ++ ([.int most] : List V)) ++ ([.ref co] : List V)) ++ ([.ref wa] : List V)))) (ne_of of_co ox3 (by intro z; cases z))).trans of_co
    have of_wa' := (upd_ne (o := .ins C dx (((((([] : List Str) ++ (["gaps"] : List Str)) ++ (["most"] : List Str)) ++ (["coming"] : List Str)) ++ (["waiting"] : List Str)).zip ((((([] : List V) ++ ([.ref g] : List V)) ++ ([.int most] : List V)) ++ ([.ref co] : List V)) ++ ([.ref wa] : List V)))) (ne_of of_wa ox3 (by intro z; cases z))).trans of_wa
    have ox4 : (upd H3x x (.ins C dx (((((([] : List Str) ++ (["gaps"] : List Str)) ++ (["most"] : List Str)) ++ (["coming"] : List Str)) ++ (["waiting"] : List Str)).zip ((((([] : List V) ++ ([.ref g] : List V)) ++ ([.int most] : List V)) ++ ([.ref co] : List V)) ++ ([.ref wa] : List V))))) x = some (.ins C dx (((((([] : List Str) ++ (["gaps"] : List Str)) ++ (["most"] : List Str)) ++ (["coming"] : List Str)) ++ (["waiting"] : List Str)).zip ((((([] : List V) ++ ([.ref g] : List V)) ++ ([.int most] : List V)) ++ ([.ref co] : List V)) ++ ([.ref wa] : List V)))) := upd_same
    clear sm of_g of_co of_wa
    have sm := sm'
    have of_g := of_g'
    have of_co := of_co'
    have of_wa := of_wa'
    clear sm' of_g' of_co' of_wa'
    generalize hK3 : upd H3x x (.ins C dx (((((([] : List Str) ++ (["gaps"] : List Str)) ++ (["most"] : List Str)) ++ (["coming"] : List Str)) ++ (["waiting"] : List Str)).zip ((((([] : List V) ++ ([.ref g] : List V)) ++ ([.int most] : List V)) ++ ([.ref co] : List V)) ++ ([.ref wa] : List V)))) = K3x at sm ox4 of_g of_co of_wa
    refine ⟨Nat.zero_le _, fun rd hrd => ?_⟩
    have sm' := Same.new (o := .lst []) sm hrd
    have s1 := same_new (o := .lst []) hrd
    have ox' := s1 _ _ ox4
    have of_g' := s1 _ _ of_g
    have of_co' := s1 _ _ of_co
    have of_wa' := s1 _ _ of_wa
    have of_rd : (upd K3x rd (.lst [])) rd = some (.lst []) := upd_same
    have nf_rd : H0 rd = none := Same.free sm hrd
    have n_g_rd : g ≠ rd := fun z => by rw [z, hrd] at of_g; cases of_g
    have n_co_rd : co ≠ rd := fun z => by rw [z, hrd] at of_co; cases of_co
    have n_wa_rd : wa ≠ rd := fun z => by rw [z, hrd] at of_wa; cases of_wa
    clear sm ox4 s1 of_g of_co of_wa
    have sm := sm'
    have ox4 := ox'
    have of_g := of_g'
    have of_co := of_co'
    have of_wa := of_wa'
    clear sm' ox' of_g' of_co' of_wa'
    generalize hG4 : upd K3x rd (.lst []) = H4x at sm ox4 of_rd of_g of_co of_wa
    refine ⟨_, rfl, x, C, dx, _, rfl, ox4, TT.cl, TT.nRiding, zip_few (by decide), ?_⟩
    rw [zip_app (by decide +kernel) (by rfl)]
    have sm' := Same.but (o := .ins C dx ((((((([] : List Str) ++ (["gaps"] : List Str)) ++ (["most"] : List Str)) ++ (["coming"] : List Str)) ++ (["waiting"] : List Str)) ++ (["riding"] : List Str)).zip (((((([] : List V) ++ ([.ref g] : List V)) ++ ([.int most] : List V)) ++ ([.ref co] : List V)) ++ ([.ref wa] : List V)) ++ ([.ref rd] : List V)))) sm x0
    have of_g' := (upd_ne (o := .ins C dx ((((((([] : List Str) ++ (["gaps"] : List Str)) ++ (["most"] : List Str)) ++ (["coming"] : List Str)) ++ (["waiting"] : List Str)) ++ (["riding"] : List Str)).zip (((((([] : List V) ++ ([.ref g] : List V)) ++ ([.int most] : List V)) ++ ([.ref co] : List V)) ++ ([.ref wa] : List V)) ++ ([.ref rd] : List V)))) (ne_of of_g ox4 (by intro z; cases z))).trans of_g
    have of_co' := (upd_ne (o := .ins C dx ((((((([] : List Str) ++ (["gaps"] : List Str)) ++ (["most"] : List Str)) ++ (["coming"] : List Str)) ++ (["waiting"] : List Str)) ++ (["riding"] : List Str)).zip (((((([] : List V) ++ ([.ref g] : List V)) ++ ([.int most] : List V)) ++ ([.ref co] : List V)) ++ ([.ref wa] : List V)) ++ ([.ref rd] : List V)))) (ne_of of_co ox4 (by intro z; cases z))).trans of_co
    have of_wa' := (upd_ne (o := .ins C dx ((((((([] : List Str) ++ (["gaps"] : List Str)) ++ (["most"] : List Str)) ++ (["coming"] : List Str)) ++ (["waiting"] : List Str)) ++ (["riding"] : List Str)).zip (((((([] : List V) ++ ([.ref g] : List V)) ++ ([.int most] : List V)) ++ ([.ref co] : List V)) ++ ([.ref wa] : List V)) ++ ([.ref rd] : List V)))) (ne_of of_wa ox4 (by intro z; cases z))).trans of_wa
    have of_rd' := (upd_ne (o := .ins C dx ((((((([] : List Str) ++ (["gaps"] : List Str)) ++ (["most"] : List Str)) ++ (["coming"] : List Str)) ++ (["waiting"] : List Str)) ++ (["riding"] : List Str)).zip (((((([] : List V) ++ ([.ref g] : List V)) ++ ([.int most] : List V)) ++ ([.ref co] : List V)) ++ ([.ref wa] : List V)) ++ ([.ref rd] : List V)))) (ne_of of_rd ox4 (by intro z; cases z))).trans of_rd
    have ox5 : (upd H4x x (.ins C dx ((((((([] : List Str) ++ (["gaps"] : List Str)) ++ (["most"] : List Str)) ++ (["coming"] : List Str)) ++ (["waiting"] : List Str)) ++ (["riding"] : List Str)).zip (((((([] : List V) ++ ([.ref g] : List V)) ++ ([.int most] : List V)) ++ ([.ref co] : List V)) ++ ([.ref wa] : List V)) ++ ([.ref rd] : List V))))) x = some (.ins C dx ((((((([] : List Str) ++ (["gaps"] : List Str)) ++ (["most"] : List Str)) ++ (["coming"] : List Str)) ++ (["waiting"] : List Str)) ++ (["riding"] : List Str)).zip (((((([] : List V) ++ ([.ref g] : List V)) ++ ([.int most] : List V)) ++ ([.ref co] : List V)) ++ ([.ref wa] : List V)) ++ ([.ref rd] : List V)))) := upd_same
    clear sm of_g of_co of_wa of_rd
    have sm := sm'
    have of_g := of_g'
    have of_co := of_co'
    have of_wa := of_wa'
    have of_rd := of_rd'
    clear sm' of_g' of_co' of_wa' of_rd'
    generalize hK4 : upd H4x x (.ins C dx ((((((([] : List Str) ++ (["gaps"] : List Str)) ++ (["most"] : List Str)) ++ (["coming"] : List Str)) ++ (["waiting"] : List Str)) ++ (["riding"] : List Str)).zip (((((([] : List V) ++ ([.ref g] : List V)) ++ ([.int most] : List V)) ++ ([.ref co] : List V)) ++ ([.ref wa] : List V)) ++ ([.ref rd] : List V)))) = K4x at sm ox5 of_g of_co of_wa of_rd
    refine ⟨Nat.zero_le _, fun ar har => ?_⟩
    have sm' := Same.new (o := .lst []) sm har
    have s1 := same_new (o := .lst []) har
    have ox' := s1 _ _ ox5
    have of_g' := s1 _ _ of_g
    have of_co' := s1 _ _ of_co
    have of_wa' := s1 _ _ of_wa
    have of_rd' := s1 _ _ of_rd
    have of_ar : (upd K4x ar (.lst [])) ar = some (.lst []) := upd_same
    have nf_ar : H0 ar = none := Same.free sm har
    have n_g_ar : g ≠ ar := fun z => by rw [z, har] at of_g; cases of_g
    have n_co_ar : co ≠ ar := fun z => by rw [z, har] at of_co; cases of_co
    have n_wa_ar : wa ≠ ar := fun z => by rw [z, har] at of_wa; cases of_wa
    have n_rd_ar : rd ≠ ar := fun z => by rw [z, har] at of_rd; cases of_rd
    clear sm ox5 s1 of_g of_co of_wa of_rd
    have sm := sm'
    have ox5 := ox'
    have of_g := of_g'
    have of_co := of_co'
    have of_wa := of_wa'
    have of_rd := of_rd'
    clear sm' ox' of_g' of_co' of_wa' of_rd'
    generalize hG5 : upd K4x ar (.lst []) = H5x at sm ox5 of_ar of_g of_co of_wa of_rd
    refine ⟨_, rfl, x, C, dx, _, rfl, ox5, TT.cl, TT.nArrived, zip_few (by decide), ?_⟩
    rw [zip_app (by decide +kernel) (by rfl)]
    have sm' := Same.but (o := .ins C dx (((((((([] : List Str) ++ (["gaps"] : List Str)) ++ (["most"] : List Str)) ++ (["coming"] : List Str)) ++ (["waiting"] : List Str)) ++ (["riding"] : List Str)) ++ (["arrived"] : List Str)).zip ((((((([] : List V) ++ ([.ref g] : List V)) ++ ([.int most] : List V)) ++ ([.ref co] : List V)) ++ ([.ref wa] : List V)) ++ ([.ref rd] : List V)) ++ ([.ref ar] : List V)))) sm x0
    have of_g' := (upd_ne (o := .ins C dx (((((((([] : List Str) ++ (["gaps"] : List Str)) ++ (["most"] : List Str)) ++ (["coming"] : List Str)) ++ (["waiting"] : List Str)) ++ (["riding"] : List Str)) ++ (["arrived"] : List Str)).zip ((((((([] : List V) ++ ([.ref g] : List V)) ++ ([.int most] : List V)) ++ ([.ref co] : List V)) ++ ([.ref wa] : List V)) ++ ([.ref rd] : List V)) ++ ([.ref ar] : List V)))) (ne_of of_g ox5 (by intro z; cases z))).trans of_g
    have of_co' := (upd_ne (o := .ins C dx (((((((([] : List Str) ++ (["gaps"] : List Str)) ++ (["most"] : List Str)) ++ (["coming"] : List Str)) ++ (["waiting"] : List Str)) ++ (["riding"] : List Str)) ++ (["arrived"] : List Str)).zip ((((((([] : List V) ++ ([.ref g] : List V)) ++ ([.int most] : List V)) ++ ([.ref co] : List V)) ++ ([.ref wa] : List V)) ++ ([.ref rd] : List V)) ++ ([.ref ar] : List V)))) (ne_of of_co ox5 (by intro z; cases z))).trans of_co
    have of_wa' := (upd_ne (o := .ins C dx (((((((([] : List Str) ++ (["gaps"] : List Str)) ++ (["most"] : List Str)) ++ (["coming"] : List Str)) ++ (["waiting"] : List Str)) ++ (["riding"] : List Str)) ++ (["arrived"] : List Str)).zip ((((((([] : List V) ++ ([.ref g] : List V)) ++ ([.int most] : List V)) ++ ([.ref co] : List V)) ++ ([.ref wa] : List V)) ++ ([.ref rd] : List V)) ++ ([.ref ar] : List V)))) (ne_of of_wa ox5 (by intro z; cases z))).trans of_wa
    have of_rd' := (upd_ne (o := .ins C dx (((((((([] : List Str) ++ (["gaps"] : List Str)) ++ (["most"] : List Str)) ++ (["coming"] : List Str)) ++ (["waiting"] : List Str)) ++ (["riding"] : List Str)) ++ (["arrived"] : List Str)).zip ((((((([] : List V) ++ ([.ref g] : List V)) ++ ([.int most] : List V)) ++ ([.ref co] : List V)) ++ ([.ref wa] : List V)) ++ ([.ref rd] : List V)) ++ ([.ref ar] : List V)))) (ne_of of_rd ox5 (by intro z; cases z))).trans of_rd
    have of_ar' := (upd_ne (o := .ins C dx (((((((([] : List Str) ++ (["gaps"] : List Str)) ++ (["most"] : List Str)) ++ (["coming"] : List Str)) ++ (["waiting"] : List Str)) ++ (["riding"] : List Str)) ++ (["arrived"] : List Str)).zip ((((((([] : List V) ++ ([.ref g] : List V)) ++ ([.int most] : List V)) ++ ([.ref co] : List V)) ++ ([.ref wa] : List V)) ++ ([.ref rd] : List V)) ++ ([.ref ar] : List V)))) (ne_of of_ar ox5 (by intro z; cases z))).trans of_ar
    have ox6 : (upd H5x x (.ins C dx (((((((([] : List Str) ++ (["gaps"] : List Str)) ++ (["most"] : List Str)) ++ (["coming"] : List Str)) ++ (["waiting"] : List Str)) ++ (["riding"] : List Str)) ++ (["arrived"] : List Str)).zip ((((((([] : List V) ++ ([.ref g] : List V)) ++ ([.int most] : List V)) ++ ([.ref co] : List V)) ++ ([.ref wa] : List V)) ++ ([.ref rd] : List V)) ++ ([.ref ar] : List V))))) x = some (.ins C dx (((((((([] : List Str) ++ (["gaps"] : List Str)) ++ (["most"] : List Str)) ++ (["coming"] : List Str)) ++ (["waiting"] : List Str)) ++ (["riding"] : List Str)) ++ (["arrived"] : List Str)).zip ((((((([] : List V) ++ ([.ref g] : List V)) ++ ([.int most] : List V)) ++ ([.ref co] : List V)) ++ ([.ref wa] : List V)) ++ ([.ref rd] : List V)) ++ ([.ref ar] : List V)))) := upd_same
    clear sm of_g of_co of_wa of_rd of_ar
    have sm := sm'
    have of_g := of_g'
    have of_co := of_co'
    have of_wa := of_wa'
    have of_rd := of_rd'
    have of_ar := of_ar'
    clear sm' of_g' of_co' of_wa' of_rd' of_ar'
    generalize hK5 : upd H5x x (.ins C dx (((((((([] : List Str) ++ (["gaps"] : List Str)) ++ (["most"] : List Str)) ++ (["coming"] : List Str)) ++ (["waiting"] : List Str)) ++ (["riding"] : List Str)) ++ (["arrived"] : List Str)).zip ((((((([] : List V) ++ ([.ref g] : List V)) ++ ([.int most] : List V)) ++ ([.ref co] : List V)) ++ ([.ref wa] : List V)) ++ ([.ref rd] : List V)) ++ ([.ref ar] : List V)))) = K5x at sm ox6 of_g of_co of_wa of_rd of_ar
    refine ⟨_, rfl, x, C, dx, _, rfl, ox6, TT.cl, TT.nTick, zip_few (by decide), ?_⟩
    rw [zip_app (by decide +kernel) (by rfl)]
    have sm' := Same.but (o := .ins C dx ((((((((([] : List Str) ++ (["gaps"] : List Str)) ++ (["most"] : List Str)) ++ (["coming"] : List Str)) ++ (["waiting"] : List Str)) ++ (["riding"] : List Str)) ++ (["arrived"] : List Str)) ++ (["tick"] : List Str)).zip (((((((([] : List V) ++ ([.ref g] : List V)) ++ ([.int most] : List V)) ++ ([.ref co] : List V)) ++ ([.ref wa] : List V)) ++ ([.ref rd] : List V)) ++ ([.ref ar] : List V)) ++ ([.int 0] : List V)))) sm x0
    have of_g' := (upd_ne (o := .ins C dx ((((((((([] : List Str) ++ (["gaps"] : List Str)) ++ (["most"] : List Str)) ++ (["coming"] : List Str)) ++ (["waiting"] : List Str)) ++ (["riding"] : List Str)) ++ (["arrived"] : List Str)) ++ (["tick"] : List Str)).zip (((((((([] : List V) ++ ([.ref g] : List V)) ++ ([.int most] : List V)) ++ ([.ref co] : List V)) ++ ([.ref wa] : List V)) ++ ([.ref rd] : List V)) ++ ([.ref ar] : List V)) ++ ([.int 0] : List V)))) (ne_of of_g ox6 (by intro z; cases z))).trans of_g
    have of_co' := (upd_ne (o := .ins C dx ((((((((([] : List Str) ++ (["gaps"] : List Str)) ++ (["most"] : List Str)) ++ (["coming"] : List Str)) ++ (["waiting"] : List Str)) ++ (["riding"] : List Str)) ++ (["arrived"] : List Str)) ++ (["tick"] : List Str)).zip (((((((([] : List V) ++ ([.ref g] : List V)) ++ ([.int most] : List V)) ++ ([.ref co] : List V)) ++ ([.ref wa] : List V)) ++ ([.ref rd] : List V)) ++ ([.ref ar] : List V)) ++ ([.int 0] : List V)))) (ne_of of_co ox6 (by intro z; cases z))).trans of_co
    have of_wa' := (upd_ne (o := .ins C dx ((((((((([] : List Str) ++ (["gaps"] : List Str)) ++ (["most"] : List Str)) ++ (["coming"] : List Str)) ++ (["waiting"] : List Str)) ++ (["riding"] : List Str)) ++ (["arrived"] : List Str)) ++ (["tick"] : List Str)).zip (((((((([] : List V) ++ ([.ref g] : List V)) ++ ([.int most] : List V)) ++ ([.ref co] : List V)) ++ ([.ref wa] : List V)) ++ ([.ref rd] : List V)) ++ ([.ref ar] : List V)) ++ ([.int 0] : List V)))) (ne_of of_wa ox6 (by intro z; cases z))).trans of_wa
    have of_rd' := (upd_ne (o := .ins C dx ((((((((([] : List Str) ++ (["gaps"] : List Str)) ++ (["most"] : List Str)) ++ (["coming"] : List Str)) ++ (["waiting"] : List Str)) ++ (["riding"] : List Str)) ++ (["arrived"] : List Str)) ++ (["tick"] : List Str)).zip (((((((([] : List V) ++ ([.ref g] : List V)) ++ ([.int most] : List V)) ++ ([.ref co] : List V)) ++ ([.ref wa] : List V)) ++ ([.ref rd] : List V)) ++ ([.ref ar] : List V)) ++ ([.int 0] : List V)))) (ne_of of_rd ox6 (by intro z; cases z))).trans of_rd
    have of_ar' := (upd_ne (o := .ins C dx ((((((((([] : List Str) ++ (["gaps"] : List Str)) ++ (["most"] : List Str)) ++ (["coming"] : List Str)) ++ (["waiting"] : List Str)) ++ (["riding"] : List Str)) ++ (["arrived"] : List Str)) ++ (["tick"] : List Str)).zip (((((((([] : List V) ++ ([.ref g] : List V)) ++ ([.int most] : List V)) ++ ([.ref co] : List V)) ++ ([.ref wa] : List V)) ++ ([.ref rd] : List V)) ++ ([.ref ar] : List V)) ++ ([.int 0] : List V)))) (ne_of of_ar ox6 (by intro z; cases z))).trans of_ar
    have ox7 : (upd K5x x (.ins C dx ((((((((([] : List Str) ++ (["gaps"] : List Str)) ++ (["most"] : List Str)) ++ (["coming"] : List Str)) ++ (["waiting"] : List Str)) ++ (["riding"] : List Str)) ++ (["arrived"] : List Str)) ++ (["tick"] : List Str)).zip (((((((([] : List V) ++ ([.ref g] : List V)) ++ ([.int most] : List V)) ++ ([.ref co] : List V)) ++ ([.ref wa] : List V)) ++ ([.ref rd] : List V)) ++ ([.ref ar] : List V)) ++ ([.int 0] : List V))))) x = some (.ins C dx ((((((((([] : List Str) ++ (["gaps"] : List Str)) ++ (["most"] : List Str)) ++ (["coming"] : List Str)) ++ (["waiting"] : List Str)) ++ (["riding"] : List Str)) ++ (["arrived"] : List Str)) ++ (["tick"] : List Str)).zip (((((((([] : List V) ++ ([.ref g] : List V)) ++ ([.int most] : List V)) ++ ([.ref co] : List V)) ++ ([.ref wa] : List V)) ++ ([.ref rd] : List V)) ++ ([.ref ar] : List V)) ++ ([.int 0] : List V)))) := upd_same
    clear sm of_g of_co of_wa of_rd of_ar
    have sm := sm'
    have of_g := of_g'
    have of_co := of_co'
    have of_wa := of_wa'
    have of_rd := of_rd'
    have of_ar := of_ar'
    clear sm' of_g' of_co' of_wa' of_rd' of_ar'
    generalize hK6 : upd K5x x (.ins C dx ((((((((([] : List Str) ++ (["gaps"] : List Str)) ++ (["most"] : List Str)) ++ (["coming"] : List Str)) ++ (["waiting"] : List Str)) ++ (["riding"] : List Str)) ++ (["arrived"] : List Str)) ++ (["tick"] : List Str)).zip (((((((([] : List V) ++ ([.ref g] : List V)) ++ ([.int most] : List V)) ++ ([.ref co] : List V)) ++ ([.ref wa] : List V)) ++ ([.ref rd] : List V)) ++ ([.ref ar] : List V)) ++ ([.int 0] : List V)))) = K6x at sm ox7 of_g of_co of_wa of_rd of_ar
    refine ⟨_, rfl, x, C, dx, _, rfl, ox7, TT.cl, TT.nBay, zip_few (by decide), ?_⟩
    rw [zip_app (by decide +kernel) (by rfl)]
    have sm' := Same.but (o := .ins C dx (((((((((([] : List Str) ++ (["gaps"] : List Str)) ++ (["most"] : List Str)) ++ (["coming"] : List Str)) ++ (["waiting"] : List Str)) ++ (["riding"] : List Str)) ++ (["arrived"] : List Str)) ++ (["tick"] : List Str)) ++ (["bay"] : List Str)).zip ((((((((([] : List V) ++ ([.ref g] : List V)) ++ ([.int most] : List V)) ++ ([.ref co] : List V)) ++ ([.ref wa] : List V)) ++ ([.ref rd] : List V)) ++ ([.ref ar] : List V)) ++ ([.int 0] : List V)) ++ ([.int 0] : List V)))) sm x0
    have of_g' := (upd_ne (o := .ins C dx (((((((((([] : List Str) ++ (["gaps"] : List Str)) ++ (["most"] : List Str)) ++ (["coming"] : List Str)) ++ (["waiting"] : List Str)) ++ (["riding"] : List Str)) ++ (["arrived"] : List Str)) ++ (["tick"] : List Str)) ++ (["bay"] : List Str)).zip ((((((((([] : List V) ++ ([.ref g] : List V)) ++ ([.int most] : List V)) ++ ([.ref co] : List V)) ++ ([.ref wa] : List V)) ++ ([.ref rd] : List V)) ++ ([.ref ar] : List V)) ++ ([.int 0] : List V)) ++ ([.int 0] : List V)))) (ne_of of_g ox7 (by intro z; cases z))).trans of_g
    have of_co' := (upd_ne (o := .ins C dx (((((((((([] : List Str) ++ (["gaps"] : List Str)) ++ (["most"] : List Str)) ++ (["coming"] : List Str)) ++ (["waiting"] : List Str)) ++ (["riding"] : List Str)) ++ (["arrived"] : List Str)) ++ (["tick"] : List Str)) ++ (["bay"] : List Str)).zip ((((((((([] : List V) ++ ([.ref g] : List V)) ++ ([.int most] : List V)) ++ ([.ref co] : List V)) ++ ([.ref wa] : List V)) ++ ([.ref rd] : List V)) ++ ([.ref ar] : List V)) ++ ([.int 0] : List V)) ++ ([.int 0] : List V)))) (ne_of of_co ox7 (by intro z; cases z))).trans of_co
    have of_wa' := (upd_ne (o := .ins C dx (((((((((([] : List Str) ++ (["gaps"] : List Str)) ++ (["most"] : List Str)) ++ (["coming"] : List Str)) ++ (["waiting"] : List Str)) ++ (["riding"] : List Str)) ++ (["arrived"] : List Str)) ++ (["tick"] : List Str)) ++ (["bay"] : List Str)).zip ((((((((([] : List V) ++ ([.ref g] : List V)) ++ ([.int most] : List V)) ++ ([.ref co] : List V)) ++ ([.ref wa] : List V)) ++ ([.ref rd] : List V)) ++ ([.ref ar] : List V)) ++ ([.int 0] : List V)) ++ ([.int 0] : List V)))) (ne_of of_wa ox7 (by intro z; cases z))).trans of_wa
    have of_rd' := (upd_ne (o := .ins C dx (((((((((([] : List Str) ++ (["gaps"] : List Str)) ++ (["most"] : List Str)) ++ (["coming"] : List Str)) ++ (["waiting"] : List Str)) ++ (["riding"] : List Str)) ++ (["arrived"] : List Str)) ++ (["tick"] : List Str)) ++ (["bay"] : List Str)).zip ((((((((([] : List V) ++ ([.ref g] : List V)) ++ ([.int most] : List V)) ++ ([.ref co] : List V)) ++ ([.ref wa] : List V)) ++ ([.ref rd] : List V)) ++ ([.ref ar] : List V)) ++ ([.int 0] : List V)) ++ ([.int 0] : List V)))) (ne_of of_rd ox7 (by intro z; cases z))).trans of_rd
    have of_ar' := (upd_ne (o := .ins C dx (((((((((([] : List Str) ++ (["gaps"] : List Str)) ++ (["most"] : List Str)) ++ (["coming"] : List Str)) ++ (["waiting"] : List Str)) ++ (["riding"] : List Str)) ++ (["arrived"] : List Str)) ++ (["tick"] : List Str)) ++ (["bay"] : List Str)).zip ((((((((([] : List V) ++ ([.ref g] : List V)) ++ ([.int most] : List V)) ++ ([.ref co] : List V)) ++ ([.ref wa] : List V)) ++ ([.ref rd] : List V)) ++ ([.ref ar] : List V)) ++ ([.int 0] : List V)) ++ ([.int 0] : List V)))) (ne_of of_ar ox7 (by intro z; cases z))).trans of_ar
    have ox8 : (upd K6x x (.ins C dx (((((((((([] : List Str) ++ (["gaps"] : List Str)) ++ (["most"] : List Str)) ++ (["coming"] : List Str)) ++ (["waiting"] : List Str)) ++ (["riding"] : List Str)) ++ (["arrived"] : List Str)) ++ (["tick"] : List Str)) ++ (["bay"] : List Str)).zip ((((((((([] : List V) ++ ([.ref g] : List V)) ++ ([.int most] : List V)) ++ ([.ref co] : List V)) ++ ([.ref wa] : List V)) ++ ([.ref rd] : List V)) ++ ([.ref ar] : List V)) ++ ([.int 0] : List V)) ++ ([.int 0] : List V))))) x = some (.ins C dx (((((((((([] : List Str) ++ (["gaps"] : List Str)) ++ (["most"] : List Str)) ++ (["coming"] : List Str)) ++ (["waiting"] : List Str)) ++ (["riding"] : List Str)) ++ (["arrived"] : List Str)) ++ (["tick"] : List Str)) ++ (["bay"] : List Str)).zip ((((((((([] : List V) ++ ([.ref g] : List V)) ++ ([.int most] : List V)) ++ ([.ref co] : List V)) ++ ([.ref wa] : List V)) ++ ([.ref rd] : List V)) ++ ([.ref ar] : List V)) ++ ([.int 0] : List V)) ++ ([.int 0] : List V)))) := upd_same
    clear sm of_g of_co of_wa of_rd of_ar
    have sm := sm'
    have of_g := of_g'
    have of_co := of_co'
    have of_wa := of_wa'
    have of_rd := of_rd'
    have of_ar := of_ar'
    clear sm' of_g' of_co' of_wa' of_rd' of_ar'
    generalize hK7 : upd K6x x (.ins C dx (((((((((([] : List Str) ++ (["gaps"] : List Str)) ++ (["most"] : List Str)) ++ (["coming"] : List Str)) ++ (["waiting"] : List Str)) ++ (["riding"] : List Str)) ++ (["arrived"] : List Str)) ++ (["tick"] : List Str)) ++ (["bay"] : List Str)).zip ((((((((([] : List V) ++ ([.ref g] : List V)) ++ ([.int most] : List V)) ++ ([.ref co] : List V)) ++ ([.ref wa] : List V)) ++ ([.ref rd] : List V)) ++ ([.ref ar] : List V)) ++ ([.int 0] : List V)) ++ ([.int 0] : List V)))) = K7x at sm ox8 of_g of_co of_wa of_rd of_ar
    refine ⟨_, rfl, x, C, dx, _, rfl, ox8, TT.cl, TT.nStep, zip_few (by decide), ?_⟩
    rw [zip_app (by decide +kernel) (by rfl)]
    have sm' := Same.but (o := .ins C dx ((((((((((([] : List Str) ++ (["gaps"] : List Str)) ++ (["most"] : List Str)) ++ (["coming"] : List Str)) ++ (["waiting"] : List Str)) ++ (["riding"] : List Str)) ++ (["arrived"] : List Str)) ++ (["tick"] : List Str)) ++ (["bay"] : List Str)) ++ (["step"] : List Str)).zip (((((((((([] : List V) ++ ([.ref g] : List V)) ++ ([.int most] : List V)) ++ ([.ref co] : List V)) ++ ([.ref wa] : List V)) ++ ([.ref rd] : List V)) ++ ([.ref ar] : List V)) ++ ([.int 0] : List V)) ++ ([.int 0] : List V)) ++ ([.int 1] : List V)))) sm x0
    have of_g' := (upd_ne (o := .ins C dx ((((((((((([] : List Str) ++ (["gaps"] : List Str)) ++ (["most"] : List Str)) ++ (["coming"] : List Str)) ++ (["waiting"] : List Str)) ++ (["riding"] : List Str)) ++ (["arrived"] : List Str)) ++ (["tick"] : List Str)) ++ (["bay"] : List Str)) ++ (["step"] : List Str)).zip (((((((((([] : List V) ++ ([.ref g] : List V)) ++ ([.int most] : List V)) ++ ([.ref co] : List V)) ++ ([.ref wa] : List V)) ++ ([.ref rd] : List V)) ++ ([.ref ar] : List V)) ++ ([.int 0] : List V)) ++ ([.int 0] : List V)) ++ ([.int 1] : List V)))) (ne_of of_g ox8 (by intro z; cases z))).trans of_g
    have of_co' := (upd_ne (o := .ins C dx ((((((((((([] : List Str) ++ (["gaps"] : List Str)) ++ (["most"] : List Str)) ++ (["coming"] : List Str)) ++ (["waiting"] : List Str)) ++ (["riding"] : List Str)) ++ (["arrived"] : List Str)) ++ (["tick"] : List Str)) ++ (["bay"] : List Str)) ++ (["step"] : List Str)).zip (((((((((([] : List V) ++ ([.ref g] : List V)) ++ ([.int most] : List V)) ++ ([.ref co] : List V)) ++ ([.ref wa] : List V)) ++ ([.ref rd] : List V)) ++ ([.ref ar] : List V)) ++ ([.int 0] : List V)) ++ ([.int 0] : List V)) ++ ([.int 1] : List V)))) (ne_of of_co ox8 (by intro z; cases z))).trans of_co
    have of_wa' := (upd_ne (o := .ins C dx ((((((((((([] : List Str) ++ (["gaps"] : List Str)) ++ (["most"] : List Str)) ++ (["coming"] : List Str)) ++ (["waiting"] : List Str)) ++ (["riding"] : List Str)) ++ (["arrived"] : List Str)) ++ (["tick"] : List Str)) ++ (["bay"] : List Str)) ++ (["step"] : List Str)).zip (((((((((([] : List V) ++ ([.ref g] : List V)) ++ ([.int most] : List V)) ++ ([.ref co] : List V)) ++ ([.ref wa] : List V)) ++ ([.ref rd] : List V)) ++ ([.ref ar] : List V)) ++ ([.int 0] : List V)) ++ ([.int 0] : List V)) ++ ([.int 1] : List V)))) (ne_of of_wa ox8 (by intro z; cases z))).trans of_wa
    have of_rd' := (upd_ne (o := .ins C dx ((((((((((([] : List Str) ++ (["gaps"] : List Str)) ++ (["most"] : List Str)) ++ (["coming"] : List Str)) ++ (["waiting"] : List Str)) ++ (["riding"] : List Str)) ++ (["arrived"] : List Str)) ++ (["tick"] : List Str)) ++ (["bay"] : List Str)) ++ (["step"] : List Str)).zip (((((((((([] : List V) ++ ([.ref g] : List V)) ++ ([.int most] : List V)) ++ ([.ref co] : List V)) ++ ([.ref wa] : List V)) ++ ([.ref rd] : List V)) ++ ([.ref ar] : List V)) ++ ([.int 0] : List V)) ++ ([.int 0] : List V)) ++ ([.int 1] : List V)))) (ne_of of_rd ox8 (by intro z; cases z))).trans of_rd
    have of_ar' := (upd_ne (o := .ins C dx ((((((((((([] : List Str) ++ (["gaps"] : List Str)) ++ (["most"] : List Str)) ++ (["coming"] : List Str)) ++ (["waiting"] : List Str)) ++ (["riding"] : List Str)) ++ (["arrived"] : List Str)) ++ (["tick"] : List Str)) ++ (["bay"] : List Str)) ++ (["step"] : List Str)).zip (((((((((([] : List V) ++ ([.ref g] : List V)) ++ ([.int most] : List V)) ++ ([.ref co] : List V)) ++ ([.ref wa] : List V)) ++ ([.ref rd] : List V)) ++ ([.ref ar] : List V)) ++ ([.int 0] : List V)) ++ ([.int 0] : List V)) ++ ([.int 1] : List V)))) (ne_of of_ar ox8 (by intro z; cases z))).trans of_ar
    have ox9 : (upd K7x x (.ins C dx ((((((((((([] : List Str) ++ (["gaps"] : List Str)) ++ (["most"] : List Str)) ++ (["coming"] : List Str)) ++ (["waiting"] : List Str)) ++ (["riding"] : List Str)) ++ (["arrived"] : List Str)) ++ (["tick"] : List Str)) ++ (["bay"] : List Str)) ++ (["step"] : List Str)).zip (((((((((([] : List V) ++ ([.ref g] : List V)) ++ ([.int most] : List V)) ++ ([.ref co] : List V)) ++ ([.ref wa] : List V)) ++ ([.ref rd] : List V)) ++ ([.ref ar] : List V)) ++ ([.int 0] : List V)) ++ ([.int 0] : List V)) ++ ([.int 1] : List V))))) x = some (.ins C dx ((((((((((([] : List Str) ++ (["gaps"] : List Str)) ++ (["most"] : List Str)) ++ (["coming"] : List Str)) ++ (["waiting"] : List Str)) ++ (["riding"] : List Str)) ++ (["arrived"] : List Str)) ++ (["tick"] : List Str)) ++ (["bay"] : List Str)) ++ (["step"] : List Str)).zip (((((((((([] : List V) ++ ([.ref g] : List V)) ++ ([.int most] : List V)) ++ ([.ref co] : List V)) ++ ([.ref wa] : List V)) ++ ([.ref rd] : List V)) ++ ([.ref ar] : List V)) ++ ([.int 0] : List V)) ++ ([.int 0] : List V)) ++ ([.int 1] : List V)))) := upd_same
    clear sm of_g of_co of_wa of_rd of_ar
    have sm := sm'
    have of_g := of_g'
    have of_co := of_co'
    have of_wa := of_wa'
    have of_rd := of_rd'
    have of_ar := of_ar'
    clear sm' of_g' of_co' of_wa' of_rd' of_ar'
    generalize hK8 : upd K7x x (.ins C dx ((((((((((([] : List Str) ++ (["gaps"] : List Str)) ++ (["most"] : List Str)) ++ (["coming"] : List Str)) ++ (["waiting"] : List Str)) ++ (["riding"] : List Str)) ++ (["arrived"] : List Str)) ++ (["tick"] : List Str)) ++ (["bay"] : List Str)) ++ (["step"] : List Str)).zip (((((((((([] : List V) ++ ([.ref g] : List V)) ++ ([.int most] : List V)) ++ ([.ref co] : List V)) ++ ([.ref wa] : List V)) ++ ([.ref rd] : List V)) ++ ([.ref ar] : List V)) ++ ([.int 0] : List V)) ++ ([.int 0] : List V)) ++ ([.int 1] : List V)))) = K8x at sm ox9 of_g of_co of_wa of_rd of_ar
    refine ⟨_, rfl, x, C, dx, _, rfl, ox9, TT.cl, TT.nAhead, zip_few (by decide), ?_⟩
    rw [zip_app (by decide +kernel) (by rfl)]
    have sm' := Same.but (o := .ins C dx (((((((((((([] : List Str) ++ (["gaps"] : List Str)) ++ (["most"] : List Str)) ++ (["coming"] : List Str)) ++ (["waiting"] : List Str)) ++ (["riding"] : List Str)) ++ (["arrived"] : List Str)) ++ (["tick"] : List Str)) ++ (["bay"] : List Str)) ++ (["step"] : List Str)) ++ (["ahead"] : List Str)).zip ((((((((((([] : List V) ++ ([.ref g] : List V)) ++ ([.int most] : List V)) ++ ([.ref co] : List V)) ++ ([.ref wa] : List V)) ++ ([.ref rd] : List V)) ++ ([.ref ar] : List V)) ++ ([.int 0] : List V)) ++ ([.int 0] : List V)) ++ ([.int 1] : List V)) ++ ([.int 0] : List V)))) sm x0
    have of_g' := (upd_ne (o := .ins C dx (((((((((((([] : List Str) ++ (["gaps"] : List Str)) ++ (["most"] : List Str)) ++ (["coming"] : List Str)) ++ (["waiting"] : List Str)) ++ (["riding"] : List Str)) ++ (["arrived"] : List Str)) ++ (["tick"] : List Str)) ++ (["bay"] : List Str)) ++ (["step"] : List Str)) ++ (["ahead"] : List Str)).zip ((((((((((([] : List V) ++ ([.ref g] : List V)) ++ ([.int most] : List V)) ++ ([.ref co] : List V)) ++ ([.ref wa] : List V)) ++ ([.ref rd] : List V)) ++ ([.ref ar] : List V)) ++ ([.int 0] : List V)) ++ ([.int 0] : List V)) ++ ([.int 1] : List V)) ++ ([.int 0] : List V)))) (ne_of of_g ox9 (by intro z; cases z))).trans of_g
    have of_co' := (upd_ne (o := .ins C dx (((((((((((([] : List Str) ++ (["gaps"] : List Str)) ++ (["most"] : List Str)) ++ (["coming"] : List Str)) ++ (["waiting"] : List Str)) ++ (["riding"] : List Str)) ++ (["arrived"] : List Str)) ++ (["tick"] : List Str)) ++ (["bay"] : List Str)) ++ (["step"] : List Str)) ++ (["ahead"] : List Str)).zip ((((((((((([] : List V) ++ ([.ref g] : List V)) ++ ([.int most] : List V)) ++ ([.ref co] : List V)) ++ ([.ref wa] : List V)) ++ ([.ref rd] : List V)) ++ ([.ref ar] : List V)) ++ ([.int 0] : List V)) ++ ([.int 0] : List V)) ++ ([.int 1] : List V)) ++ ([.int 0] : List V)))) (ne_of of_co ox9 (by intro z; cases z))).trans of_co
    have of_wa' := (upd_ne (o := .ins C dx (((((((((((([] : List Str) ++ (["gaps"] : List Str)) ++ (["most"] : List Str)) ++ (["coming"] : List Str)) ++ (["waiting"] : List Str)) ++ (["riding"] : List Str)) ++ (["arrived"] : List Str)) ++ (["tick"] : List Str)) ++ (["bay"] : List Str)) ++ (["step"] : List Str)) ++ (["ahead"] : List Str)).zip ((((((((((([] : List V) ++ ([.ref g] : List V)) ++ ([.int most] : List V)) ++ ([.ref co] : List V)) ++ ([.ref wa] : List V)) ++ ([.ref rd] : List V)) ++ ([.ref ar] : List V)) ++ ([.int 0] : List V)) ++ ([.int 0] : List V)) ++ ([.int 1] : List V)) ++ ([.int 0] : List V)))) (ne_of of_wa ox9 (by intro z; cases z))).trans of_wa
    have of_rd' := (upd_ne (o := .ins C dx (((((((((((([] : List Str) ++ (["gaps"] : List Str)) ++ (["most"] : List Str)) ++ (["coming"] : List Str)) ++ (["waiting"] : List Str)) ++ (["riding"] : List Str)) ++ (["arrived"] : List Str)) ++ (["tick"] : List Str)) ++ (["bay"] : List Str)) ++ (["step"] : List Str)) ++ (["ahead"] : List Str)).zip ((((((((((([] : List V) ++ ([.ref g] : List V)) ++ ([.int most] : List V)) ++ ([.ref co] : List V)) ++ ([.ref wa] : List V)) ++ ([.ref rd] : List V)) ++ ([.ref ar] : List V)) ++ ([.int 0] : List V)) ++ ([.int 0] : List V)) ++ ([.int 1] : List V)) ++ ([.int 0] : List V)))) (ne_of of_rd ox9 (by intro z; cases z))).trans of_rd
    have of_ar' := (upd_ne (o := .ins C dx (((((((((((([] : List Str) ++ (["gaps"] : List Str)) ++ (["most"] : List Str)) ++ (["coming"] : List Str)) ++ (["waiting"] : List Str)) ++ (["riding"] : List Str)) ++ (["arrived"] : List Str)) ++ (["tick"] : List Str)) ++ (["bay"] : List Str)) ++ (["step"] : List Str)) ++ (["ahead"] : List Str)).zip ((((((((((([] : List V) ++ ([.ref g] : List V)) ++ ([.int most] : List V)) ++ ([.ref co] : List V)) ++ ([.ref wa] : List V)) ++ ([.ref rd] : List V)) ++ ([.ref ar] : List V)) ++ ([.int 0] : List V)) ++ ([.int 0] : List V)) ++ ([.int 1] : List V)) ++ ([.int 0] : List V)))) (ne_of of_ar ox9 (by intro z; cases z))).trans of_ar
    have ox10 : (upd K8x x (.ins C dx (((((((((((([] : List Str) ++ (["gaps"] : List Str)) ++ (["most"] : List Str)) ++ (["coming"] : List Str)) ++ (["waiting"] : List Str)) ++ (["riding"] : List Str)) ++ (["arrived"] : List Str)) ++ (["tick"] : List Str)) ++ (["bay"] : List Str)) ++ (["step"] : List Str)) ++ (["ahead"] : List Str)).zip ((((((((((([] : List V) ++ ([.ref g] : List V)) ++ ([.int most] : List V)) ++ ([.ref co] : List V)) ++ ([.ref wa] : List V)) ++ ([.ref rd] : List V)) ++ ([.ref ar] : List V)) ++ ([.int 0] : List V)) ++ ([.int 0] : List V)) ++ ([.int 1] : List V)) ++ ([.int 0] : List V))))) x = some (.ins C dx (((((((((((([] : List Str) ++ (["gaps"] : List Str)) ++ (["most"] : List Str)) ++ (["coming"] : List Str)) ++ (["waiting"] : List Str)) ++ (["riding"] : List Str)) ++ (["arrived"] : List Str)) ++ (["tick"] : List Str)) ++ (["bay"] : List Str)) ++ (["step"] : List Str)) ++ (["ahead"] : List Str)).zip ((((((((((([] : List V) ++ ([.ref g] : List V)) ++ ([.int most] : List V)) ++ ([.ref co] : List V)) ++ ([.ref wa] : List V)) ++ ([.ref rd] : List V)) ++ ([.ref ar] : List V)) ++ ([.int 0] : List V)) ++ ([.int 0] : List V)) ++ ([.int 1] : List V)) ++ ([.int 0] : List V)))) := upd_same
    clear sm of_g of_co of_wa of_rd of_ar
    have sm := sm'
    have of_g := of_g'
    have of_co := of_co'
    have of_wa := of_wa'
    have of_rd := of_rd'
    have of_ar := of_ar'
    clear sm' of_g' of_co' of_wa' of_rd' of_ar'
    generalize hK9 : upd K8x x (.ins C dx (((((((((((([] : List Str) ++ (["gaps"] : List Str)) ++ (["most"] : List Str)) ++ (["coming"] : List Str)) ++ (["waiting"] : List Str)) ++ (["riding"] : List Str)) ++ (["arrived"] : List Str)) ++ (["tick"] : List Str)) ++ (["bay"] : List Str)) ++ (["step"] : List Str)) ++ (["ahead"] : List Str)).zip ((((((((((([] : List V) ++ ([.ref g] : List V)) ++ ([.int most] : List V)) ++ ([.ref co] : List V)) ++ ([.ref wa] : List V)) ++ ([.ref rd] : List V)) ++ ([.ref ar] : List V)) ++ ([.int 0] : List V)) ++ ([.int 0] : List V)) ++ ([.int 1] : List V)) ++ ([.int 0] : List V)))) = K9x at sm ox10 of_g of_co of_wa of_rd of_ar
    refine k _ ⟨dx, g, co, wa, rd, ar, ?_⟩
    refine ⟨sm, x0, nf_co, nf_wa, nf_rd, ox10, of_g, of_co, of_wa, of_rd, of_ar, ?_⟩
    simp only [List.nodup_cons, List.mem_cons, not_or, List.not_mem_nil, not_false_iff, and_true]
    exact ⟨⟨n_g_co, n_g_wa, n_g_rd, n_g_ar⟩, ⟨n_co_wa, n_co_rd, n_co_ar⟩, ⟨n_wa_rd, n_wa_ar⟩, n_rd_ar, trivial, List.nodup_nil⟩
end
end Bay

/-! The law's pool of numbers. -/
namespace Bay
open PySem L2 PyProof.Rows
/-- all but one cell stays -/
def But (q : Addr) (H H' : Hp) : Prop := ∀ b o, b ≠ q → H b = some o → H' b = some o
theorem But.refl (q : Addr) (H : Hp) : But q H H := fun _ _ _ e => e
theorem But.trans {q : Addr} {H H1 H2 : Hp} (a : But q H H1) (b : But q H1 H2) : But q H H2 := fun c o n e => b c o n (a c o n e)
theorem Same.but' {q : Addr} {H H1 : Hp} (s : Same H H1) : But q H H1 := fun b o _ e => s b o e
theorem but_upd {q : Addr} {H : Hp} {o : HO} : But q H (upd H q o) := fun b u n e => by rw [upd_ne n]; exact e
/-- a pool of numbers: what is left of a big one, a seed -/
structure PoolAt (H : Hp) (q : Addr) : Prop where
  ex : ∃ c s : Int, H q = some (.lst [.int c, .int s]) ∧ 0 ≤ s ∧ s < 2147483647
def spPool (K : PySem.W.Frag) : Sp := fun vs H Q _ => ∃ (l : Addr) (xs : List Int) (k : Int), vs = [.ref l, .int k] ∧ SqL K H l (xs.map V.int) ∧ 0 ≤ k ∧ k ≤ 1000 ∧ ∀ H' q, Same H H' → H q = none → PoolAt H' q → Q (.ref q) H'
def spDraw : Sp := fun vs H Q _ => ∃ (q : Addr) (m : Int), vs = [.ref q, .int m] ∧ PoolAt H q ∧ 0 < m ∧ m ≤ 1000000 ∧ ∀ v H', 0 ≤ v → v < m → But q H H' → PoolAt H' q → Q (.int v) H'
section
variable {P : Program} {w : World} {K : PySem.W.Frag} {mg : Str → Option Value} {base : Heap}
theorem scPool : FnScope ["_law_script", "_law_k", "_law_cell", "_law_seed"] ["_law_script", "_law_k"] (defScope sLPool) := ⟨rfl, rfl, rfl, by decide +kernel, rfl, by decide +kernel, by decide +kernel⟩
theorem ok_pool {f : Addr} {fd : FuncData} (F : Fun K "_law_pool" "_law_pool" sLPool f fd) (T : Txt mg) : FnOk P w K mg base CX0 1 f fd ["_law_script", "_law_k"] (spPool K) := by
  refine F.ok scPool (fun vs H Q E h => ?_) (fun cdv A outer s H vs Q E hr h => ?_)
  · obtain ⟨l, xs, k, rfl, _⟩ := h
    rfl
  · obtain ⟨l, xs, k, rfl, hl, k0, k1, kk⟩ := h
    refine ⟨_, pss_cons (ps_set (i := 2) scPool.nd rfl (Or.inl rfl) pe_int)
      (pss_cons (ps_if (pt_cmpR op_lt (pv 1) (pe_callB call_len_seq (by rfl) T.len PySem.boot_len (pa_cons (pv 0) pa_nil)) (nomark _)) (pss_one (ps_set (i := 2) scPool.nd rfl (Or.inl rfl) (pe_ix ix_list (pv 0) (pv 1) (fun _ _ => rfl)))) pss_nil)
      (pss_cons (ps_set (i := 3) scPool.nd rfl (Or.inl rfl) (pe_op op_mod (pe_op op_mul (pe_op op_add (pe_op op_add (pe_op op_mod (pv 2) pe_int) (pe_op op_mul (pe_op op_mul pe_int (pv 1)) (pv 1))) pe_int) pe_int) pe_int))
      (pss_cons (ps_if (pt_cmpR op_lt (pv 2) (pe_op op_pow pe_int pe_int) (nomark _)) (pss_one (ps_set (i := 2) scPool.nd rfl (Or.inl rfl) pe_int)) pss_nil)
      (pss_one (ps_ret (pe_lst (pa_cons (pv 2) (pa_cons (pv 3) pa_nil)))))))), ?_⟩
    refine seq_after (α := Int) (σ' := [some (.ref l), some (.int k), some (.int 0), none]) (fun z => z) (fun c H' => H' = H) (fun c => [some (.ref l), some (.int k), some (.int c), none]) ?_ (fun rest => ?_)
    · rintro c H' rfl
      refine ⟨_, rfl, _, _, rfl, rfl, (show (0 : Int) < 1000000007 by decide), _, rfl, _, _, rfl, rfl, .inl ⟨by decide, by decide⟩, _, rfl, _, _, rfl, rfl, .inr ⟨by omega, by omega⟩, _, _, rfl, rfl, _, _, rfl, rfl, _, _, rfl, rfl, .inr ⟨by decide, by decide⟩, _, _, rfl, rfl, (show (0 : Int) < 2147483647 by decide), ?_⟩
      have s0 := Int.emod_nonneg ((c % 1000000007 + 15485863 * k * k + 3) * 16807) (show (2147483647 : Int) ≠ 0 by decide)
      have s1 := Int.emod_lt_of_pos ((c % 1000000007 + 15485863 * k * k + 3) * 16807) (show (0 : Int) < 2147483647 by decide)
      refine ⟨_, rfl, _, _, rfl, rfl, ⟨by decide, by decide, by decide⟩, _, _, rfl, rfl, ?_⟩
      have fin : ∀ c' : Int, ∀ q, H' q = none → Q (.ref q) (upd H' q (.lst [.int c', .int ((c % 1000000007 + 15485863 * k * k + 3) * 16807 % 2147483647)])) := fun c' q hq => kk _ q (same_new hq) hq ⟨c', _, upd_same, s0, s1⟩
      refine ⟨_, rfl, ?_⟩
      cases decide (c < 10 ^ Int.toNat 18) with
      | true => exact iteT ⟨_, rfl, _, rfl, (by show 2 ≤ sizeLine; decide), fun q hq => fin _ q hq⟩
      | false => exact iteF ⟨_, rfl, _, rfl, (by show 2 ≤ sizeLine; decide), fun q hq => fin _ q hq⟩
    · refine ⟨_, rfl, _, rfl, l, _, rfl, .inl hl, _, _, rfl, rfl, _, rfl, ?_⟩
      rw [List.length_map]
      by_cases h : k < (xs.length : Int)
      · rw [decide_eq_true h]
        obtain ⟨j, rfl⟩ : ∃ j : Nat, k = (j : Int) := ⟨k.toNat, by omega⟩
        have hj : j < xs.length := by omega
        exact iteT ⟨_, rfl, _, rfl, l, _, _, _, rfl, rfl, hl, atI_nat (by rw [List.getElem?_map, List.getElem?_eq_getElem hj]; rfl), rest _ _ rfl⟩
      · rw [decide_eq_false h]
        exact iteF (rest _ _ rfl)
theorem scDraw : FnScope ["_law_pool_here", "_law_many", "_law_found"] ["_law_pool_here", "_law_many"] (defScope sLTake) := ⟨rfl, rfl, rfl, by decide +kernel, rfl, by decide +kernel, by decide +kernel⟩
theorem ok_draw {f : Addr} {fd : FuncData} (F : Fun K "_law_take" "_law_take" sLTake f fd) (T : Txt mg) : FnOk P w K mg base CX0 1 f fd ["_law_pool_here", "_law_many"] spDraw := by
  refine F.ok scDraw (fun vs H Q E h => ?_) (fun cdv A outer s H vs Q E hr h => ?_)
  · obtain ⟨q, m, rfl, _⟩ := h
    rfl
  · obtain ⟨q, m, rfl, ⟨c, s, hq, s0, s1⟩, m0, m1, kk⟩ := h
    refine ⟨_, pss_cons (ps_if (pt_cmpR op_gt (pe_ix ix_list (pv 0) pe_int (fun _ _ => rfl)) pe_int (nomark _))
        (pss_cons (ps_set (i := 2) scDraw.nd rfl (Or.inl rfl) (pe_op op_mod (pe_ix ix_list (pv 0) pe_int (fun _ _ => rfl)) (pv 1)))
        (pss_cons (ps_asg (pe_op op_fdiv (pe_ix ix_list (pv 0) pe_int (fun _ _ => rfl)) (pv 1)) (pg_sub (pv 0) pe_int set_list))
        (pss_one (ps_ret (pv 2))))) pss_nil)
      (pss_cons (ps_asg (pe_op op_mod (pe_op op_add (pe_op op_mul (pe_ix ix_list (pv 0) pe_int (fun _ _ => rfl)) pe_int) pe_int) pe_int) (pg_sub (pv 0) pe_int set_list))
      (pss_one (ps_ret (pe_op op_mod (pe_op op_fdiv (pe_op op_mod (pe_op op_mul (pe_ix ix_list (pv 0) pe_int (fun _ _ => rfl)) (pe_ix ix_list (pv 0) pe_int (fun _ _ => rfl))) pe_int) pe_int) (pv 1))))), ?_⟩
    refine ⟨_, rfl, q, _, _, _, rfl, rfl, SqL.of hq, at_of (j := 0) rfl rfl, _, _, rfl, rfl, _, rfl, ?_⟩
    by_cases hc : c > 0
    · rw [decide_eq_true hc]
      refine iteT ⟨_, rfl, q, _, _, _, rfl, rfl, SqL.of hq, at_of (j := 0) rfl rfl, _, rfl, _, _, rfl, rfl, m0, _, rfl, q, _, _, _, rfl, rfl, SqL.of hq, at_of (j := 0) rfl rfl, _, rfl, _, _, rfl, rfl, ⟨m0, by omega⟩, ?_⟩
      refine ⟨_, rfl, q, _, _, 0, rfl, rfl, hq, rfl, _, rfl, ?_⟩
      exact kk _ _ (Int.emod_nonneg _ (by omega)) (Int.emod_lt_of_pos _ m0) but_upd ⟨_, _, upd_same, s0, s1⟩
    · rw [decide_eq_false hc]
      refine iteF ⟨_, rfl, q, _, _, _, rfl, rfl, SqL.of hq, at_of (j := 1) rfl rfl, _, _, rfl, rfl, .inr ⟨by decide, by decide⟩, _, _, rfl, rfl, _, _, rfl, rfl, (show (0 : Int) < 2147483647 by decide), ?_⟩
      have t0 := Int.emod_nonneg (s * 48271 + 11) (show (2147483647 : Int) ≠ 0 by decide)
      have t1 := Int.emod_lt_of_pos (s * 48271 + 11) (show (0 : Int) < 2147483647 by decide)
      refine ⟨_, rfl, q, _, _, 1, rfl, rfl, hq, rfl, ?_⟩
      have hq' : (upd H q (.lst [.int c, .int ((s * 48271 + 11) % 2147483647)])) q = some (.lst [.int c, .int ((s * 48271 + 11) % 2147483647)]) := upd_same
      refine ⟨_, rfl, q, _, _, _, rfl, rfl, SqL.of hq', at_of (j := 1) rfl rfl, _, rfl, q, _, _, _, rfl, rfl, SqL.of hq', at_of (j := 1) rfl rfl, _, _, rfl, rfl, .inl ⟨by omega, by omega⟩, _, _, rfl, rfl, (show (0 : Int) < 2147483629 by decide), _, _, rfl, rfl, ⟨by decide, by decide⟩, _, rfl, _, _, rfl, rfl, m0, ?_⟩
      exact kk _ _ (Int.emod_nonneg _ (by omega)) (Int.emod_lt_of_pos _ m0) but_upd ⟨_, _, upd_same, t0, t1⟩
end
end Bay

/-! The law's aisle. -/
namespace Bay
open PySem L2 PyProof.Rows
theorem PoolAt.but {H H' : Hp} {q : Addr} (h : PoolAt H q) (s : Same H H') : PoolAt H' q := let ⟨c, t, a, b, d⟩ := h.ex; ⟨c, t, s _ _ a, b, d⟩
theorem PoolAt.ne {H : Hp} {q b : Addr} (h : PoolAt H q) (z : H b = none) : q ≠ b := fun e => by
  obtain ⟨c, t, a, _⟩ := h.ex
  rw [e, z] at a
  cases a
/-- an aisle whose list is not the pool -/
structure AisleQ (H : Hp) (q A : Addr) (gaps : List Int) (most : Int) : Prop where
  nA : A ≠ q
  ex : ∃ g, g ≠ q ∧ H A = some (.tup [.ref g, .int most]) ∧ H g = some (.lst (gaps.map V.int))
theorem AisleQ.but {H H' : Hp} {q A : Addr} {gaps : List Int} {most : Int} (h : AisleQ H q A gaps most) (b : But q H H') : AisleQ H' q A gaps most :=
  let ⟨g, n, e1, e2⟩ := h.ex
  ⟨h.nA, g, n, b _ _ h.nA e1, b _ _ n e2⟩
theorem AisleQ.at {H : Hp} {q A : Addr} {gaps : List Int} {most : Int} (h : AisleQ H q A gaps most) : AisleAt H A gaps most :=
  let ⟨g, _, e1, e2⟩ := h.ex
  ⟨g, e1, e2⟩
def spLAisle : Sp := fun vs H Q _ => ∃ (q : Addr) (mg lg : Int), vs = [.ref q, .int mg, .int lg] ∧ PoolAt H q ∧ 1 ≤ mg ∧ mg ≤ 15 ∧ 1 ≤ lg ∧ lg ≤ 1000 ∧
  ∀ (H' : Hp) (A : Addr) (gaps : List Int) (most : Int), But q H H' → PoolAt H' q → AisleQ H' q A gaps most → AisleOk gaps most → Q (.ref A) H'
section
variable {P : Program} {w : World} {K : PySem.W.Frag} {mg : Str → Option Value} {base : Heap}
theorem scLAisle : FnScope ["_law_pool_here", "_law_most_gaps", "_law_longest", "_law_gaps", "_law_k"] ["_law_pool_here", "_law_most_gaps", "_law_longest"] (defScope sLAisle) := ⟨rfl, rfl, rfl, by decide +kernel, rfl, by decide +kernel, by decide +kernel⟩
theorem ok_lAisle {f : Addr} {fd : FuncData} (F : Fun K "_law_aisle" "_law_aisle" sLAisle f fd) (T : Txt mg) {f1 fd1} (D1 : Df P w K mg base 1 "_law_take" ["_law_pool_here", "_law_many"] spDraw f1 fd1) : FnOk P w K mg base CX0 2 f fd ["_law_pool_here", "_law_most_gaps", "_law_longest"] spLAisle := by
  refine F.ok scLAisle (fun vs H Q E h => ?_) (fun cdv A outer s H vs Q E hr h => ?_)
  · obtain ⟨q, m, lg, rfl, _⟩ := h
    rfl
  · obtain ⟨q, m, lg, rfl, hq, m0, m1, l0, l1, kk⟩ := h
    refine ⟨_, pss_cons (ps_setLc (i := 3) (own := [("_law_k", 4)]) (g := gName 4) (by rfl) scLAisle.nd rfl rfl rfl (pi_range1 (by rfl) T.range (pa_cons (pe_op op_add pe_int (pe_call D1.ok hr rfl D1.gl D1.kp D1.bd .nil pass0 (pa_cons (pv 0) (pa_cons (pv 1) pa_nil)))) pa_nil))
        (blkOk_by (own := [("_law_k", 4)]) (N := ["_law_pool_here", "_law_most_gaps", "_law_longest", "_law_gaps", "_law_k"]) (sc := defScope sLAisle) (by decide +kernel))
        (fun _ _ _ _ _ => pg_name (i := 4) scLAisle.nd rfl (Or.inl rfl)) (fun _ _ _ _ _ => pts_nil) (fun _ _ _ _ _ => pe_op op_add pe_int (pe_call D1.ok hr rfl D1.gl D1.kp D1.bd .nil pass0 (pa_cons (pv 0) (pa_cons (pv 2) pa_nil)))))
      (pss_one (ps_ret (pe_tup (pa_cons (pv 3) (pa_cons (pe_op op_add pe_int (pe_call D1.ok hr rfl D1.gl D1.kp D1.bd .nil pass0 (pa_cons (pv 0) (pa_cons (pe_ix ix_list (pe_lst (pa_cons pe_int (pa_cons pe_int (pa_cons pe_int pa_nil))))
        (pe_call D1.ok hr rfl D1.gl D1.kp D1.bd .nil pass0 (pa_cons (pv 0) (pa_cons pe_int pa_nil))) (fun _ _ => rfl)) pa_nil)))) pa_nil))))), ?_⟩
    refine ⟨_, rfl, _, rfl, q, m, rfl, hq, by omega, by omega, fun v H1 v0 v1 b1 p1 => ?_⟩
    refine ⟨_, _, rfl, rfl, _, rfl, by omega, by omega, fun D hD => ?_⟩
    have nq : q ≠ D := p1.ne hD
    obtain ⟨nn, hnn⟩ : ∃ nn : Nat, (1 + v).toNat = nn ∧ 1 ≤ nn ∧ nn ≤ 15 := ⟨_, rfl, by omega, by omega⟩
    refine lc_range (fun i H' => (∀ b o, b ≠ q → b ≠ D → H1 b = some o → H' b = some o) ∧ PoolAt H' q ∧ ∃ gs : List Int, H' D = some (.lst (gs.map V.int)) ∧ gs.length = i ∧ ∀ y ∈ gs, 1 ≤ y ∧ y ≤ lg) ⟨fun b o _ n e => by rw [upd_ne n]; exact e, p1.but (same_new hD), [], upd_same, rfl, fun y hy => (nomatch hy)⟩ ?_ ?_
    · rintro i H2 hi ⟨a1, a2, gs, a3, a4, a5⟩
      refine ⟨rfl, tyesT ⟨_, rfl, _, rfl, q, lg, rfl, a2, by omega, by omega, fun u H3 u0 u1 b3 p3 => ?_⟩⟩
      have hD3 := b3 _ _ nq.symm a3
      refine ⟨_, _, rfl, rfl, _, hD3, ?_, ?_, ?_, gs ++ [1 + u], ?_, ?_, ?_⟩
      · rw [List.length_map, a4, sizeLine_eq]
        have hi' : i < (1 + v).toNat := hi
        omega
      · intro b o n1 n2 e
        rw [upd_ne n2]
        exact b3 _ _ n1 (a1 b o n1 n2 e)
      · obtain ⟨c, s', e1, e2⟩ := p3.ex
        exact ⟨c, s', by rw [upd_ne nq]; exact e1, e2⟩
      · rw [upd_same, List.map_append]; rfl
      · rw [List.length_append, a4]; rfl
      · intro y hy
        rcases List.mem_append.mp hy with hy | hy
        · exact a5 y hy
        · have : y = 1 + u := by simpa using hy
          omega
    · rintro H2 ⟨a1, a2, gs, a3, a4, a5⟩
      have a4 : gs.length = (1 + v).toNat := a4
      refine ⟨_, rfl, _, rfl, (show 3 ≤ sizeLine by decide), fun L hL => ?_⟩
      have p3 := a2.but (same_new (o := .lst [.int 1, .int 3, .int 20]) hL)
      have nD : D ≠ L := fun z => by rw [z, hL] at a3; cases a3
      refine ⟨_, rfl, q, 3, rfl, p3, by decide, by decide, fun u H3 u0 u1 b3 p4 => ?_⟩
      have nqL : q ≠ L := a2.ne hL
      have hL3 : H3 L = some (.lst [.int 1, .int 3, .int 20]) := b3 _ _ nqL.symm upd_same
      have hD3 : H3 D = some (.lst (gs.map V.int)) := b3 _ _ nq.symm (by rw [upd_ne nD]; exact a3)
      obtain ⟨mm, hmm, mm1, mm2⟩ : ∃ mm : Int, atI [V.int 1, V.int 3, V.int 20] u = some (.int mm) ∧ 1 ≤ mm ∧ mm ≤ 20 := by
        have : u = 0 ∨ u = 1 ∨ u = 2 := by omega
        rcases this with rfl | rfl | rfl
        · exact ⟨1, rfl, by decide, by decide⟩
        · exact ⟨3, rfl, by decide, by decide⟩
        · exact ⟨20, rfl, by decide, by decide⟩
      refine ⟨L, _, _, _, rfl, rfl, SqL.of hL3, hmm, q, mm, rfl, p4, by omega, by omega, fun y H4 y0 y1 b4 p5 => ?_⟩
      refine ⟨_, _, rfl, rfl, (show 2 ≤ sizeLine by decide), fun A hA => ?_⟩
      have hD4 := b4 _ _ nq.symm hD3
      refine kk _ A gs (1 + y) ?_ (p5.but (same_new hA)) ⟨(p5.ne hA).symm, D, nq.symm, upd_same, same_new hA _ _ hD4⟩ ⟨by omega, by omega, fun z hz => (a5 z hz).1, fun z hz => by have := (a5 z hz).2; omega, by omega, by omega⟩
      intro b o n e
      have e1 := b1 b o n e
      have nb : b ≠ D := fun z => by rw [z, hD] at e1; cases e1
      have e2 := a1 b o n nb e1
      exact same_new hA _ _ (b4 b o n (b3 b o n (same_new hL _ _ e2)))
end
end Bay

/-! The law's names. -/
namespace Bay
open PySem L2 PyProof.Rows
def tail3 (m : Nat) : Str := if m = 0 then "" else if m = 1 then "a" else "zz"
def tells (a : Nat) : Str := ⟨#[97 + a % 26]⟩ ++ tail3 (a / 26)
def mores (salt : Nat) : Str := ⟨(List.replicate (salt / 26 % 6) (97 + salt % 26)).toArray⟩
def lname (salt k : Nat) : Str := if salt % 2 = 0 then mores salt ++ tells ((37 * k + salt) % 61) else tells ((37 * k + salt) % 61) ++ mores salt
theorem str_app (a b : Str) : (a ++ b).cps.toList = a.cps.toList ++ b.cps.toList := by
  show (a.cps ++ b.cps).toList = _
  rw [Array.toList_append]
theorem str_ext {a b : Str} (h : a.cps.toList = b.cps.toList) : a = b := by
  cases a; cases b
  congr 1
  exact Array.toList_inj.mp h
theorem str_len (a : Str) : a.length = a.cps.toList.length := rfl
theorem tells_inj : ∀ a, a < 61 → ∀ b, b < 61 → tells a = tells b → a = b := by decide +kernel
theorem tells_ok : ∀ a, a < 61 → NameOk (tells a) ∧ (tells a).length ≤ 3 := by unfold NameOk; decide +kernel
theorem letters_at : ∀ i, i < 26 → letters.cps.toList[i]? = some (97 + i) := by decide +kernel
theorem letters_has : ∀ i, i < 26 → 97 + i ∈ letters.cps.toList := by decide +kernel
theorem mores_ok (salt : Nat) : (mores salt).length ≤ 5 ∧ ∀ c ∈ (mores salt).cps.toList, c ∈ letters.cps.toList := by
  refine ⟨?_, fun c hc => ?_⟩
  · show (List.replicate (salt / 26 % 6) (97 + salt % 26)).toArray.size ≤ 5
    rw [List.size_toArray, List.length_replicate]
    omega
  · have h : c ∈ List.replicate (salt / 26 % 6) (97 + salt % 26) := hc
    rw [(List.mem_replicate.mp h).2]
    exact letters_has _ (Nat.mod_lt _ (by decide))
theorem app_ok {a b : Str} (h1 : 1 ≤ a.length + b.length) (h2 : a.length + b.length ≤ 8) (h3 : ∀ c ∈ a.cps.toList, c ∈ letters.cps.toList) (h4 : ∀ c ∈ b.cps.toList, c ∈ letters.cps.toList) : NameOk (a ++ b) := by
  have e : (a ++ b).length = a.length + b.length := by rw [str_len, str_app, List.length_append]; rfl
  refine ⟨by omega, by omega, fun c hc => ?_⟩
  rw [str_app] at hc
  rcases List.mem_append.mp hc with h | h
  · exact h3 c h
  · exact h4 c h
theorem lname_ok (salt k : Nat) : NameOk (lname salt k) := by
  obtain ⟨⟨t1, t2, t3⟩, t4⟩ := tells_ok ((37 * k + salt) % 61) (Nat.mod_lt _ (by decide))
  obtain ⟨m1, m2⟩ := mores_ok salt
  unfold lname
  split
  · exact app_ok (by omega) (by omega) m2 t3
  · exact app_ok (by omega) (by omega) t3 m2
theorem lname_inj {salt k k' : Nat} (h1 : k < 61) (h2 : k' < 61) (h : lname salt k = lname salt k') : k = k' := by
  have ht : tells ((37 * k + salt) % 61) = tells ((37 * k' + salt) % 61) := by
    unfold lname at h
    split at h
    · have := congrArg (fun z : Str => z.cps.toList) h
      simp only [str_app] at this
      exact str_ext (List.append_cancel_left this)
    · have := congrArg (fun z : Str => z.cps.toList) h
      simp only [str_app] at this
      exact str_ext (List.append_cancel_right this)
  have := tells_inj _ (Nat.mod_lt _ (by decide)) _ (Nat.mod_lt _ (by decide)) ht
  omega
def spLName : Sp := fun vs H Q _ => ∃ k salt : Nat, vs = [.int (k : Int), .int (salt : Int)] ∧ k < 61 ∧ salt < 9516 ∧ ∀ H', Same H H' → Q (.str (lname salt k)) H'
section
variable {P : Program} {w : World} {K : PySem.W.Frag} {mg : Str → Option Value} {base : Heap}
theorem scLName : FnScope ["_law_k", "_law_salt", "_law_letters", "_law_at", "_law_tell", "_law_more"] ["_law_k", "_law_salt"] (defScope sLName) := ⟨rfl, rfl, rfl, by decide +kernel, rfl, by decide +kernel, by decide +kernel⟩
theorem ok_lName {f : Addr} {fd : FuncData} (F : Fun K "_law_name" "_law_name" sLName f fd) (T : Txt mg) : FnOk P w K mg base CX0 1 f fd ["_law_k", "_law_salt"] spLName := by
  refine F.ok scLName (fun vs H Q E h => ?_) (fun cdv A outer s H vs Q E hr h => ?_)
  · obtain ⟨k, salt, rfl, _⟩ := h
    rfl
  · obtain ⟨k, salt, rfl, hk, hs, kk⟩ := h
    refine ⟨_, pss_cons (ps_set (i := 2) scLName.nd rfl (Or.inl rfl) pe_str)
      (pss_cons (ps_set (i := 3) scLName.nd rfl (Or.inl rfl) (pe_op op_mod (pe_op op_add (pe_op op_mul pe_int (pv 0)) (pv 1)) pe_int))
      (pss_cons (ps_set (i := 4) scLName.nd rfl (Or.inl rfl) (pe_op op_add_str (pe_ix ix_str (pv 2) (pe_op op_mod (pv 3) pe_int) (fun _ _ => rfl)) (pe_ix ix_list (pe_lst (pa_cons pe_str (pa_cons pe_str (pa_cons pe_str pa_nil)))) (pe_op op_fdiv (pv 3) pe_int) (fun _ _ => rfl))))
      (pss_cons (ps_set (i := 5) scLName.nd rfl (Or.inl rfl) (pe_op op_repS (pe_ix ix_str (pv 2) (pe_op op_mod (pv 1) pe_int) (fun _ _ => rfl)) (pe_op op_mod (pe_op op_fdiv (pv 1) pe_int) pe_int)))
      (pss_cons (ps_if (pt_cmpR op_eq (pe_op op_mod (pv 1) pe_int) pe_int (nomark _)) (pss_one (ps_ret (pe_op op_add_str (pv 5) (pv 4)))) pss_nil)
      (pss_one (ps_ret (pe_op op_add_str (pv 4) (pv 5)))))))), ?_⟩
    obtain ⟨a, ha⟩ : ∃ a, a = (37 * k + salt) % 61 := ⟨_, rfl⟩
    have ha1 : (37 * (k : Int) + (salt : Int)) % 61 = (a : Int) := by omega
    have ha2 : a < 61 := by omega
    refine ⟨_, rfl, _, _, rfl, rfl, .inl ⟨by decide, by decide⟩, _, rfl, _, _, rfl, rfl, _, _, rfl, rfl, (show (0 : Int) < 61 by decide), ?_⟩
    have i1 : atI letters.cps.toList ((37 * (k : Int) + (salt : Int)) % 61 % 26) = some (97 + a % 26) := by
      rw [show (37 * (k : Int) + (salt : Int)) % 61 % 26 = ((a % 26 : Nat) : Int) by omega]
      exact atI_nat (letters_at _ (Nat.mod_lt _ (by decide)))
    have i2 : atI [V.str "", V.str "a", V.str "zz"] ((37 * (k : Int) + (salt : Int)) % 61 / 26) = some (.str (tail3 (a / 26))) := by
      rw [show (37 * (k : Int) + (salt : Int)) % 61 / 26 = ((a / 26 : Nat) : Int) by omega]
      refine atI_nat ?_
      have : a / 26 = 0 ∨ a / 26 = 1 ∨ a / 26 = 2 := by omega
      rcases this with e | e | e <;> rw [e] <;> rfl
    have i3 : atI letters.cps.toList ((salt : Int) % 26) = some (97 + salt % 26) := by
      rw [show (salt : Int) % 26 = ((salt % 26 : Nat) : Int) by omega]
      exact atI_nat (letters_at _ (Nat.mod_lt _ (by decide)))
    obtain ⟨⟨t1, t2, t3⟩, t4⟩ := tells_ok a ha2
    obtain ⟨m1, m2⟩ := mores_ok salt
    have em : (⟨(List.replicate ((salt : Int) / 26 % 6).toNat (97 + salt % 26)).toArray⟩ : Str) = mores salt := by
      unfold mores
      rw [show ((salt : Int) / 26 % 6).toNat = salt / 26 % 6 by omega]
    have hlet : letters.length ≤ sizeLine := by rw [sizeLine_eq]; decide +kernel
    have tlen : (⟨#[97 + a % 26]⟩ : Str).length + (tail3 (a / 26)).length ≤ sizeLine := by
      have e : (tells a).length = (⟨#[97 + a % 26]⟩ : Str).length + (tail3 (a / 26)).length := by
        show ((⟨#[97 + a % 26]⟩ : Str) ++ tail3 (a / 26)).length = _
        rw [str_len, str_app, List.length_append]
        rfl
      rw [sizeLine_eq]
      omega
    refine ⟨_, rfl, _, rfl, _, _, rfl, rfl, (show (0 : Int) < 26 by decide), letters, _, 97 + a % 26, rfl, rfl, hlet, i1, (show 3 ≤ sizeLine by decide), fun L hL => ?_⟩
    refine ⟨_, rfl, _, _, rfl, rfl, ⟨by decide, by decide⟩, L, _, _, _, rfl, rfl, SqL.of upd_same, i2, _, _, rfl, rfl, tlen, ?_⟩
    refine ⟨_, rfl, _, rfl, _, _, rfl, rfl, (show (0 : Int) < 26 by decide), letters, _, 97 + salt % 26, rfl, rfl, hlet, i3, _, rfl, _, _, rfl, rfl, ⟨by decide, by decide⟩, _, _, rfl, rfl, (show (0 : Int) < 6 by decide), _, _, rfl, rfl, ?_, ?_, ?_⟩
    · omega
    · omega
    rw [em]
    refine ⟨_, rfl, _, _, rfl, rfl, (show (0 : Int) < 2 by decide), rfl, _, rfl, ?_⟩
    by_cases h : salt % 2 = 0
    · rw [decide_eq_true (show V.int ((salt : Int) % 2) = V.int 0 by rw [show (salt : Int) % 2 = 0 by omega])]
      refine iteT ⟨_, rfl, _, rfl, mores salt, tells a, rfl, rfl, by rw [sizeLine_eq]; omega, ?_⟩
      have := kk (upd H L (.lst [V.str "", V.str "a", V.str "zz"])) (same_new hL)
      unfold lname at this
      rw [if_pos h, ← ha] at this
      exact this
    · rw [decide_eq_false (show ¬ V.int ((salt : Int) % 2) = V.int 0 from fun z => h (by injection z with z; omega))]
      refine iteF ⟨_, rfl, _, rfl, tells a, mores salt, rfl, rfl, by rw [sizeLine_eq]; omega, ?_⟩
      have := kk (upd H L (.lst [V.str "", V.str "a", V.str "zz"])) (same_new hL)
      unfold lname at this
      rw [if_neg h, ← ha] at this
      exact this
end
end Bay

/-! The law's orders. -/
namespace Bay
open PySem L2 PyProof.Rows
theorem mod_near {x m : Int} (h0 : 0 ≤ x) (h1 : x < 2 * m) : x % m = if x < m then x else x - m := by
  split
  · rename_i h
    exact Int.emod_eq_of_lt h0 h
  · rename_i h
    have e : x = (x - m) + m * 1 := by omega
    rw [e, Int.add_mul_emod_self_left]
    have : x - m + m * 1 - m = x - m := by omega
    rw [this]
    exact Int.emod_eq_of_lt (by omega) (by omega)
/-- one more at the end -/
def put1 {α : Type} (f : Nat → α) (i : Nat) (a : α) : Nat → α := fun j => if j = i then a else f j
theorem put1_at {α : Type} {f : Nat → α} {i : Nat} {a : α} : put1 f i a i = a := if_pos rfl
theorem put1_lt {α : Type} {f : Nat → α} {i j : Nat} {a : α} (h : j < i) : put1 f i a j = f j := if_neg (by omega)
theorem refs_put1 {r : Nat → Addr} {i : Nat} {a : Addr} : refs (put1 r i a) (List.range (i + 1)) = refs r (List.range i) ++ [.ref a] := by
  unfold refs
  rw [List.range_succ, List.map_append]
  congr 1
  · apply List.map_congr_left
    intro j hj
    rw [put1_lt (List.mem_range.mp hj)]
  · show [V.ref (put1 r i a i)] = _
    rw [put1_at]
/-- the orders so far -/
structure SoFar (L salt : Nat) (T : Int) (i : Nat) (ord : Nat → Ord) : Prop where
  T0 : 0 ≤ T
  T1 : T ≤ 90 * i
  ok : ∀ j, j < i → OrdOk (ord j) L ∧ (ord j).name = lname salt j ∧ (ord j).tick ≤ T
  srt : ∀ j k, j ≤ k → k < i → (ord j).tick ≤ (ord k).tick
theorem SoFar.one {L salt : Nat} {T T' : Int} {i : Nat} {ord : Nat → Ord} {o : Ord} (h : SoFar L salt T i ord) (hT : T ≤ T') (hT1 : T' ≤ T + 90) (hi : i < 61) (ho : OrdOk o L) (hn : o.name = lname salt i) (ht : o.tick = T') : SoFar L salt T' (i + 1) (put1 ord i o) := by
  refine ⟨by have := h.T0; omega, by have := h.T1; omega, fun j hj => ?_, fun j k hjk hk => ?_⟩
  · by_cases e : j = i
    · rw [e, put1_at]
      exact ⟨ho, hn, by omega⟩
    · rw [put1_lt (show j < i by omega)]
      obtain ⟨a, b, c⟩ := h.ok j (by omega)
      exact ⟨a, b, by omega⟩
  · by_cases e : k = i
    · rw [e, put1_at]
      by_cases e2 : j = i
      · rw [e2, put1_at]; exact Int.le_refl _
      · rw [put1_lt (show j < i by omega)]
        have := (h.ok j (by omega)).2.2
        omega
    · rw [put1_lt (show k < i by omega), put1_lt (show j < i by omega)]
      exact h.srt j k hjk (by omega)
theorem SoFar.done {L salt : Nat} {T : Int} {n : Nat} {ord : Nat → Ord} (h : SoFar L salt T n ord) (hn : n ≤ 60) : OrdsOk n ord L :=
  ⟨hn, fun i hi => (h.ok i hi).1, h.srt, fun i j hi hj e => lname_inj (salt := salt) (by omega) (by omega) (by rw [← (h.ok i hi).2.1, ← (h.ok j hj).2.1, e])⟩
def spLOrders (K : PySem.W.Frag) : Sp := fun vs H Q _ => ∃ (sc hp : Addr) (xs : List Int) (L salt : Nat) (style h0 h1 h2 : Int), vs = [.ref sc, .int (L : Int), .int (salt : Int), .int style, .ref hp, .int 1] ∧ SqL K H sc (xs.map V.int) ∧ H hp = some (.lst [.int h0, .int h1, .int h2]) ∧
  1 ≤ L ∧ L ≤ 15 ∧ salt < 9516 ∧ 0 ≤ style ∧ style < 4 ∧ 1 ≤ h0 ∧ h0 ≤ 90 ∧ 1 ≤ h1 ∧ h1 ≤ 90 ∧ 1 ≤ h2 ∧ h2 ≤ 90 ∧ ∀ (H' : Hp) (lo : Addr) (n : Nat) (r : Nat → Addr) (ord : Nat → Ord), Same H H' → OrdersAt H' lo n r ord → OrdsOk n ord L → Q (.ref lo) H'
section
variable {P : Program} {w : World} {K : PySem.W.Frag} {mg : Str → Option Value} {base : Heap}
theorem scLOrders : FnScope ["_law_script", "_law_last", "_law_salt", "_law_style", "_law_hops", "_law_fewest", "_law_orders_here", "_law_tick", "_law_k", "_law_pool_here", "_law_at"] ["_law_script", "_law_last", "_law_salt", "_law_style", "_law_hops", "_law_fewest"] (defScope sLOrders) := ⟨rfl, rfl, rfl, by decide +kernel, rfl, by decide +kernel, by decide +kernel⟩
theorem ok_lOrders {f : Addr} {fd : FuncData} (F : Fun K "_law_orders" "_law_orders" sLOrders f fd) (T : Txt mg) {f1 fd1 f2 fd2 f3 fd3} (D1 : Df P w K mg base 1 "_law_pool" ["_law_script", "_law_k"] (spPool K) f1 fd1) (D2 : Df P w K mg base 1 "_law_take" ["_law_pool_here", "_law_many"] spDraw f2 fd2) (D3 : Df P w K mg base 1 "_law_name" ["_law_k", "_law_salt"] spLName f3 fd3) :
    FnOk P w K mg base CX0 2 f fd ["_law_script", "_law_last", "_law_salt", "_law_style", "_law_hops", "_law_fewest"] (spLOrders K) := by
  refine F.ok scLOrders (fun vs H Q E h => ?_) (fun cdv A outer s H vs Q E hr h => ?_)
  · obtain ⟨sc, hp, xs, L, salt, style, h0, h1, h2, rfl, _⟩ := h
    rfl
  · obtain ⟨sc, hp, xs, L, salt, style, h0, h1, h2, rfl, hsc, hhp, L1, L2, hsalt, st0, st1, a1, a2, b1, b2, c1, c2, kk⟩ := h
    refine ⟨_, pss_cons (ps_set (i := 6) scLOrders.nd rfl (Or.inl rfl) (pe_lst pa_nil))
      (pss_cons (ps_set (i := 7) scLOrders.nd rfl (Or.inl rfl) pe_int)
      (pss_cons (ps_for PassesOwn.never rfl (pi_range2 (by rfl) T.range (pa_cons pe_int (pa_cons (pe_callB (call_max2 rfl) (by rfl) T.max bt_max (pa_cons (pv 5) (pa_cons (pe_callB (call_min2 rfl) (by rfl) T.min bt_min (pa_cons (pe_callB call_len_seq (by rfl) T.len PySem.boot_len (pa_cons (pv 0) pa_nil)) (pa_cons pe_int pa_nil))) pa_nil))) pa_nil)))
          (pg_name (i := 8) scLOrders.nd rfl (Or.inl rfl))
        (pss_cons (ps_set (i := 9) scLOrders.nd rfl (Or.inl rfl) (pe_call D1.ok hr rfl D1.gl D1.kp D1.bd .nil pass0 (pa_cons (pv 0) (pa_cons (pv 8) pa_nil))))
        (pss_cons (ps_set (i := 7) scLOrders.nd rfl (Or.inl rfl) (pe_op op_add (pv 7) (pe_call D2.ok hr rfl D2.gl D2.kp D2.bd .nil pass0 (pa_cons (pv 9) (pa_cons (pe_ix ix_list (pv 4)
            (pe_call D2.ok hr rfl D2.gl D2.kp D2.bd .nil pass0 (pa_cons (pv 9) (pa_cons (pe_callB call_len_seq (by rfl) T.len PySem.boot_len (pa_cons (pv 4) pa_nil)) pa_nil))) (fun _ _ => rfl)) pa_nil)))))
        (pss_cons (ps_set (i := 10) scLOrders.nd rfl (Or.inl rfl) (pe_ix ix_list (pe_lst (pa_cons (pe_call D2.ok hr rfl D2.gl D2.kp D2.bd .nil pass0 (pa_cons (pv 9) (pa_cons (pe_op op_add (pv 1) pe_int) pa_nil))) (pa_cons (pe_op op_fdiv (pv 1) pe_int) (pa_cons pe_int (pa_cons (pv 1) pa_nil))))) (pv 3) (fun _ _ => rfl)))
        (pss_one (ps_expr (pe_bm PySem.F.plainAttrs_list PySem.F.slot_list_append PySem.F.type_list_append mt_append (pv 6) (pa_cons (pe_tup (pa_cons (pe_call D3.ok hr rfl D3.gl D3.kp D3.bd .nil pass0 (pa_cons (pe_op op_sub (pv 8) pe_int) (pa_cons (pv 2) pa_nil))) (pa_cons (pv 7) (pa_cons (pv 10)
            (pa_cons (pe_op op_mod (pe_op op_add (pe_op op_add (pv 10) pe_int) (pe_call D2.ok hr rfl D2.gl D2.kp D2.bd .nil pass0 (pa_cons (pv 9) (pa_cons (pv 1) pa_nil)))) (pe_op op_add (pv 1) pe_int)) pa_nil))))) pa_nil))))))))
      (pss_one (ps_ret (pv 6))))), ?_⟩
    refine ⟨Nat.zero_le _, fun lo hlo => ?_⟩
    refine ⟨_, rfl, _, rfl, sc, _, rfl, .inl ((same_new hlo).seq hsc), _, _, rfl, _, _, rfl, ?_⟩
    have slo : Same H (upd H lo (.lst [])) := same_new hlo
    have olo : (upd H lo (.lst [])) lo = some (.lst []) := upd_same
    generalize upd H lo (.lst []) = H1 at slo olo
    rw [List.length_map]
    obtain ⟨N, hN⟩ : ∃ N : Int, N = (if (if (61 : Int) < (xs.length : Int) then (61 : Int) else (xs.length : Int)) > 1 then (if (61 : Int) < (xs.length : Int) then (61 : Int) else (xs.length : Int)) else 1) := ⟨_, rfl⟩
    have hN1 : 1 ≤ N ∧ N ≤ 61 := by rw [hN]; split <;> split <;> omega
    refine ⟨1, N, by rw [hN], ⟨by decide, by decide, by omega, by omega⟩, ?_⟩
    refine for_range (fun i σ H' => ∃ (t : Int) (v8 v9 v10 : Option V) (r : Nat → Addr) (ord : Nat → Ord), σ = [some (.ref sc), some (.int (L : Int)), some (.int (salt : Int)), some (.int style), some (.ref hp), some (.int 1), some (.ref lo), some (.int t), v8, v9, v10] ∧
        Same H H' ∧ H' lo = some (.lst (refs r (List.range i))) ∧ (∀ j, j < i → H' (r j) = some (.tup (ord j).vs)) ∧ SoFar L salt t i ord)
      ⟨0, none, none, none, fun _ => 0, fun _ => ⟨"", 0, 0, 0⟩, rfl, slo, olo, fun j hj => absurd hj (Nat.not_lt_zero j), ⟨Int.le_refl _, by decide, fun j hj => absurd hj (Nat.not_lt_zero j), fun j k _ hk => absurd hk (Nat.not_lt_zero k)⟩⟩ ?_ ?_
    · rintro i σ H2 hi ⟨t, v8, v9, v10, r, ord, rfl, s2, o2, or2, W⟩
      have hi60 : i < 60 := by omega
      refine ⟨_, rfl, _, rfl, sc, xs, 1 + (i : Int), rfl, s2.seq hsc, by omega, by omega, fun H3 q s3 hq p3 => ?_⟩
      have nlo : lo ≠ q := ne_of_none o2 hq
      have or3 : ∀ j, j < i → H3 (r j) = some (.tup (ord j).vs) := fun j hj => s3 _ _ (or2 j hj)
      have s3' := s2.trans s3
      have hqH : H q = none := by
        cases e : H q with
        | none => rfl
        | some o => have := s2 _ _ e; rw [hq] at this; cases this
      -- all but the pool: what H has stays
      have keep : ∀ {H4 H5 : Hp}, Same H H4 → But q H4 H5 → Same H H5 := fun a b c o e => b c o (ne_of_none e hqH) (a c o e)
      refine ⟨_, rfl, _, rfl, _, rfl, _, rfl, _, rfl, hp, _, rfl, .inl (SqL.of (s3' _ _ hhp)), q, 3, rfl, p3, by decide, by decide, fun u H4 u0 u1 b4 p4 => ?_⟩
      have s4 := keep s3' b4
      obtain ⟨hop, hhop, hop1, hop2⟩ : ∃ hop : Int, atI [V.int h0, V.int h1, V.int h2] u = some (.int hop) ∧ 1 ≤ hop ∧ hop ≤ 90 := by
        have : u = 0 ∨ u = 1 ∨ u = 2 := by omega
        rcases this with rfl | rfl | rfl
        · exact ⟨h0, rfl, a1, a2⟩
        · exact ⟨h1, rfl, b1, b2⟩
        · exact ⟨h2, rfl, c1, c2⟩
      refine ⟨hp, _, _, _, rfl, rfl, SqL.of (s4 _ _ hhp), hhop, q, hop, rfl, p4, by omega, by omega, fun v H5 v0 v1 b5 p5 => ?_⟩
      have s5 := keep s4 b5
      refine ⟨_, _, rfl, rfl, ?_⟩
      refine ⟨_, rfl, _, rfl, _, _, rfl, rfl, q, (L : Int) + 1, rfl, p5, by omega, by omega, fun z H6 z0 z1 b6 p6 => ?_⟩
      have s6 := keep s5 b6
      have nqi : ∀ j, j < i → r j ≠ q := fun j hj => ne_of_none (or2 j hj) hq
      have or6 : ∀ j, j < i → H6 (r j) = some (.tup (ord j).vs) := fun j hj => b6 _ _ (nqi j hj) (b5 _ _ (nqi j hj) (b4 _ _ (nqi j hj) (or3 j hj)))
      have o6 : H6 lo = some (.lst (refs r (List.range i))) := b6 _ _ nlo (b5 _ _ nlo (b4 _ _ nlo (s3 _ _ o2)))
      refine ⟨_, rfl, _, _, rfl, rfl, ⟨by decide, by decide⟩, _, rfl, (show 4 ≤ sizeLine by decide), fun l4 hl4 => ?_⟩
      obtain ⟨at_, hat, at0, at1⟩ : ∃ at_ : Nat, atI [V.int z, V.int ((L : Int) / 2), V.int 0, V.int (L : Int)] style = some (.int (at_ : Int)) ∧ at_ ≤ L ∧ 0 ≤ (at_ : Int) := by
        have : style = 0 ∨ style = 1 ∨ style = 2 ∨ style = 3 := by omega
        rcases this with rfl | rfl | rfl | rfl
        · exact ⟨z.toNat, by rw [Int.toNat_of_nonneg z0]; rfl, by omega, by omega⟩
        · exact ⟨L / 2, rfl, by omega, by omega⟩
        · exact ⟨0, rfl, by omega, by omega⟩
        · exact ⟨L, rfl, by omega, by omega⟩
      have s7 : Same H6 (upd H6 l4 (.lst [V.int z, V.int ((L : Int) / 2), V.int 0, V.int (L : Int)])) := same_new hl4
      have hl7 : (upd H6 l4 (.lst [V.int z, V.int ((L : Int) / 2), V.int 0, V.int (L : Int)])) l4 = some (.lst [V.int z, V.int ((L : Int) / 2), V.int 0, V.int (L : Int)]) := upd_same
      generalize hG : upd H6 l4 (.lst [V.int z, V.int ((L : Int) / 2), V.int 0, V.int (L : Int)]) = H7 at s7 hl7
      refine ⟨_, rfl, l4, _, _, _, rfl, rfl, SqL.of hl7, hat, ?_⟩
      have p7 := p6.but s7
      have nl7 : q ≠ l4 := p6.ne hl4
      have o7 := s7 _ _ o6
      have or7 : ∀ j, j < i → H7 (r j) = some (.tup (ord j).vs) := fun j hj => s7 _ _ (or6 j hj)
      have sH7 := s6.trans s7
      refine ⟨_, rfl, .inl ⟨rfl, _, SqL.of o7⟩, _, rfl, _, _, rfl, rfl, _, rfl, i, salt, (show [V.int ((1 : Int) + (i : Int) - 1), V.int (salt : Int)] = [V.int (i : Int), V.int (salt : Int)] by rw [show (1 : Int) + (i : Int) - 1 = (i : Int) by omega]), by omega, hsalt, fun H8 s8 => ?_⟩
      refine ⟨_, rfl, _, rfl, _, rfl, _, _, rfl, rfl, _, rfl, _, rfl, q, (L : Int), rfl, p7.but s8, by omega, by omega, fun y H9 y0 y1 b9 p9 => ?_⟩
      have s9 := keep (sH7.trans s8) b9
      have or9 : ∀ j, j < i → H9 (r j) = some (.tup (ord j).vs) := fun j hj => b9 _ _ (nqi j hj) (s8 _ _ (or7 j hj))
      have o9 : H9 lo = some (.lst (refs r (List.range i))) := b9 _ _ nlo (s8 _ _ o7)
      refine ⟨_, _, rfl, rfl, _, rfl, _, _, rfl, rfl, _, _, rfl, rfl, (show (0 : Int) < (L : Int) + 1 by omega), (show 4 ≤ sizeLine by decide), fun R hR => ?_⟩
      obtain ⟨dst, hdst, d0, d1⟩ : ∃ dst : Nat, ((at_ : Int) + 1 + y) % ((L : Int) + 1) = (dst : Int) ∧ dst ≤ L ∧ at_ ≠ dst := by
        have e := mod_near (x := (at_ : Int) + 1 + y) (m := (L : Int) + 1) (by omega) (by omega)
        refine ⟨(((at_ : Int) + 1 + y) % ((L : Int) + 1)).toNat, ?_, ?_, ?_⟩
        · rw [e]; split <;> omega
        · rw [e]; split <;> omega
        · rw [e]; split <;> omega
      have hR' : ∀ X : HO, (upd H9 R X) lo = some (.lst (refs r (List.range i))) := fun X => same_new hR _ _ o9
      have nR : lo ≠ R := ne_of_none o9 hR
      refine ⟨lo, _, _, rfl, rfl, hR' _, ?_, t + v, _, _, _, put1 r i R, put1 ord i ⟨lname salt i, t + v, at_, dst⟩, rfl, ?_, ?_, fun j hj => ?_, W.one (by omega) (by omega) (by omega) ⟨lname_ok salt i, ?_, ?_, at0, d0, d1⟩ rfl rfl⟩
      · rw [refs_len, List.length_range, sizeLine_eq]; omega
      · intro b o e
        rw [upd_ne (ne_of_none e hlo)]
        exact same_new hR _ _ (s9 _ _ e)
      · rw [upd_same, refs_put1]
      · by_cases e : j = i
        · rw [e, put1_at, put1_at, upd_ne nR.symm, upd_same]
          show some (HO.tup [.str (lname salt i), .int (t + v), .int (at_ : Int), .int (((at_ : Int) + 1 + y) % ((L : Int) + 1))]) = _
          rw [hdst]
          rfl
        · have hj' : j < i := by omega
          rw [put1_lt hj', put1_lt hj']
          have e1 := or9 j hj'
          rw [upd_ne (ne_of e1 o9 (by intro z; cases z))]
          exact same_new hR _ _ e1
      · have := W.T0
        show 0 ≤ t + v
        omega
      · have := W.T1
        show t + v ≤ 1000000000
        omega
    · rintro σ H2 ⟨t, v8, v9, v10, r, ord, rfl, s2, o2, or2, W⟩
      exact ⟨_, rfl, kk H2 lo _ r ord s2 ⟨o2, or2⟩ (W.done (by omega))⟩
end
end Bay

/-! The law asks whether homes are homes. -/
namespace Bay
open PySem L2 PyProof.Rows
def spAreHomes : Sp := fun vs H Q _ => ∃ (lh lo : Addr) (n : Nat) (q r : Nat → Addr) (a b : Nat → Int), vs = [.ref lh, .ref lo] ∧ H lh = some (.lst (refs q (List.range n))) ∧ (∀ i, i < n → H (q i) = some (.tup [.int (a i), .int (b i)])) ∧ H lo = some (.lst (refs r (List.range n))) ∧
  ∀ H', Same H H' → Q (.bl true) H'
section
variable {P : Program} {w : World} {K : PySem.W.Frag} {mg : Str → Option Value} {base : Heap}
theorem scAreHomes : FnScope ["_law_found", "_law_orders_here", "_law_pair", "_law_one"] ["_law_found", "_law_orders_here"] (defScope sLAreHomes) := ⟨rfl, rfl, rfl, by decide +kernel, rfl, by decide +kernel, by decide +kernel⟩
theorem ok_areHomes {f : Addr} {fd : FuncData} (F : Fun K "_law_are_homes" "_law_are_homes" sLAreHomes f fd) (T : Txt mg) : FnOk P w K mg base CX0 1 f fd ["_law_found", "_law_orders_here"] spAreHomes := by
  refine F.ok scAreHomes (fun vs H Q E h => ?_) (fun cdv A outer s H vs Q E hr h => ?_)
  · obtain ⟨lh, lo, n, q, r, a, b, rfl, _⟩ := h
    rfl
  · obtain ⟨lh, lo, n, q, r, a, b, rfl, hh, hq, ho, kk⟩ := h
    refine ⟨_, pss_cons (ps_if (PW.pt (pw_or (pt_not (pt_val (pe_callB call_isi (by rfl) T.isinstance bt_isinstance (pa_cons (pv 0) (pa_cons (pe_bltn (v := .ty "list") (by rfl) T.list bt_list rfl) pa_nil)))))
        (pw_or1 (pt_cmpR op_ne (pe_callB call_len_seq (by rfl) T.len PySem.boot_len (pa_cons (pv 0) pa_nil)) (pe_callB call_len_seq (by rfl) T.len PySem.boot_len (pa_cons (pv 1) pa_nil)) (nomark _))))) pss_never pss_nil)
      (pss_cons (ps_for PassesOwn.never rfl (pi_list (pv 0)) (pg_name (i := 2) scAreHomes.nd rfl (Or.inl rfl))
        (pss_cons (ps_if (PW.pt (pw_or (pt_not (pt_val (pe_callB call_isi (by rfl) T.isinstance bt_isinstance (pa_cons (pv 2) (pa_cons (pe_bltn (v := .ty "tuple") (by rfl) T.tuple bt_tuple rfl) pa_nil)))))
          (pw_or1 (pt_cmpR op_ne (pe_callB call_len_seq (by rfl) T.len PySem.boot_len (pa_cons (pv 2) pa_nil)) pe_int (nomark _))))) pss_never pss_nil)
        (pss_one (ps_if (pt_cmpR (op_neD hr.units) (pe_lc (own := [("_law_one", 3)]) (g := gName 3) (by rfl) scAreHomes.nd (pi_tup (pv 2)) (blkOk_by (own := [("_law_one", 3)]) (N := ["_law_found", "_law_orders_here", "_law_pair", "_law_one"]) (sc := defScope sLAreHomes) (by decide +kernel))
            (fun _ _ _ _ _ => pg_name (i := 3) scAreHomes.nd rfl (Or.inl rfl)) (fun _ _ _ _ _ => pts_one (PW.pt (pw_or (pt_val (pe_callB (r := rIsi K) call_isi (by rfl) T.isinstance bt_isinstance (pa_cons (pv 3) (pa_cons (pe_bltn (v := .ty "bool") (by rfl) T.bool bt_bool rfl) pa_nil))))
              (pw_or1 (pt_not (pt_val (pe_callB (r := rIsi K) call_isi (by rfl) T.isinstance bt_isinstance (pa_cons (pv 3) (pa_cons (pe_bltn (v := .ty "int") (by rfl) T.int bt_int rfl) pa_nil))))))))) (fun _ _ _ _ _ => pv 3)) (pe_lst pa_nil) (nomark _)) pss_never pss_nil))))
      (pss_one (ps_ret pe_bl))), ?_⟩
    refine ⟨_, rfl, _, _, _, _, _, rfl, .ty "list", .base (.lst hh), kit_ty (r := true) (by decide +kernel), true, rfl, iteF ?_⟩
    refine ⟨_, rfl, lh, _, rfl, .inl (SqL.of hh), _, rfl, lo, _, rfl, .inl (SqL.of ho), rfl, _, rfl, ?_⟩
    rw [refs_len, refs_len, decide_eq_true rfl]
    refine iteF ?_
    refine ⟨_, rfl, lh, rfl, ⟨_, SqL.of hh⟩, for_list (K := K) (a := lh) (xs := refs q (List.range n)) (fun i σ H' => ∃ v2, σ = [some (.ref lh), some (.ref lo), v2, none] ∧ Same H H') ⟨none, rfl, Same.refl _⟩ ?_ ?_ ?_⟩
    · rintro i σ H' _ ⟨v2, rfl, s1⟩
      exact SqL.of (s1 _ _ hh)
    · rintro i y σ H2 hy ⟨v2, rfl, s2⟩
      obtain ⟨j, hj, rfl⟩ := refs_get hy
      have hjn : j < n := by
        have := List.mem_of_getElem? hj
        exact List.mem_range.mp this
      have hp := s2 _ _ (hq j hjn)
      refine ⟨_, rfl, _, _, _, _, _, rfl, .ty "tuple", .base (.tup hp), kit_ty (r := true) (by decide +kernel), true, rfl, iteF ?_⟩
      refine ⟨_, rfl, q j, _, rfl, .inr (SqT.of hp), rfl, _, rfl, ?_⟩
      refine iteF ?_
      refine ⟨_, rfl, q j, rfl, ⟨_, SqT.of hp⟩, fun D hD => ?_⟩
      refine lc_tup (K := K) (a := q j) (xs := [.int (a j), .int (b j)]) (fun i H' => Same H2 H' ∧ H' D = some (.lst [])) ⟨same_new hD, upd_same⟩ (fun i H' _ z => SqT.of (z.1 _ _ hp)) ?_ ?_
      · rintro i x H3 hx ⟨s3, o3⟩
        obtain ⟨c, rfl⟩ : ∃ c : Int, x = .int c := by
          have := List.mem_of_getElem? hx
          simp at this
          rcases this with e | e
          · exact ⟨_, e⟩
          · exact ⟨_, e⟩
        refine ⟨rfl, ?_⟩
        refine ⟨_, rfl, _, _, _, _, _, rfl, .ty "bool", .base (.int c), kit_ty (r := false) (by decide +kernel), false, rfl, iteF ?_⟩
        refine ⟨_, rfl, _, _, _, _, _, rfl, .ty "int", .base (.int c), kit_ty (r := true) (by decide +kernel), true, rfl, ?_⟩
        exact iteF ⟨s3, o3⟩
      · rintro H3 ⟨s3, o3⟩
        refine ⟨Nat.zero_le _, fun l hl => ?_⟩
        have nD : D ≠ l := ne_of_none o3 hl
        refine ne_nil (ds := []) (xs := []) (by rw [upd_ne nD]; exact o3) .nil (fun d hd => (nomatch hd)) upd_same ⟨_, rfl, ?_⟩
        refine iteF ⟨_, rfl, (s2.trans s3).trans (same_new hl)⟩
    · rintro σ H2 ⟨v2, rfl, s2⟩
      exact kk H2 s2
end
end Bay

/-! Sorted names, plainly. -/
namespace Bay
open PySem L2 PyProof.Rows PySem.Spec
theorem cps_anti : ∀ {a b : List Nat}, ltCps a b = false → ltCps b a = false → a = b
  | [], [], _, _ => rfl
  | [], y :: b, h, _ => by simp [ltCps] at h
  | x :: a, [], _, h => by simp [ltCps] at h
  | x :: a, y :: b, h1, h2 => by
    simp only [ltCps, Bool.or_eq_false_iff, decide_eq_false_iff_not] at h1 h2
    have e : x = y := by omega
    subst e
    have h3 : ltCps a b = false := by simpa using h1.2
    have h4 : ltCps b a = false := by simpa using h2.2
    rw [cps_anti h3 h4]
theorem cps_trans : ∀ {a b c : List Nat}, ltCps b a = false → ltCps c b = false → ltCps c a = false
  | [], b, c, h1, h2 => by cases c <;> simp [ltCps]
  | x :: a, [], c, h1, h2 => by simp [ltCps] at h1
  | x :: a, y :: b, [], h1, h2 => by simp [ltCps] at h2
  | x :: a, y :: b, z :: c, h1, h2 => by
    simp only [ltCps, Bool.or_eq_false_iff, decide_eq_false_iff_not] at h1 h2 ⊢
    refine ⟨by omega, ?_⟩
    by_cases e : z = x
    · have e1 : y = x := by omega
      subst e e1
      have h3 : ltCps b a = false := by simpa using h1.2
      have h4 : ltCps c b = false := by simpa using h2.2
      simp [cps_trans h3 h4]
    · have : (z == x) = false := by simpa using e
      rw [this]
      rfl
def leS (a b : Str) : Prop := ltCps b.cps.toList a.cps.toList = false
theorem rising_pair : ∀ {l : List Str} {p : Str}, risingS p l = true → (p :: l).Pairwise leS
  | [], p, _ => List.pairwise_singleton _ _
  | x :: r, p, h => by
    have h' : (!ltCps x.cps.toList p.cps.toList && risingS x r) = true := h
    rw [Bool.and_eq_true] at h'
    have hx : leS p x := by unfold leS; simpa using h'.1
    have ih := rising_pair h'.2
    refine List.pairwise_cons.mpr ⟨fun y hy => ?_, ih⟩
    rcases List.mem_cons.mp hy with e | hy
    · rw [e]; exact hx
    · exact cps_trans hx ((List.pairwise_cons.mp ih).1 y hy)
theorem sorted_pair : ∀ {l : List Str}, sortedS l = true → l.Pairwise leS
  | [], _ => List.Pairwise.nil
  | x :: r, h => rising_pair h
theorem sorted_one {xs ys : List Str} (h1 : sortedS xs = true) (h2 : sortedS ys = true) (hp : xs.Perm ys) : xs = ys := by
  have anti : ∀ a b : Str, leS a b → leS b a → a = b := fun a b h h' => str_ext (cps_anti h' h)
  exact hp.eq_of_pairwise (fun a b _ _ => anti a b) (sorted_pair h1) (sorted_pair h2)
theorem flat_str {z : Str} (h : NameOk z) : Flat (.str z) := ⟨by simp [PyData.canLay0, strOk_name h], by simp [PyData.depth]⟩
/-- a list of names against the same names -/
theorem ne_names {K : PySem.W.Frag} {H : Hp} {a b : Addr} {zs : List Str} {Q : VK} (hz : ∀ z ∈ zs, NameOk z) (ha : H a = some (.lst (zs.map V.str))) (hb : H b = some (.lst (zs.map V.str))) (q : Q (.bl false) H) : rNeD K (.ref a) (.ref b) H Q := by
  have hf : ∀ d ∈ zs.map PyData.str, Flat d := fun d hd => by
    obtain ⟨z, h, rfl⟩ := List.mem_map.mp hd
    exact flat_str (hz z h)
  have sh := shaped_list hf
  have e : PyData.eqv (.list (zs.map PyData.str)) (.list (zs.map PyData.str)) = true := PySem.SeqAt.eqv_refl _ (by simp only [PyData.canLay0]; exact (canAll hf).1)
  exact ⟨_, _, .lst (SqL.of ha) (dp_strs zs), .lst (SqL.of hb) (dp_strs zs), sh, sh, by rw [e]; exact q⟩
end Bay

/-! What the sweep tells against what the homes say. -/
namespace Bay
open PySem L2 PyProof.Rows
structure Al (H H' : Hp) (ra br ba : Addr) (rs bs : List Str) (ys : List Int) : Prop where
  s : Same H H'
  r : H' ra = some (.lst (rs.map V.str))
  b : H' br = some (.lst (bs.map V.str))
  y : H' ba = some (.lst (ys.map V.int))
section
variable {H H' H'' : Hp} {ra br ba : Addr} {rs bs : List Str} {ys : List Int}
theorem Al.same (h : Al H H' ra br ba rs bs ys) (s : Same H' H'') : Al H H'' ra br ba rs bs ys := ⟨h.s.trans s, s _ _ h.r, s _ _ h.b, s _ _ h.y⟩
theorem Al.addR (h : Al H H' ra br ba rs bs ys) (z : Str) (h0 : H ra = none) (n1 : br ≠ ra) (n2 : ba ≠ ra) : Al H (upd H' ra (.lst (rs.map V.str ++ [.str z]))) ra br ba (rs ++ [z]) bs ys :=
  ⟨Same.but h.s h0, by rw [upd_same, List.map_append]; rfl, by rw [upd_ne n1]; exact h.b, by rw [upd_ne n2]; exact h.y⟩
theorem Al.addB (h : Al H H' ra br ba rs bs ys) (z : Str) (h0 : H br = none) (n1 : br ≠ ra) (n2 : ba ≠ br) : Al H (upd H' br (.lst (bs.map V.str ++ [.str z]))) ra br ba rs (bs ++ [z]) ys :=
  ⟨Same.but h.s h0, by rw [upd_ne n1.symm]; exact h.r, by rw [upd_same, List.map_append]; rfl, by rw [upd_ne n2]; exact h.y⟩
theorem Al.addY (h : Al H H' ra br ba rs bs ys) (z : Int) (h0 : H ba = none) (n1 : ba ≠ ra) (n2 : ba ≠ br) : Al H (upd H' ba (.lst (ys.map V.int ++ [.int z]))) ra br ba rs bs (ys ++ [z]) :=
  ⟨Same.but h.s h0, by rw [upd_ne n1.symm]; exact h.r, by rw [upd_ne n2.symm]; exact h.b, by rw [upd_same, List.map_append]; rfl⟩
end
def sel (k : Nat → Bool) (nm : Nat → Str) (i : Nat) : List Str := ((List.range i).filter k).map nm
theorem sel_yes {k : Nat → Bool} {nm : Nat → Str} {i : Nat} (h : k i = true) : sel k nm (i + 1) = sel k nm i ++ [nm i] := by
  unfold sel
  rw [List.range_succ, List.filter_append, List.map_append]
  congr 1
  rw [List.filter_cons, if_pos h, List.filter_nil]
  rfl
theorem sel_no {k : Nat → Bool} {nm : Nat → Str} {i : Nat} (h : k i = false) : sel k nm (i + 1) = sel k nm i := by
  unfold sel
  rw [List.range_succ, List.filter_append, List.map_append]
  have : [i].filter k = [] := by rw [List.filter_cons, if_neg (by rw [h]; decide), List.filter_nil]
  rw [this]
  simp
theorem sel_len {k : Nat → Bool} {nm : Nat → Str} {i : Nat} : (sel k nm i).length ≤ i := by
  unfold sel
  rw [List.length_map]
  have := List.length_filter_le k (List.range i)
  rwa [List.length_range] at this
def spAlike : Sp := fun vs H Q _ => ∃ (F lo lh n1 n2 : Addr) (t : Int) (bv : V) (n : Nat) (r q : Nat → Addr) (ord : Nat → Ord) (a b : Nat → Int) (xs zs : List Str), vs = [.ref F, .int t, .ref lo, .ref lh] ∧ n ≤ 60 ∧ OrdersAt H lo n r ord ∧ (∀ i, i < n → NameOk (ord i).name) ∧
  H lh = some (.lst (refs q (List.range n))) ∧ (∀ i, i < n → H (q i) = some (.tup [.int (a i), .int (b i)])) ∧ H F = some (.tup [.int t, bv, .ref n1, .ref n2]) ∧ H n1 = some (.lst (xs.map V.str)) ∧ H n2 = some (.lst (zs.map V.str)) ∧
  xs.Perm (sel (fun i => decide (a i ≤ t) && decide (t < b i)) (fun i => (ord i).name) n) ∧ sortedS xs = true ∧ zs.Perm (sel (fun i => decide (b i ≤ t)) (fun i => (ord i).name) n) ∧ sortedS zs = true ∧
  (∀ i, i < n → a i = t → bv = .int ((ord i).src : Int)) ∧ (∀ i, i < n → b i = t → bv = .int ((ord i).dst : Int)) ∧ ∀ H', Same H H' → Q (.bl true) H'
section
variable {P : Program} {w : World} {K : PySem.W.Frag} {mg : Str → Option Value} {base : Heap}
theorem scAlike : FnScope ["_law_found", "_law_tick", "_law_orders_here", "_law_homes", "_law_rides", "_law_brought", "_law_bays", "_law_order", "_law_taken", "_law_home", "_law_bay"] ["_law_found", "_law_tick", "_law_orders_here", "_law_homes"] (defScope sLAlike) := ⟨rfl, rfl, rfl, by decide +kernel, rfl, by decide +kernel, by decide +kernel⟩
theorem ok_alike {f : Addr} {fd : FuncData} (F : Fun K "_law_alike" "_law_alike" sLAlike f fd) (T : Txt mg) : FnOk P w K mg base CX0 1 f fd ["_law_found", "_law_tick", "_law_orders_here", "_law_homes"] spAlike := by
  refine F.ok scAlike (fun vs H Q E h => ?_) (fun cdv A outer s H vs Q E hr h => ?_)
  · obtain ⟨F, lo, lh, n1, n2, t, bv, n, r, q, ord, a, b, xs, zs, rfl, _⟩ := h
    rfl
  · obtain ⟨F, lo, lh, n1, n2, t, bv, n, r, q, ord, a, b, xs, zs, rfl, hn, hO, hnm, hlh, hq, hF, hn1, hn2, px, sx, pz, sz, hba, hbb, kk⟩ := h
    refine ⟨_, pss_cons (ps_set (i := 4) scAlike.nd rfl (Or.inl rfl) (pe_lst pa_nil))
      (pss_cons (ps_set (i := 5) scAlike.nd rfl (Or.inl rfl) (pe_lst pa_nil))
      (pss_cons (ps_set (i := 6) scAlike.nd rfl (Or.inl rfl) (pe_lst pa_nil))
      (pss_cons (ps_for PassesOwn.never rfl (pi_zip (by rfl) T.zip (pa_cons (pv 2) (pa_cons (pv 3) pa_nil)))
          (pg_tup rfl (pgs_cons (pg_name (i := 7) scAlike.nd rfl (Or.inl rfl)) (pgs_cons (pg_tup rfl (pgs_cons (pg_name (i := 8) scAlike.nd rfl (Or.inl rfl)) (pgs_cons (pg_name (i := 9) scAlike.nd rfl (Or.inl rfl)) pgs_nil))) pgs_nil)))
        (pss_cons (ps_if (pt_chain op_le op_lt (pv 8) (pv 1) (pv 9)) (pss_one (ps_expr (pe_bm PySem.F.plainAttrs_list PySem.F.slot_list_append PySem.F.type_list_append mt_append (pv 4) (pa_cons (pe_ix ix_tup (pv 7) pe_int (fun _ _ => rfl)) pa_nil)))) pss_nil)
        (pss_cons (ps_if (pt_cmpR op_le (pv 9) (pv 1) (nomark _)) (pss_one (ps_expr (pe_bm PySem.F.plainAttrs_list PySem.F.slot_list_append PySem.F.type_list_append mt_append (pv 5) (pa_cons (pe_ix ix_tup (pv 7) pe_int (fun _ _ => rfl)) pa_nil)))) pss_nil)
        (pss_cons (ps_if (pt_cmpR op_eq (pv 8) (pv 1) (nomark _)) (pss_one (ps_expr (pe_bm PySem.F.plainAttrs_list PySem.F.slot_list_append PySem.F.type_list_append mt_append (pv 6) (pa_cons (pe_ix ix_tup (pv 7) pe_int (fun _ _ => rfl)) pa_nil)))) pss_nil)
        (pss_one (ps_if (pt_cmpR op_eq (pv 9) (pv 1) (nomark _)) (pss_one (ps_expr (pe_bm PySem.F.plainAttrs_list PySem.F.slot_list_append PySem.F.type_list_append mt_append (pv 6) (pa_cons (pe_ix ix_tup (pv 7) pe_int (fun _ _ => rfl)) pa_nil)))) pss_nil))))))
      (pss_cons (ps_if (PW.pt (pw_or (pt_not (pt_val (pe_callB call_isi (by rfl) T.isinstance bt_isinstance (pa_cons (pv 0) (pa_cons (pe_bltn (v := .ty "tuple") (by rfl) T.tuple bt_tuple rfl) pa_nil)))))
        (pw_or (pt_cmpR op_ne (pe_callB call_len_seq (by rfl) T.len PySem.boot_len (pa_cons (pv 0) pa_nil)) pe_int (nomark _)) (pw_or1 (pt_cmpR op_ne (pe_ix ix_tup (pv 0) pe_int (fun _ _ => rfl)) (pv 1) (nomark _)))))) pss_never pss_nil)
      (pss_cons (ps_if (PW.pt (pw_or (pt_cmpR (op_neD hr.units) (pe_ix ix_tup (pv 0) pe_int (fun _ _ => rfl)) (pe_callB cr_sortedS (by rfl) T.sorted bt_sorted (pa_cons (pv 4) pa_nil)) (nomark _))
        (pw_or1 (pt_cmpR (op_neD hr.units) (pe_ix ix_tup (pv 0) pe_int (fun _ _ => rfl)) (pe_callB cr_sortedS (by rfl) T.sorted bt_sorted (pa_cons (pv 5) pa_nil)) (nomark _))))) pss_never pss_nil)
      (pss_one (ps_ret (pe_cmpR (op_eqD hr.units) (pe_lc (own := [("_law_bay", 10)]) (g := gName 10) (tt := tTest (tOp rNe (tVar 10) (tOp (rIxT K) (tVar 0) (tC (.int 1))))) (by rfl) scAlike.nd (pi_list (pv 6))
          (blkOk_by (own := [("_law_bay", 10)]) (N := ["_law_found", "_law_tick", "_law_orders_here", "_law_homes", "_law_rides", "_law_brought", "_law_bays", "_law_order", "_law_taken", "_law_home", "_law_bay"]) (sc := defScope sLAlike) (by decide +kernel))
          (fun _ _ _ _ _ => pg_name (i := 10) scAlike.nd rfl (Or.inl rfl)) (fun _ _ _ _ _ => pts_one (pt_cmpR op_ne (pv 10) (pe_ix (r := rIxT K) ix_tup (pv 0) pe_int (fun _ _ => rfl)) (nomark _))) (fun _ _ _ _ _ => pv 10)) (pe_lst pa_nil) (nomark _))))))))), ?_⟩
    refine ⟨Nat.zero_le _, fun ra hra => ?_⟩
    refine ⟨Nat.zero_le _, fun br hbr => ?_⟩
    refine ⟨Nat.zero_le _, fun ba hba0 => ?_⟩
    have nbr : br ≠ ra := fun z => by rw [z, upd_same] at hbr; cases hbr
    have hbr1 : H br = none := Same.free (same_new (o := .lst []) hra) hbr
    have nba2 : ba ≠ br := fun z => by rw [z, upd_same] at hba0; cases hba0
    have nba1 : ba ≠ ra := fun z => by rw [z, upd_ne nbr.symm, upd_same] at hba0; cases hba0
    have hba1 : H ba = none := Same.free (Same.new (same_new (o := .lst []) hra) (o := .lst []) hbr) hba0
    have A0 : Al H (upd (upd (upd H ra (.lst [])) br (.lst [])) ba (.lst [])) ra br ba [] [] [] :=
      ⟨Same.new (Same.new (same_new hra) hbr) hba0, by rw [upd_ne nba1.symm, upd_ne nbr.symm, upd_same]; rfl, by rw [upd_ne nba2.symm, upd_same]; rfl, by rw [upd_same]; rfl⟩
    generalize upd (upd (upd H ra (.lst [])) br (.lst [])) ba (.lst []) = H1 at A0
    refine ⟨_, rfl, _, rfl, lo, lh, _, _, rfl, SqL.of (A0.s _ _ hO.lst), SqL.of (A0.s _ _ hlh), ?_⟩
    have len0 : ∀ r0 : Nat → Addr, (refs r0 (List.range n)).length = n := fun r0 => by rw [refs_len, List.length_range]
    refine for_it (walk_zip (K := K) (a := lo) (b := lh) (xs := refs r (List.range n)) (ys := refs q (List.range n)) (n := n) (by rw [len0 r, len0 q, Nat.min_self])) (fun i σ H' => ∃ v7 v8 v9 ys, σ = [some (.ref F), some (.int t), some (.ref lo), some (.ref lh), some (.ref ra), some (.ref br), some (.ref ba), v7, v8, v9, none] ∧
        Al H H' ra br ba (sel (fun i => decide (a i ≤ t) && decide (t < b i)) (fun i => (ord i).name) i) (sel (fun i => decide (b i ≤ t)) (fun i => (ord i).name) i) ys ∧ ys.length ≤ 2 * i ∧ ∀ y ∈ ys, bv = .int y)
      ⟨none, none, none, [], rfl, A0, Nat.zero_le _, fun y hy => (nomatch hy)⟩ (fun i σ H' _ z => by
        obtain ⟨v7, v8, v9, ys, _, z, _⟩ := z
        exact ⟨SqL.of (z.s _ _ hO.lst), SqL.of (z.s _ _ hlh)⟩) ?_ ?_
    · rintro i x σ H2 H3 hi ⟨v7, v8, v9, ys, rfl, A2, yl, yb⟩ ⟨Ta, y, z, rfl, hTa, rfl, hy, hz⟩
      have hy : (refs r (List.range n))[i]? = some y := hy
      have hz : (refs q (List.range n))[i]? = some z := hz
      have ey : y = .ref (r i) := by
        rw [refs_at hi] at hy
        exact (Option.some.inj hy).symm
      have ez : z = .ref (q i) := by
        rw [refs_at hi] at hz
        exact (Option.some.inj hz).symm
      subst ey ez
      have A3 := A2.same (same_new (o := .tup [.ref (r i), .ref (q i)]) hTa)
      have hT3 : (upd H2 Ta (.tup [.ref (r i), .ref (q i)])) Ta = some (.tup [.ref (r i), .ref (q i)]) := upd_same
      generalize upd H2 Ta (.tup [.ref (r i), .ref (q i)]) = H3 at A3 hT3
      have hqi := A3.s _ _ (hq i hi)
      refine ⟨Ta, _, rfl, SqT.of hT3, rfl, _, _, rfl, _, _, rfl, q i, _, rfl, SqT.of hqi, rfl, _, _, rfl, _, _, rfl, rfl, rfl, ?_⟩
      have small : ∀ {m : Nat}, m ≤ 2 * i + 1 → m < sizeLine := fun h => by rw [sizeLine_eq]; omega
      have hnmT : ∀ {H4 : Hp}, Same H H4 → H4 (r i) = some (.tup (ord i).vs) := fun s4 => s4 _ _ (hO.at_ i hi)
      -- the rides
      refine seq_then (α := Unit) (fun _ H' => Al H H' ra br ba (sel (fun i => decide (a i ≤ t) && decide (t < b i)) (fun i => (ord i).name) (i + 1)) (sel (fun i => decide (b i ≤ t)) (fun i => (ord i).name) i) ys)
        (fun _ => [some (.ref F), some (.int t), some (.ref lo), some (.ref lh), some (.ref ra), some (.ref br), some (.ref ba), some (.ref (r i)), some (.int (a i)), some (.int (b i)), none]) ?_ (fun post => ?_)
      · rintro ⟨⟩ H4 A4
        refine seq_then (α := Unit) (fun _ H' => Al H H' ra br ba (sel (fun i => decide (a i ≤ t) && decide (t < b i)) (fun i => (ord i).name) (i + 1)) (sel (fun i => decide (b i ≤ t)) (fun i => (ord i).name) (i + 1)) ys)
          (fun _ => [some (.ref F), some (.int t), some (.ref lo), some (.ref lh), some (.ref ra), some (.ref br), some (.ref ba), some (.ref (r i)), some (.int (a i)), some (.int (b i)), none]) ?_ (fun post => ?_)
        · rintro ⟨⟩ H5 A5
          refine seq_then (α := List Int) (fun ys' H' => Al H H' ra br ba (sel (fun i => decide (a i ≤ t) && decide (t < b i)) (fun i => (ord i).name) (i + 1)) (sel (fun i => decide (b i ≤ t)) (fun i => (ord i).name) (i + 1)) ys' ∧ ys'.length ≤ 2 * i + 1 ∧ ∀ y ∈ ys', bv = .int y)
            (fun _ => [some (.ref F), some (.int t), some (.ref lo), some (.ref lh), some (.ref ra), some (.ref br), some (.ref ba), some (.ref (r i)), some (.int (a i)), some (.int (b i)), none]) ?_ (fun post => ?_)
          · rintro ys' H6 ⟨A6, yl', yb'⟩
            refine ⟨_, rfl, _, rfl, rfl, _, rfl, ?_⟩
            by_cases e : b i = t
            · rw [decide_eq_true (show V.int (b i) = V.int t by rw [e])]
              refine iteT ⟨_, rfl, .inl ⟨rfl, _, SqL.of A6.y⟩, _, rfl, r i, _, _, _, rfl, rfl, SqT.of (hnmT A6.s), at_of (j := 3) rfl rfl, ba, _, _, rfl, rfl, A6.y, small (by rw [List.length_map]; exact yl'), _, _, _, _, rfl, A6.addY _ hba1 nba1 nba2, ?_, ?_⟩
              · rw [List.length_append, List.length_singleton]; omega
              · intro y hy
                rcases List.mem_append.mp hy with hy | hy
                · exact yb' y hy
                · have : y = ((ord i).dst : Int) := by simpa using hy
                  rw [this]
                  exact hbb i hi e
            · rw [decide_eq_false (show ¬ V.int (b i) = V.int t from fun z => e (by injection z))]
              exact iteF ⟨_, _, _, ys', rfl, A6, by omega, yb'⟩
          · refine ⟨_, rfl, _, rfl, rfl, _, rfl, ?_⟩
            by_cases e : a i = t
            · rw [decide_eq_true (show V.int (a i) = V.int t by rw [e])]
              refine iteT ⟨_, rfl, .inl ⟨rfl, _, SqL.of A5.y⟩, _, rfl, r i, _, _, _, rfl, rfl, SqT.of (hnmT A5.s), at_of (j := 2) rfl rfl, ba, _, _, rfl, rfl, A5.y, small (by rw [List.length_map]; omega), ?_⟩
              refine post (ys ++ [((ord i).src : Int)]) _ ⟨A5.addY _ hba1 nba1 nba2, ?_, ?_⟩
              · rw [List.length_append, List.length_singleton]; omega
              · intro y hy
                rcases List.mem_append.mp hy with hy | hy
                · exact yb y hy
                · have : y = ((ord i).src : Int) := by simpa using hy
                  rw [this]
                  exact hba i hi e
            · rw [decide_eq_false (show ¬ V.int (a i) = V.int t from fun z => e (by injection z))]
              exact iteF (post ys _ ⟨A5, by omega, yb⟩)
        · refine ⟨_, rfl, _, rfl, _, _, rfl, rfl, _, rfl, ?_⟩
          have sl := sel_len (k := fun i => decide (b i ≤ t)) (nm := fun i => (ord i).name) (i := i)
          by_cases e : b i ≤ t
          · rw [decide_eq_true e]
            refine iteT ⟨_, rfl, .inl ⟨rfl, _, SqL.of A4.b⟩, _, rfl, r i, _, _, _, rfl, rfl, SqT.of (hnmT A4.s), at_of (j := 0) rfl rfl, br, _, _, rfl, rfl, A4.b, small (by rw [List.length_map]; omega), ?_⟩
            refine post () _ ?_
            rw [sel_yes (k := fun i => decide (b i ≤ t)) (decide_eq_true e)]
            exact A4.addB _ hbr1 nbr nba2
          · rw [decide_eq_false e]
            refine iteF (post () _ ?_)
            rw [sel_no (k := fun i => decide (b i ≤ t)) (decide_eq_false e)]
            exact A4
      · have sl := sel_len (k := fun i => decide (a i ≤ t) && decide (t < b i)) (nm := fun i => (ord i).name) (i := i)
        refine ⟨_, rfl, _, rfl, _, _, rfl, rfl, _, rfl, ?_⟩
        by_cases e : a i ≤ t
        · rw [decide_eq_true e]
          refine iteT ⟨_, rfl, _, _, rfl, rfl, _, rfl, ?_⟩
          by_cases e2 : t < b i
          · rw [decide_eq_true e2]
            refine iteT ⟨_, rfl, .inl ⟨rfl, _, SqL.of A3.r⟩, _, rfl, r i, _, _, _, rfl, rfl, SqT.of (hnmT A3.s), at_of (j := 0) rfl rfl, ra, _, _, rfl, rfl, A3.r, small (by rw [List.length_map]; omega), ?_⟩
            refine post () _ ?_
            rw [sel_yes (k := fun i => decide (a i ≤ t) && decide (t < b i)) (by rw [decide_eq_true e, decide_eq_true e2]; rfl)]
            exact A3.addR _ hra nbr nba1
          · rw [decide_eq_false e2]
            refine iteF (post () _ ?_)
            rw [sel_no (k := fun i => decide (a i ≤ t) && decide (t < b i)) (by rw [decide_eq_false e2, Bool.and_false])]
            exact A3
        · rw [decide_eq_false e]
          refine iteF ⟨_, rfl, iteF (post () _ ?_)⟩
          rw [sel_no (k := fun i => decide (a i ≤ t) && decide (t < b i)) (by rw [decide_eq_false e, Bool.false_and])]
          exact A3
    · rintro σ H2 ⟨v7, v8, v9, ys, rfl, A2, yl, yb⟩
      have hF2 := A2.s _ _ hF
      refine ⟨_, rfl, _, _, _, _, _, rfl, .ty "tuple", .base (.tup hF2), kit_ty (r := true) (by decide +kernel), true, rfl, iteF ?_⟩
      refine ⟨_, rfl, F, _, rfl, .inr (SqT.of hF2), rfl, _, rfl, ?_⟩
      refine iteF ?_
      refine ⟨_, rfl, F, _, _, _, rfl, rfl, SqT.of hF2, at_of (j := 0) rfl rfl, _, rfl, rfl, _, rfl, ?_⟩
      rw [decide_eq_true rfl]
      refine iteF ?_
      refine ⟨_, rfl, F, _, _, _, rfl, rfl, SqT.of hF2, at_of (j := 2) rfl rfl, _, rfl, ra, _, rfl, SqL.of A2.r, Nat.lt_of_le_of_lt sel_len (by omega), fun us p1 hu su hp1 => ?_⟩
      have eu : us = xs := sorted_one su sx (hu.trans px.symm)
      subst eu
      have A3 := A2.same (same_new (o := .lst (us.map V.str)) hp1)
      have okx : ∀ z ∈ us, NameOk z := fun z hz => by
        have h1 := px.mem_iff.mp hz
        obtain ⟨i, hi, rfl⟩ := List.mem_map.mp h1
        exact hnm i (List.mem_range.mp (List.mem_filter.mp hi).1)
      have okz : ∀ z ∈ zs, NameOk z := fun z hz => by
        have h1 := pz.mem_iff.mp hz
        obtain ⟨i, hi, rfl⟩ := List.mem_map.mp h1
        exact hnm i (List.mem_range.mp (List.mem_filter.mp hi).1)
      refine ne_names okx (A3.s _ _ hn1) upd_same ⟨_, rfl, ?_⟩
      refine iteF ?_
      have hF3 := A3.s _ _ hF
      refine ⟨_, rfl, F, _, _, _, rfl, rfl, SqT.of hF3, at_of (j := 3) rfl rfl, _, rfl, br, _, rfl, SqL.of A3.b, Nat.lt_of_le_of_lt sel_len (by omega), fun us2 p2 hu2 su2 hp2 => ?_⟩
      have eu2 : us2 = zs := sorted_one su2 sz (hu2.trans pz.symm)
      subst eu2
      have A4 := A3.same (same_new (o := .lst (us2.map V.str)) hp2)
      refine ne_names okz (A4.s _ _ hn2) upd_same ⟨_, rfl, ?_⟩
      refine iteF ?_
      have hy4 := A4.y
      have hF4 := A4.s _ _ hF
      generalize upd (upd H2 p1 (.lst (us.map V.str))) p2 (.lst (us2.map V.str)) = H4 at A4 hy4 hF4
      refine ⟨_, rfl, ba, rfl, ⟨_, SqL.of hy4⟩, fun D hD => ?_⟩
      refine lc_listF ys V.int (fun _ => false) V.int hD (SqL.of hy4) (by omega) ?_ ?_
      · intro y H5 R R' hyy s5 k1 _
        have hF5 := s5 _ _ hF4
        have eb := yb y hyy
        subst eb
        refine ⟨rfl, _, rfl, _, rfl, F, _, _, _, rfl, rfl, SqT.of hF5, at_of (j := 1) rfl rfl, rfl, _, rfl, ?_⟩
        rw [decide_eq_true rfl]
        exact iteF (k1 rfl _ (Same.refl _))
      · intro H5 s5 q5
        have e : ys.filter (fun _ => false) = [] := List.filter_eq_nil_iff.mpr (fun _ _ => by decide)
        rw [e] at q5
        refine ⟨Nat.zero_le _, fun l hl => ?_⟩
        have nD : D ≠ l := ne_of_none q5 hl
        exact eq_nil (ds := []) (xs := []) (by rw [upd_ne nD]; exact q5) .nil (fun d hd => (nomatch hd)) upd_same (kk _ ((A4.s.trans s5).trans (same_new hl)))
end
end Bay

/-! The law. -/
namespace Bay
open PySem L2 PyProof.Rows
theorem at_last {α : Type} {xs : List α} {v : α} {m : Nat} (hm : xs.length = m + 1) (h : xs[m]? = some v) : atI xs (-1) = some v := by
  unfold atI ixN
  rw [hm, if_neg (by omega), if_pos (by omega)]
  have : (-1 + ((m + 1 : Nat) : Int)).toNat = m := by omega
  rw [this]
  exact h
theorem le_maxOf {l : List Int} {b : Int} (h0 : 0 ≤ b) (h : ∀ x ∈ l, x ≤ b) : maxOf l ≤ b := by
  cases l with
  | nil => exact h0
  | cons x r => exact h _ (foldl_max_mem r x).1
theorem maxOf_nonneg {l : List Int} (h : ∀ x ∈ l, 0 ≤ x) : 0 ≤ maxOf l := by
  cases l with
  | nil => exact Int.le_refl _
  | cons x r => exact h _ (foldl_max_mem r x).1
theorem named_ {i : Nat} {v : V} {t u : L2.TS} {σ : L2.St} {H : Hp} {D : Ends} (h : tSeq t u D (σ.set i (some v)) H) : gName i v σ H (Ends.nx { D with nx := tSeq t u D }) := h
theorem kNext : ix "next_tick" sweepK = none := by decide +kernel
theorem max_all {K : PySem.W.Frag} {H : Hp} {D : Addr} {ns : List Int} {Q : VK} (h : SqL K H D (ns.map V.int)) (q : Q (.int (maxOf ns)) H) : rMaxDef K [.ref D] [.int 0] H Q := by
  refine ⟨D, ns, _, rfl, rfl, h, fun e => ?_, fun m r e => ?_⟩
  · rw [e] at q; exact q
  · rw [e] at q; exact q
theorem pk1 {σ : L2.St} {H : Hp} {d : V} {Q : List V → Hp → Prop} (h : Q [d] H) : tCons (tC d) tNil σ H Q := h
def latestOf (n : Nat) (ord : Nat → Ord) (gaps : List Int) : Int := if n = 0 then 0 else (ord (n - 1)).tick + 124 * gaps.sum
def spLaw (K : PySem.W.Frag) : Sp := fun vs H Q _ => ∃ (a : Addr) (xs : List Int), vs = [.ref a] ∧ SqL K H a (xs.map V.int) ∧ xs.length ≤ 63 ∧ ∀ H', Q (.bl true) H'
section
variable {n : Nat} {ord : Nat → Ord} {gaps : List Int} {most : Int}
theorem end_bounds (Ao : AisleOk gaps most) (Oo : OrdsOk n ord gaps.length) : 0 ≤ maxOf ((List.range n).map (fH (parOf n ord gaps most))) ∧ maxOf ((List.range n).map (fH (parOf n ord gaps most))) ≤ latestOf n ord gaps ∧ latestOf n ord gaps ≤ 1010000000 := by
  have o : (parOf n ord gaps most).Ok := par_ok (L := 0) Ao Oo
  have hR := R_bounds Ao
  have few := Oo.few
  have hl : 0 ≤ latestOf n ord gaps ∧ latestOf n ord gaps ≤ 1010000000 := by
    unfold latestOf
    split
    · omega
    · have t0 := (Oo.ok (n - 1) (by omega)).t0
      have t1 := (Oo.ok (n - 1) (by omega)).t1
      omega
  refine ⟨maxOf_nonneg fun x hx => ?_, le_maxOf hl.1 fun x hx => ?_, hl.2⟩
  · obtain ⟨i, hi, rfl⟩ := List.mem_map.mp hx
    exact fH_nonneg o (List.mem_range.mp hi)
  · obtain ⟨i, hi, rfl⟩ := List.mem_map.mp hx
    have hin := List.mem_range.mp hi
    have h1 := fH_le o (i := i) hin
    have e1 : (parOf n ord gaps most).last = (ord (n - 1)).tick := by
      unfold Par.last
      exact if_neg (show ¬ n = 0 by omega)
    have e2 : (parOf n ord gaps most).R = 2 * gaps.sum := rfl
    have e3 : (((parOf n ord gaps most).n : Nat) : Int) = (n : Int) := rfl
    rw [e1, e2, e3] at h1
    unfold latestOf
    rw [if_neg (by omega)]
    have h2 : ((n : Int) + 1) * (2 * gaps.sum) ≤ 62 * (2 * gaps.sum) := Int.mul_le_mul_of_nonneg_right (by omega) (by omega)
    omega
end
section
variable {P : Program} {w : World} {K : PySem.W.Frag} {mg : Str → Option Value} {base : Heap}
theorem scLaw : FnScope ["_law_script", "_law_pool_here", "_law_few", "_law_aisle_here", "_law_salt", "_law_style", "_law_hops", "_law_orders_here", "_law_latest", "_law_homes", "_law_end", "_law_sweep", "_law_tick", "_law_pair"] ["_law_script"] (defScope sLaw) := ⟨rfl, rfl, rfl, by decide +kernel, rfl, by decide +kernel, by decide +kernel⟩
theorem ok_law {f C : Addr} {fd : FuncData} (F : Fun K "law" "law" sLaw f fd) (T : Txt mg) (TT : SweepTxt K C) (gC : mg "Sweep" = some (.ref C)) {f1 fd1 f2 fd2 f3 fd3 f4 fd4 f5 fd5 f6 fd6 f7 fd7 f8 fd8 f9 fd9 fa fda}
    (D1 : Df P w K mg base 1 "_law_pool" ["_law_script", "_law_k"] (spPool K) f1 fd1) (D2 : Df P w K mg base 1 "_law_take" ["_law_pool_here", "_law_many"] spDraw f2 fd2)
    (D3 : Df P w K mg base 2 "_law_aisle" ["_law_pool_here", "_law_most_gaps", "_law_longest"] spLAisle f3 fd3)
    (D4 : Df P w K mg base 2 "_law_orders" ["_law_script", "_law_last", "_law_salt", "_law_style", "_law_hops", "_law_fewest"] (spLOrders K) f4 fd4)
    (D5 : Df P w K mg base 6 "homes_of" ["aisle", "orders"] spHomes f5 fd5) (D6 : Df P w K mg base 7 "end_of" ["aisle", "orders"] spEnd f6 fd6)
    (D7 : Df P w K mg base 1 "_law_are_homes" ["_law_found", "_law_orders_here"] spAreHomes f7 fd7)
    (D8 : Df P w K mg base 1 "_law_alike" ["_law_found", "_law_tick", "_law_orders_here", "_law_homes"] spAlike f8 fd8)
    (MK : Mk K C f9) (GI : FnOk P w K mg base CX0 5 f9 fd9 ["self", "aisle", "orders"] (spSweepInit C)) (bI : Binds K fd9 ["self", "aisle", "orders"] [])
    (M9 : Mf P w K mg base 3 C "next_tick" ["self"] (spNext C) fa fda) :
    FnOk P w K mg base CX0 8 f fd ["_law_script"] (spLaw K) := by
  refine F.ok scLaw (fun vs H Q E h => ?_) (fun cdv A0 outer s H vs Q E hr h => ?_)
  · obtain ⟨a, xs, rfl, _⟩ := h
    rfl
  · obtain ⟨a, xs, rfl, hS, h63, kk⟩ := h
    have r1 : Room 1 _ := hr.mono (by decide)
    have r2 : Room 2 _ := hr.mono (by decide)
    have r3 : Room 3 _ := hr.mono (by decide)
    have r6 : Room 6 _ := hr.mono (by decide)
    refine ⟨_, pss_cons (ps_set (i := 1) scLaw.nd rfl (Or.inl rfl) (pe_call D1.ok r1 rfl D1.gl D1.kp D1.bd .nil pass0 (pa_cons (pv 0) (pa_cons pe_int pa_nil))))
      (pss_cons (ps_set (i := 2) scLaw.nd rfl (Or.inl rfl) (pe_callTy call_int1 (by rfl) T.int bt_int (pa_cons (pe_cmpR op_lt (pe_callB call_len_seq (by rfl) T.len PySem.boot_len (pa_cons (pv 0) pa_nil)) pe_int (nomark _)) pa_nil)))
      (pss_cons (ps_set (i := 3) scLaw.nd rfl (Or.inl rfl) (pe_call D3.ok r2 rfl D3.gl D3.kp D3.bd .nil pass0 (pa_cons (pv 1) (pa_cons (pe_ix ix_list (pe_lst (pa_cons pe_int (pa_cons pe_int pa_nil))) (pv 2) (fun _ _ => rfl)) (pa_cons (pe_ix ix_list (pe_lst (pa_cons pe_int (pa_cons pe_int pa_nil))) (pv 2) (fun _ _ => rfl)) pa_nil)))))
      (pss_cons (ps_set (i := 4) scLaw.nd rfl (Or.inl rfl) (pe_call D2.ok r1 rfl D2.gl D2.kp D2.bd .nil pass0 (pa_cons (pv 1) (pa_cons pe_int pa_nil))))
      (pss_cons (ps_set (i := 5) scLaw.nd rfl (Or.inl rfl) (pe_call D2.ok r1 rfl D2.gl D2.kp D2.bd .nil pass0 (pa_cons (pv 1) (pa_cons pe_int pa_nil))))
      (pss_cons (ps_if (PW.pt (pw_and (pt_cmpR op_eq (pv 2) pe_int (nomark _)) (pw_and1 (pt_cmpR op_eq (pe_call D2.ok r1 rfl D2.gl D2.kp D2.bd .nil pass0 (pa_cons (pv 1) (pa_cons pe_int pa_nil))) pe_int (nomark _)))))
        (pss_one (ps_set (i := 3) scLaw.nd rfl (Or.inl rfl) (pe_call D3.ok r2 rfl D3.gl D3.kp D3.bd .nil pass0 (pa_cons (pv 1) (pa_cons pe_int (pa_cons pe_int pa_nil)))))) pss_nil)
      (pss_cons (ps_if (pt_cmpR op_gt (pe_callB call_len_seq (by rfl) T.len PySem.boot_len (pa_cons (pv 0) pa_nil)) pe_int (nomark _))
        (pss_one (ps_set (i := 3) scLaw.nd rfl (Or.inl rfl) (pe_tup (pa_cons (pe_ix ix_tup (pv 3) pe_int (fun _ _ => rfl)) (pa_cons (pe_callB (call_max2 rfl) (by rfl) T.max bt_max (pa_cons pe_int (pa_cons (pe_ix ix_tup (pv 3) pe_int (fun _ _ => rfl)) pa_nil))) pa_nil))))) pss_nil)
      (pss_cons (ps_set (i := 6) scLaw.nd rfl (Or.inl rfl) (pe_ix ix_list (pe_lst (pa_cons (pe_lst (pa_cons pe_int (pa_cons pe_int (pa_cons pe_int pa_nil)))) (pa_cons (pe_lst (pa_cons pe_int (pa_cons pe_int (pa_cons pe_int pa_nil)))) pa_nil))) (pv 2) (fun _ _ => rfl)))
      (pss_cons (ps_set (i := 7) scLaw.nd rfl (Or.inl rfl) (pe_call D4.ok r2 rfl D4.gl D4.kp D4.bd .nil pass0 (pa_cons (pv 0) (pa_cons (pe_callB call_len_seq (by rfl) T.len PySem.boot_len (pa_cons (pe_ix ix_tup (pv 3) pe_int (fun _ _ => rfl)) pa_nil)) (pa_cons (pv 4) (pa_cons (pv 5) (pa_cons (pv 6) (pa_cons pe_int pa_nil))))))))
      (pss_cons (ps_set (i := 8) scLaw.nd rfl (Or.inl rfl) pe_int)
      (pss_cons (ps_if (pt_cmpR (op_neD hr.units) (pv 7) (pe_lst pa_nil) (nomark _))
        (pss_one (ps_set (i := 8) scLaw.nd rfl (Or.inl rfl) (pe_op op_add (pe_ix ix_tup (pe_ix ix_list (pv 7) (pe_un un_neg pe_int) (fun _ _ => rfl)) pe_int (fun _ _ => rfl)) (pe_op op_mul pe_int (pe_callB (cr_sum rfl) (by rfl) T.sum bt_sum (pa_cons (pe_ix ix_tup (pv 3) pe_int (fun _ _ => rfl)) pa_nil)))))) pss_nil)
      (pss_cons (ps_set (i := 9) scLaw.nd rfl (Or.inl rfl) (pe_call D5.ok r6 rfl D5.gl D5.kp D5.bd .nil pass0 (pa_cons (pv 3) (pa_cons (pv 7) pa_nil))))
      (pss_cons (ps_set (i := 10) scLaw.nd rfl (Or.inl rfl) (pe_call D6.ok hr rfl D6.gl D6.kp D6.bd .nil pass0 (pa_cons (pv 3) (pa_cons (pv 7) pa_nil))))
      (pss_cons (ps_if (PW.pt (pw_or (pt_not (pt_val (pe_call D7.ok r1 rfl D7.gl D7.kp D7.bd .nil pass0 (pa_cons (pv 9) (pa_cons (pv 7) pa_nil))))) (pw_or1 (pt_cmpR op_ne (pv 10)
          (pe_callBK (cr_maxDef rfl hr) (by rfl) T.max bt_max (pa_cons (pe_lc (own := [("_law_pair", 13)]) (g := gName 13) (by rfl) scLaw.nd (pi_list (pv 9))
            (blkOk_by (own := [("_law_pair", 13)]) (N := ["_law_script", "_law_pool_here", "_law_few", "_law_aisle_here", "_law_salt", "_law_style", "_law_hops", "_law_orders_here", "_law_latest", "_law_homes", "_law_end", "_law_sweep", "_law_tick", "_law_pair"]) (sc := defScope sLaw) (by decide +kernel))
            (fun _ _ _ _ _ => pg_name (i := 13) scLaw.nd rfl (Or.inl rfl)) (fun _ _ _ _ _ => pts_nil) (fun _ _ _ _ _ => pe_ix (r := rIxT K) ix_tup (pv 13) pe_int (fun _ _ => rfl))) pa_nil) (pk_cons pe_int pk_nil)) (nomark _))))) pss_never pss_nil)
      (pss_cons (ps_if (pt_cmpR op_gt (pv 10) (pv 8) (nomark _)) pss_never pss_nil)
      (pss_cons (ps_set (i := 11) scLaw.nd rfl (Or.inl rfl) (pe_make MK GI r6 rfl gC bI .nil pass0 (pa_cons (pv 3) (pa_cons (pv 7) pa_nil))))
      (pss_cons (ps_for PassesOwn.never rfl (pi_range1 (by rfl) T.range (pa_cons (pe_op op_add (pv 10) pe_int) pa_nil)) (pg_name (i := 12) scLaw.nd rfl (Or.inl rfl))
        (pss_one (ps_if (pt_not (pt_val (pe_call D8.ok r1 rfl D8.gl D8.kp D8.bd .nil pass0 (pa_cons (pe_meth0 (pv 11) TT.cl M9.me M9.ok r3 M9.bd .nil pass0) (pa_cons (pv 12) (pa_cons (pv 7) (pa_cons (pv 9) pa_nil))))))) pss_never pss_nil)))
      (pss_one (ps_ret pe_bl)))))))))))))))))), ?_⟩
    refine ⟨_, rfl, a, xs, 0, rfl, hS, by decide, by decide, fun H1 q s1 hq p1 => ?_⟩
    have s1' : Same H H1 := s1
    have keep : ∀ {Ha Hb : Hp}, Same H Ha → But q Ha Hb → Same H Hb := fun a b c o e => b c o (ne_of_none e hq) (a c o e)
    refine ⟨_, rfl, a, _, rfl, .inl (s1.seq hS), _, _, rfl, rfl, .inr ⟨_, rfl, ?_⟩⟩
    obtain ⟨few, hfew, hf01⟩ : ∃ few : Int, few = (if decide ((((xs.map V.int).length : Nat) : Int) < 13) = true then 1 else 0) ∧ (few = 0 ∨ few = 1) := ⟨_, rfl, by split <;> simp⟩
    show tSeq _ _ _ [some (.ref a), some (.ref q), some (.int (if decide ((((xs.map V.int).length : Nat) : Int) < 13) = true then 1 else 0)), none, none, none, none, none, none, none, none, none, none, none] H1
    rw [← hfew]
    obtain ⟨mg1, hmg1, mg1a, mg1b⟩ : ∃ mg1 : Int, atI [V.int 3, V.int 5] few = some (.int mg1) ∧ 1 ≤ mg1 ∧ mg1 ≤ 15 := by
      rcases hf01 with e | e <;> rw [e]
      · exact ⟨3, rfl, by decide, by decide⟩
      · exact ⟨5, rfl, by decide, by decide⟩
    obtain ⟨lg1, hlg1, lg1a, lg1b⟩ : ∃ lg1 : Int, atI [V.int 2, V.int 12] few = some (.int lg1) ∧ 1 ≤ lg1 ∧ lg1 ≤ 1000 := by
      rcases hf01 with e | e <;> rw [e]
      · exact ⟨2, rfl, by decide, by decide⟩
      · exact ⟨12, rfl, by decide, by decide⟩
    refine ⟨_, rfl, (show 2 ≤ sizeLine by decide), fun l1 hl1 => ?_⟩
    refine ⟨_, rfl, l1, _, _, _, rfl, rfl, SqL.of upd_same, hmg1, (show 2 ≤ sizeLine by decide), fun l2 hl2 => ?_⟩
    have p2 := (p1.but (same_new (o := .lst [.int 3, .int 5]) hl1)).but (same_new (o := .lst [.int 2, .int 12]) hl2)
    have s2 := Same.new (Same.new s1 (o := .lst [.int 3, .int 5]) hl1) (o := .lst [.int 2, .int 12]) hl2
    refine ⟨_, rfl, l2, _, _, _, rfl, rfl, SqL.of upd_same, hlg1, q, mg1, lg1, rfl, p2, mg1a, mg1b, lg1a, lg1b, fun H3 A gaps most b3 p3 hA3 hAo => ?_⟩
    have s3 := keep s2 b3
    refine ⟨_, rfl, q, 9516, rfl, p3, by decide, by decide, fun salt H4 sa0 sa1 b4 p4 => ?_⟩
    have s4 := keep s3 b4
    refine ⟨_, rfl, q, 4, rfl, p4, by decide, by decide, fun style H5 st0 st1 b5 p5 => ?_⟩
    have s5 := keep s4 b5
    have hA5 := (hA3.but b4).but b5
    refine named_ ?_
    refine seq_then (α := Addr × List Int × Int) (fun z H' => Same H H' ∧ AisleAt H' z.1 z.2.1 z.2.2 ∧ AisleOk z.2.1 z.2.2)
      (fun z => [some (.ref a), some (.ref q), some (.int few), some (.ref z.1), some (.int salt), some (.int style), none, none, none, none, none, none, none, none]) ?_ (fun post => ?_)
    rotate_left
    · refine ⟨_, rfl, rfl, _, rfl, ?_⟩
      rcases hf01 with e | e
      · rw [decide_eq_false (show ¬ V.int few = V.int 1 by rw [e]; intro z; injection z with z; omega)]
        exact iteF (post (A, gaps, most) _ ⟨s5, hA5.at, hAo⟩)
      · rw [decide_eq_true (show V.int few = V.int 1 by rw [e])]
        refine iteT ⟨_, rfl, q, 4, rfl, p5, by decide, by decide, fun v H6 v0 v1 b6 p6 => ?_⟩
        have s6 := keep s5 b6
        refine ⟨rfl, _, rfl, ?_⟩
        by_cases ev : v = 0
        · rw [decide_eq_true (show V.int v = V.int 0 by rw [ev])]
          refine iteT ⟨_, rfl, q, 15, 3, rfl, p6, by decide, by decide, by decide, by decide, fun H7 A' gaps' most' b7 p7 hA7 hAo' => ?_⟩
          exact post (A', gaps', most') _ ⟨keep s6 b7, hA7.at, hAo'⟩
        · rw [decide_eq_false (show ¬ V.int v = V.int 0 from fun z => ev (by injection z))]
          exact iteF (post (A, gaps, most) _ ⟨s6, (hA5.but b6).at, hAo⟩)
    clear hA5 s5 p5 b5 s4 p4 b4 hA3 p3 b3 s3 s2 p2 hl2 l2 hl1 l1 hAo A gaps most H3 H4 H5
    rintro ⟨A, gaps, most⟩ H6 ⟨s6, hA6, hAo⟩
    refine seq_then (α := Addr × Int) (fun z H' => Same H H' ∧ AisleAt H' z.1 gaps z.2 ∧ AisleOk gaps z.2)
      (fun z => [some (.ref a), some (.ref q), some (.int few), some (.ref z.1), some (.int salt), some (.int style), none, none, none, none, none, none, none, none]) ?_ (fun post => ?_)
    rotate_left
    · refine ⟨_, rfl, a, _, rfl, .inl (s6.seq hS), _, _, rfl, rfl, _, rfl, ?_⟩
      cases decide ((((xs.map V.int).length : Nat) : Int) > 30) with
      | false => exact iteF (post (A, most) _ ⟨s6, hA6, hAo⟩)
      | true =>
        obtain ⟨g, e1, e2⟩ := hA6.ex
        refine iteT ⟨_, rfl, A, _, _, _, rfl, rfl, SqT.of e1, at_of (j := 0) rfl rfl, _, rfl, A, _, _, _, rfl, rfl, SqT.of e1, at_of (j := 1) rfl rfl, _, _, rfl, (show 2 ≤ sizeLine by decide), fun A' hA' => ?_⟩
        refine post (A', if most > 3 then most else 3) _ ⟨Same.new s6 hA', ⟨g, upd_same, same_new hA' _ _ e2⟩, ⟨hAo.l1, hAo.l2, hAo.g1, hAo.g2, ?_, ?_⟩⟩
        · have := hAo.m1
          show 1 ≤ (if most > 3 then most else 3)
          split <;> omega
        · have := hAo.m2
          show (if most > 3 then most else 3) ≤ 20
          split <;> omega
    clear hAo hA6 s6 H6 A most
    rintro ⟨A, most⟩ H7 ⟨s7, hA7, hAo⟩
    have hA7 : AisleAt H7 A gaps most := hA7
    have hAo : AisleOk gaps most := hAo
    refine ⟨(show 3 ≤ sizeLine by decide), fun i1 hi1 => ⟨(show 3 ≤ sizeLine by decide), fun i2 hi2 => ⟨(show 2 ≤ sizeLine by decide), fun ll hll => ?_⟩⟩⟩
    have o1 : (upd (upd (upd H7 i1 (.lst [.int 1, .int 2, .int 4])) i2 (.lst [.int 1, .int 4, .int 90])) ll (.lst [.ref i1, .ref i2])) i1 = some (.lst [.int 1, .int 2, .int 4]) := same_new hll _ _ (same_new hi2 _ _ upd_same)
    have o2 : (upd (upd (upd H7 i1 (.lst [.int 1, .int 2, .int 4])) i2 (.lst [.int 1, .int 4, .int 90])) ll (.lst [.ref i1, .ref i2])) i2 = some (.lst [.int 1, .int 4, .int 90]) := same_new hll _ _ upd_same
    have o3 : (upd (upd (upd H7 i1 (.lst [.int 1, .int 2, .int 4])) i2 (.lst [.int 1, .int 4, .int 90])) ll (.lst [.ref i1, .ref i2])) ll = some (.lst [.ref i1, .ref i2]) := upd_same
    have s78 : Same H7 (upd (upd (upd H7 i1 (.lst [.int 1, .int 2, .int 4])) i2 (.lst [.int 1, .int 4, .int 90])) ll (.lst [.ref i1, .ref i2])) := Same.new (Same.new (same_new hi1) hi2) hll
    generalize upd (upd (upd H7 i1 (.lst [.int 1, .int 2, .int 4])) i2 (.lst [.int 1, .int 4, .int 90])) ll (.lst [.ref i1, .ref i2]) = H8 at o1 o2 o3 s78
    obtain ⟨hp, h0, h1, h2, hat, hhp, b1, b2, b3, b4, b5, b6⟩ : ∃ (hp : Addr) (h0 h1 h2 : Int), atI [V.ref i1, V.ref i2] few = some (.ref hp) ∧ H8 hp = some (.lst [.int h0, .int h1, .int h2]) ∧ 1 ≤ h0 ∧ h0 ≤ 90 ∧ 1 ≤ h1 ∧ h1 ≤ 90 ∧ 1 ≤ h2 ∧ h2 ≤ 90 := by
      rcases hf01 with e | e <;> rw [e]
      · exact ⟨i1, 1, 2, 4, rfl, o1, by decide, by decide, by decide, by decide, by decide, by decide⟩
      · exact ⟨i2, 1, 4, 90, rfl, o2, by decide, by decide, by decide, by decide, by decide, by decide⟩
    have s8 := s7.trans s78
    have hA8 := hA7.same s78
    obtain ⟨saltN, rfl⟩ : ∃ saltN : Nat, salt = (saltN : Int) := ⟨salt.toNat, by omega⟩
    refine ⟨_, rfl, ll, _, _, _, rfl, rfl, SqL.of o3, hat, ?_⟩
    obtain ⟨g, eA, eg⟩ := hA8.ex
    refine ⟨_, rfl, _, rfl, A, _, _, _, rfl, rfl, SqT.of eA, at_of (j := 0) rfl rfl, g, _, rfl, .inl (SqL.of eg), _, rfl, _, rfl, _, rfl, a, hp, xs, gaps.length, saltN, style, h0, h1, h2, (by rw [List.length_map]; rfl), s8.seq hS, hhp, hAo.l1, hAo.l2, by omega, st0, st1, b1, b2, b3, b4, b5, b6, fun H9 lo n r ord s9 hO hOo => ?_⟩
    have sHo := s8.trans s9
    have hC9 : Ctx H9 A lo n r ord gaps most := ⟨hA8.same s9, hAo, hO, hOo⟩
    have pok : (parOf n ord gaps most).Ok := par_ok (L := 0) hAo hOo
    have few60 := hOo.few
    refine named_ ?_
    refine seq_after (α := Int) (σ' := [some (.ref a), some (.ref q), some (.int few), some (.ref A), some (.int (saltN : Int)), some (.int style), some (.ref hp), some (.ref lo), some (.int 0), none, none, none, none, none]) (fun z => z)
      (fun lt H' => Same H9 H' ∧ lt = latestOf n ord gaps) (fun lt => [some (.ref a), some (.ref q), some (.int few), some (.ref A), some (.int (saltN : Int)), some (.int style), some (.ref hp), some (.ref lo), some (.int lt), none, none, none, none, none]) ?_ (fun post => ?_)
    rotate_left
    · refine ⟨_, rfl, Nat.zero_le _, fun l hl => ?_⟩
      have hO1 := hO.same (same_new (o := .lst []) hl)
      have hC1 := hC9.same (same_new (o := .lst []) hl)
      refine ne_nil hO1.lst (dp_refs fun i hi => hO1.at_ i (List.mem_range.mp hi)) (fun d hd => by obtain ⟨i, hi, rfl⟩ := List.mem_map.mp hd; exact flat_ord (hOo.ok i (List.mem_range.mp hi)).nm) upd_same ⟨_, rfl, ?_⟩
      cases hn0 : n with
      | zero =>
        refine iteF (post _ _ ⟨same_new hl, ?_⟩)
        unfold latestOf
        rw [if_pos hn0]
      | succ m =>
        obtain ⟨g', eA', eg'⟩ := hC1.A.ex
        have em : ((List.range (m + 1)).map fun i => ordD (ord i)).isEmpty = false := by rw [List.range_succ]; simp
        rw [em]
        have hlst := hO1.lst
        rw [hn0] at hlst
        refine iteT ⟨_, rfl, _, rfl, lo, _, _, _, rfl, rfl, SqL.of hlst, at_last (m := m) (by rw [refs_len, List.length_range]) (refs_at (Nat.lt_succ_self m)), r m, _, _, _, rfl, rfl, SqT.of (hO1.at_ m (by omega)), at_of (j := 1) rfl rfl,
          _, rfl, A, _, _, _, rfl, rfl, SqT.of eA', at_of (j := 0) rfl rfl, g', gaps, rfl, SqL.of eg', _, _, rfl, rfl, .inl ⟨by decide, by decide⟩, _, _, rfl, rfl, ?_⟩
        refine post _ _ ⟨same_new hl, ?_⟩
        unfold latestOf
        rw [if_neg (by omega), hn0]
        rfl
    rintro lt H10 ⟨s10, rfl⟩
    have hC10 := hC9.same s10
    refine ⟨_, rfl, _, rfl, A, lo, n, r, ord, gaps, most, rfl, hC10, fun H11 lh qh s11 _ hH => ?_⟩
    refine ⟨_, rfl, _, rfl, A, lo, n, r, ord, gaps, most, rfl, hC10.same s11, fun H12 s12 => ?_⟩
    obtain ⟨e0, e1, e2⟩ := end_bounds hAo hOo
    have hC12 := (hC10.same s11).same s12
    have hH12 := hH.same s12
    refine ⟨_, rfl, _, rfl, lh, lo, n, qh, r, fT (parOf n ord gaps most), fH (parOf n ord gaps most), rfl, hH12.lst, hH12.at_, hC12.O.lst, fun H13 s13 => ⟨_, rfl, iteF ?_⟩⟩
    have hC13 := hC12.same s13
    have hH13 := hH12.same s13
    refine ⟨_, rfl, _, rfl, lh, rfl, ⟨_, SqL.of hH13.lst⟩, fun D hD => ?_⟩
    refine lc_listF (List.range n) (fun i => V.ref (qh i)) (fun _ => true) (fun i => .int (fH (parOf n ord gaps most) i)) hD (SqL.of hH13.lst) (by rw [List.length_range]; omega) ?_ ?_
    · intro i H14 R R' hi s14 _ k2
      have hin : i < n := List.mem_range.mp hi
      exact ⟨rfl, tyesT ⟨_, rfl, qh i, _, _, _, rfl, rfl, SqT.of (s14 _ _ (hH13.at_ i hin)), at_of (j := 1) rfl rfl, k2 rfl _ (Same.refl _)⟩⟩
    intro H14 s14 q14
    have hC14 := hC13.same s14
    have hH14 := hH13.same s14
    have ee : ((List.range n).filter fun _ => true).map (fun i => V.int (fH (parOf n ord gaps most) i)) = ((List.range n).map (fH (parOf n ord gaps most))).map V.int := by
      rw [List.filter_eq_self.mpr (fun _ _ => rfl), List.map_map]; rfl
    rw [ee] at q14
    clear ee
    dsimp only [tNil]
    refine pk1 ?_
    refine max_all (K := K) (SqL.of q14) ?_
    generalize maxOf ((List.range n).map (fH (parOf n ord gaps most))) = e at e0 e1
    refine ⟨rfl, _, rfl, ?_⟩
    rw [decide_eq_true rfl]
    refine iteF ?_
    refine ⟨_, rfl, _, rfl, _, _, rfl, rfl, _, rfl, ?_⟩
    rw [decide_eq_false (show ¬ e > latestOf n ord gaps by omega)]
    refine iteF ?_
    refine ⟨_, rfl, _, rfl, fun x dx0 hx hdx hne => ?_⟩
    have s0 : Same H14 (upd (upd H14 dx0 (.own x)) x (.ins C dx0 [])) := fun b o e => by
      rw [upd_ne (ne_of_none e hx), upd_ne (ne_of_none e hdx)]
      exact e
    refine ⟨H14, x, dx0, A, lo, n, r, ord, gaps, most, rfl, hC14, s0, hx, upd_same, fun H15 T15 => ⟨rfl, ?_⟩⟩
    have hSC : SCtx H14 n r ord gaps most := ⟨hC14.O.at_, hAo, hOo⟩
    refine ⟨_, rfl, _, _, rfl, rfl, e + 2, rfl, by omega, by omega, ?_⟩
    refine for_range (fun i σ H' => ∃ (v12 : Option V) (S : SS) (k c : Nat), σ = [some (.ref a), some (.ref q), some (.int few), some (.ref A), some (.int (saltN : Int)), some (.int style), some (.ref hp), some (.ref lo), some (.int (latestOf n ord gaps)), some (.ref lh), some (.int e), some (.ref x), v12, none] ∧
        SweepAt C H14 H' x gaps most r S ∧ WInv (parOf n ord gaps most) (i : Int) k c S)
      ⟨none, initW n, 0, 0, rfl, T15, ?_⟩ ?_ ?_
    · obtain ⟨i1, i2, i3⟩ := sinv_init pok
      exact ⟨i1, i2, i3⟩
    · rintro i σ H16 hi ⟨v12, S, k, c, rfl, T16, W16⟩
      obtain ⟨dx, g1, co, wa, rd, ar, h16⟩ := id T16
      refine ⟨_, rfl, x, dx, _, rfl, h16.obj, zip_none kNext, H14, x, n, gaps, most, r, ord, S, (i : Int), k, c, rfl, hSC, T16, W16, fun H17 S' k' c' F1 n1 n2 ys zs bv T17 W17 at17 hbv py sy pz sz hF hn1 hn2 => ?_⟩
      obtain ⟨dx7, g7, co7, wa7, rd7, ar7, h17⟩ := id T17
      have hO17 := hC14.O.same h17.same
      have hH17 := hH14.same h17.same
      have e0i : (0 : Int) + (i : Int) = (i : Int) := by omega
      refine ⟨_, rfl, _, rfl, _, rfl, F1, lo, lh, n1, n2, (i : Int), bv, n, r, qh, ord, fT (parOf n ord gaps most), fH (parOf n ord gaps most), ys, zs, (by rw [e0i]; rfl), few60, hO17, fun j hj => (hOo.ok j hj).nm, hH17.lst, hH17.at_, hF, hn1, hn2, ?_, sy, ?_, sz, fun j hj ej => ?_, fun j hj ej => ?_, fun H18 s18 => ⟨_, rfl, iteF ?_⟩⟩
      · exact py.trans ((rid_perm pok at17).map _)
      · exact pz.trans ((arr_perm pok at17).map _)
      · obtain ⟨m, em, bm⟩ := fT_stop pok (i := j) hj
        rw [hbv m (em.symm.trans ej), bm]
        rfl
      · obtain ⟨m, em, bm⟩ := fH_stop pok (i := j) hj
        rw [hbv m (em.symm.trans ej), bm]
        rfl
      · exact ⟨_, S', k', c', rfl, ⟨dx7, g7, co7, wa7, rd7, ar7, h17.move s18⟩, by
          have : ((i + 1 : Nat) : Int) = (i : Int) + 1 := by omega
          rw [this]; exact W17⟩
    · rintro σ H16 ⟨v12, S, k, c, rfl, _⟩
      exact kk H16
end
end Bay

/-! What the top has written; the walk. -/
namespace Bay
open PySem L2 PyProof.Rows
theorem all_mk {l : PySem.W.OpenLaw} {w : World} {K : PySem.W.Frag} {h : Heap} {mg : Str → Option Value} {fa CT CS f_iw f_im f_ib f_la f_io f_lo f_iu f_ro f_ho f_eo f_no f_lp f_lt f_li f_ln f_ld f_lh f_lk f_lw f_t0 f_t1 f_t2 f_t3 f_t4 f_s0 f_s1 f_s2 f_s3 f_s4 f_s5 : Addr} (X : K.In h) (G : h.Ns mainGlobals mg) (hfa : mg "law" = some (.ref fa))
    {od_iw an_iw od_im an_im od_ib an_ib od_la an_la od_io an_io od_lo an_lo od_iu an_iu od_ro an_ro od_ho an_ho od_eo an_eo od_no an_no od_lp an_lp od_lt an_lt od_li an_li od_ln an_ln od_ld an_ld od_lh an_lh od_lk an_lk od_lw an_lw od_t0 an_t0 od_t1 an_t1 od_t2 an_t2 od_t3 an_t3 od_t4 an_t4 od_s0 an_s0 od_s1 an_s1 od_s2 an_s2 od_s3 an_s3 od_s4 an_s4 od_s5 an_s5 : Option Addr} {sl_iw sl_im sl_ib sl_la sl_io sl_lo sl_iu sl_ro sl_ho sl_eo sl_no sl_lp sl_lt sl_li sl_ln sl_ld sl_lh sl_lk sl_lw sl_t0 sl_t1 sl_t2 sl_t3 sl_t4 sl_s0 sl_s1 sl_s2 sl_s3 sl_s4 sl_s5 : Array (Option Value)} {oc_iw kV_iw dc_iw pm_iw cd_iw ct_iw oc_im kV_im dc_im pm_im cd_im ct_im oc_ib kV_ib dc_ib pm_ib cd_ib ct_ib oc_la kV_la dc_la pm_la cd_la ct_la oc_io kV_io dc_io pm_io cd_io ct_io oc_lo kV_lo dc_lo pm_lo cd_lo ct_lo oc_iu kV_iu dc_iu pm_iu cd_iu ct_iu oc_ro kV_ro dc_ro pm_ro cd_ro ct_ro oc_ho kV_ho dc_ho pm_ho cd_ho ct_ho oc_eo kV_eo dc_eo pm_eo cd_eo ct_eo oc_no kV_no dc_no pm_no cd_no ct_no oc_lp kV_lp dc_lp pm_lp cd_lp ct_lp oc_lt kV_lt dc_lt pm_lt cd_lt ct_lt oc_li kV_li dc_li pm_li cd_li ct_li oc_ln kV_ln dc_ln pm_ln cd_ln ct_ln oc_ld kV_ld dc_ld pm_ld cd_ld ct_ld oc_lh kV_lh dc_lh pm_lh cd_lh ct_lh oc_lk kV_lk dc_lk pm_lk cd_lk ct_lk oc_lw kV_lw dc_lw pm_lw cd_lw ct_lw oc_t0 kV_t0 dc_t0 pm_t0 cd_t0 ct_t0 oc_t1 kV_t1 dc_t1 pm_t1 cd_t1 ct_t1 oc_t2 kV_t2 dc_t2 pm_t2 cd_t2 ct_t2 oc_t3 kV_t3 dc_t3 pm_t3 cd_t3 ct_t3 oc_t4 kV_t4 dc_t4 pm_t4 cd_t4 ct_t4 oc_s0 kV_s0 dc_s0 pm_s0 cd_s0 ct_s0 oc_s1 kV_s1 dc_s1 pm_s1 cd_s1 ct_s1 oc_s2 kV_s2 dc_s2 pm_s2 cd_s2 ct_s2 oc_s3 kV_s3 dc_s3 pm_s3 cd_s3 ct_s3 oc_s4 kV_s4 dc_s4 pm_s4 cd_s4 ct_s4 oc_s5 kV_s5 dc_s5 pm_s5 cd_s5 ct_s5 : Value} {t_LETTERS t_LONGEST t_MOST_GAPS t_LONGEST_GAP t_MOST_LOAD t_MOST_ORDERS t_LATEST : Tok}
    (aT : PySem.W.nsIn K mainGlobals "Tour" = some (some (.ref CT)))
    (aS : PySem.W.nsIn K mainGlobals "Sweep" = some (some (.ref CS)))
    (a_iw : PySem.W.nsIn K mainGlobals "is_whole" = some (some (.ref f_iw)))
    (l_iw : K.lookup f_iw = some ⟨oc_iw, od_iw, .func (PySem.W.fnOf "is_whole" "is_whole" (defArgs sIsWhole) (defBody sIsWhole) (defScope sIsWhole) .none kV_iw dc_iw pm_iw an_iw cd_iw ct_iw), sl_iw⟩)
    (c_iw : PySem.W.codeIn K cd_iw "is_whole" = true)
    (k_iw : PySem.W.keepIn K (.ref f_iw) = true)
    (a_im : PySem.W.nsIn K mainGlobals "is_name" = some (some (.ref f_im)))
    (l_im : K.lookup f_im = some ⟨oc_im, od_im, .func (PySem.W.fnOf "is_name" "is_name" (defArgs sIsName) (defBody sIsName) (defScope sIsName) .none kV_im dc_im pm_im an_im cd_im ct_im), sl_im⟩)
    (c_im : PySem.W.codeIn K cd_im "is_name" = true)
    (k_im : PySem.W.keepIn K (.ref f_im) = true)
    (a_ib : PySem.W.nsIn K mainGlobals "is_between" = some (some (.ref f_ib)))
    (l_ib : K.lookup f_ib = some ⟨oc_ib, od_ib, .func (PySem.W.fnOf "is_between" "is_between" (defArgs sIsBetween) (defBody sIsBetween) (defScope sIsBetween) .none kV_ib dc_ib pm_ib an_ib cd_ib ct_ib), sl_ib⟩)
    (c_ib : PySem.W.codeIn K cd_ib "is_between" = true)
    (k_ib : PySem.W.keepIn K (.ref f_ib) = true)
    (a_la : PySem.W.nsIn K mainGlobals "look_at_aisle" = some (some (.ref f_la)))
    (l_la : K.lookup f_la = some ⟨oc_la, od_la, .func (PySem.W.fnOf "look_at_aisle" "look_at_aisle" (defArgs sLookAisle) (defBody sLookAisle) (defScope sLookAisle) .none kV_la dc_la pm_la an_la cd_la ct_la), sl_la⟩)
    (c_la : PySem.W.codeIn K cd_la "look_at_aisle" = true)
    (k_la : PySem.W.keepIn K (.ref f_la) = true)
    (a_io : PySem.W.nsIn K mainGlobals "is_order" = some (some (.ref f_io)))
    (l_io : K.lookup f_io = some ⟨oc_io, od_io, .func (PySem.W.fnOf "is_order" "is_order" (defArgs sIsOrder) (defBody sIsOrder) (defScope sIsOrder) .none kV_io dc_io pm_io an_io cd_io ct_io), sl_io⟩)
    (c_io : PySem.W.codeIn K cd_io "is_order" = true)
    (k_io : PySem.W.keepIn K (.ref f_io) = true)
    (a_lo : PySem.W.nsIn K mainGlobals "look_at_orders" = some (some (.ref f_lo)))
    (l_lo : K.lookup f_lo = some ⟨oc_lo, od_lo, .func (PySem.W.fnOf "look_at_orders" "look_at_orders" (defArgs sLookOrders) (defBody sLookOrders) (defScope sLookOrders) .none kV_lo dc_lo pm_lo an_lo cd_lo ct_lo), sl_lo⟩)
    (c_lo : PySem.W.codeIn K cd_lo "look_at_orders" = true)
    (k_lo : PySem.W.keepIn K (.ref f_lo) = true)
    (a_iu : PySem.W.nsIn K mainGlobals "is_upward" = some (some (.ref f_iu)))
    (l_iu : K.lookup f_iu = some ⟨oc_iu, od_iu, .func (PySem.W.fnOf "is_upward" "is_upward" (defArgs sIsUpward) (defBody sIsUpward) (defScope sIsUpward) .none kV_iu dc_iu pm_iu an_iu cd_iu ct_iu), sl_iu⟩)
    (c_iu : PySem.W.codeIn K cd_iu "is_upward" = true)
    (k_iu : PySem.W.keepIn K (.ref f_iu) = true)
    (a_ro : PySem.W.nsIn K mainGlobals "round_of" = some (some (.ref f_ro)))
    (l_ro : K.lookup f_ro = some ⟨oc_ro, od_ro, .func (PySem.W.fnOf "round_of" "round_of" (defArgs sRoundOf) (defBody sRoundOf) (defScope sRoundOf) .none kV_ro dc_ro pm_ro an_ro cd_ro ct_ro), sl_ro⟩)
    (c_ro : PySem.W.codeIn K cd_ro "round_of" = true)
    (k_ro : PySem.W.keepIn K (.ref f_ro) = true)
    (a_ho : PySem.W.nsIn K mainGlobals "homes_of" = some (some (.ref f_ho)))
    (l_ho : K.lookup f_ho = some ⟨oc_ho, od_ho, .func (PySem.W.fnOf "homes_of" "homes_of" (defArgs sHomesOf) (defBody sHomesOf) (defScope sHomesOf) .none kV_ho dc_ho pm_ho an_ho cd_ho ct_ho), sl_ho⟩)
    (c_ho : PySem.W.codeIn K cd_ho "homes_of" = true)
    (k_ho : PySem.W.keepIn K (.ref f_ho) = true)
    (a_eo : PySem.W.nsIn K mainGlobals "end_of" = some (some (.ref f_eo)))
    (l_eo : K.lookup f_eo = some ⟨oc_eo, od_eo, .func (PySem.W.fnOf "end_of" "end_of" (defArgs sEndOf) (defBody sEndOf) (defScope sEndOf) .none kV_eo dc_eo pm_eo an_eo cd_eo ct_eo), sl_eo⟩)
    (c_eo : PySem.W.codeIn K cd_eo "end_of" = true)
    (k_eo : PySem.W.keepIn K (.ref f_eo) = true)
    (a_no : PySem.W.nsIn K mainGlobals "names_of" = some (some (.ref f_no)))
    (l_no : K.lookup f_no = some ⟨oc_no, od_no, .func (PySem.W.fnOf "names_of" "names_of" (defArgs sNamesOf) (defBody sNamesOf) (defScope sNamesOf) .none kV_no dc_no pm_no an_no cd_no ct_no), sl_no⟩)
    (c_no : PySem.W.codeIn K cd_no "names_of" = true)
    (k_no : PySem.W.keepIn K (.ref f_no) = true)
    (a_lp : PySem.W.nsIn K mainGlobals "_law_pool" = some (some (.ref f_lp)))
    (l_lp : K.lookup f_lp = some ⟨oc_lp, od_lp, .func (PySem.W.fnOf "_law_pool" "_law_pool" (defArgs sLPool) (defBody sLPool) (defScope sLPool) .none kV_lp dc_lp pm_lp an_lp cd_lp ct_lp), sl_lp⟩)
    (c_lp : PySem.W.codeIn K cd_lp "_law_pool" = true)
    (k_lp : PySem.W.keepIn K (.ref f_lp) = true)
    (a_lt : PySem.W.nsIn K mainGlobals "_law_take" = some (some (.ref f_lt)))
    (l_lt : K.lookup f_lt = some ⟨oc_lt, od_lt, .func (PySem.W.fnOf "_law_take" "_law_take" (defArgs sLTake) (defBody sLTake) (defScope sLTake) .none kV_lt dc_lt pm_lt an_lt cd_lt ct_lt), sl_lt⟩)
    (c_lt : PySem.W.codeIn K cd_lt "_law_take" = true)
    (k_lt : PySem.W.keepIn K (.ref f_lt) = true)
    (a_li : PySem.W.nsIn K mainGlobals "_law_aisle" = some (some (.ref f_li)))
    (l_li : K.lookup f_li = some ⟨oc_li, od_li, .func (PySem.W.fnOf "_law_aisle" "_law_aisle" (defArgs sLAisle) (defBody sLAisle) (defScope sLAisle) .none kV_li dc_li pm_li an_li cd_li ct_li), sl_li⟩)
    (c_li : PySem.W.codeIn K cd_li "_law_aisle" = true)
    (k_li : PySem.W.keepIn K (.ref f_li) = true)
    (a_ln : PySem.W.nsIn K mainGlobals "_law_name" = some (some (.ref f_ln)))
    (l_ln : K.lookup f_ln = some ⟨oc_ln, od_ln, .func (PySem.W.fnOf "_law_name" "_law_name" (defArgs sLName) (defBody sLName) (defScope sLName) .none kV_ln dc_ln pm_ln an_ln cd_ln ct_ln), sl_ln⟩)
    (c_ln : PySem.W.codeIn K cd_ln "_law_name" = true)
    (k_ln : PySem.W.keepIn K (.ref f_ln) = true)
    (a_ld : PySem.W.nsIn K mainGlobals "_law_orders" = some (some (.ref f_ld)))
    (l_ld : K.lookup f_ld = some ⟨oc_ld, od_ld, .func (PySem.W.fnOf "_law_orders" "_law_orders" (defArgs sLOrders) (defBody sLOrders) (defScope sLOrders) .none kV_ld dc_ld pm_ld an_ld cd_ld ct_ld), sl_ld⟩)
    (c_ld : PySem.W.codeIn K cd_ld "_law_orders" = true)
    (k_ld : PySem.W.keepIn K (.ref f_ld) = true)
    (a_lh : PySem.W.nsIn K mainGlobals "_law_are_homes" = some (some (.ref f_lh)))
    (l_lh : K.lookup f_lh = some ⟨oc_lh, od_lh, .func (PySem.W.fnOf "_law_are_homes" "_law_are_homes" (defArgs sLAreHomes) (defBody sLAreHomes) (defScope sLAreHomes) .none kV_lh dc_lh pm_lh an_lh cd_lh ct_lh), sl_lh⟩)
    (c_lh : PySem.W.codeIn K cd_lh "_law_are_homes" = true)
    (k_lh : PySem.W.keepIn K (.ref f_lh) = true)
    (a_lk : PySem.W.nsIn K mainGlobals "_law_alike" = some (some (.ref f_lk)))
    (l_lk : K.lookup f_lk = some ⟨oc_lk, od_lk, .func (PySem.W.fnOf "_law_alike" "_law_alike" (defArgs sLAlike) (defBody sLAlike) (defScope sLAlike) .none kV_lk dc_lk pm_lk an_lk cd_lk ct_lk), sl_lk⟩)
    (c_lk : PySem.W.codeIn K cd_lk "_law_alike" = true)
    (k_lk : PySem.W.keepIn K (.ref f_lk) = true)
    (a_lw : PySem.W.nsIn K mainGlobals "law" = some (some (.ref f_lw)))
    (l_lw : K.lookup f_lw = some ⟨oc_lw, od_lw, .func (PySem.W.fnOf "law" "law" (defArgs sLaw) (defBody sLaw) (defScope sLaw) .none kV_lw dc_lw pm_lw an_lw cd_lw ct_lw), sl_lw⟩)
    (c_lw : PySem.W.codeIn K cd_lw "law" = true)
    (k_lw : PySem.W.keepIn K (.ref f_lw) = true)
    (a_t0 : PySem.W.findIn K (.ref CT) "__init__" = some (some (.ref f_t0)))
    (i_t0 : PySem.W.isFn K (.ref f_t0) = true)
    (l_t0 : K.lookup f_t0 = some ⟨oc_t0, od_t0, .func (PySem.W.fnOf "__init__" "Tour.__init__" (defArgs sTourInit) (defBody sTourInit) (defScope sTourInit) .none kV_t0 dc_t0 pm_t0 an_t0 cd_t0 ct_t0), sl_t0⟩)
    (c_t0 : PySem.W.codeIn K cd_t0 "Tour.__init__" = true)
    (k_t0 : PySem.W.keepIn K (.ref f_t0) = true)
    (a_t1 : PySem.W.findIn K (.ref CT) "skip" = some (some (.ref f_t1)))
    (i_t1 : PySem.W.isFn K (.ref f_t1) = true)
    (l_t1 : K.lookup f_t1 = some ⟨oc_t1, od_t1, .func (PySem.W.fnOf "skip" "Tour.skip" (defArgs sSkip) (defBody sSkip) (defScope sSkip) .none kV_t1 dc_t1 pm_t1 an_t1 cd_t1 ct_t1), sl_t1⟩)
    (c_t1 : PySem.W.codeIn K cd_t1 "Tour.skip" = true)
    (k_t1 : PySem.W.keepIn K (.ref f_t1) = true)
    (a_t2 : PySem.W.findIn K (.ref CT) "lie_down" = some (some (.ref f_t2)))
    (i_t2 : PySem.W.isFn K (.ref f_t2) = true)
    (l_t2 : K.lookup f_t2 = some ⟨oc_t2, od_t2, .func (PySem.W.fnOf "lie_down" "Tour.lie_down" (defArgs sLieDown) (defBody sLieDown) (defScope sLieDown) .none kV_t2 dc_t2 pm_t2 an_t2 cd_t2 ct_t2), sl_t2⟩)
    (c_t2 : PySem.W.codeIn K cd_t2 "Tour.lie_down" = true)
    (k_t2 : PySem.W.keepIn K (.ref f_t2) = true)
    (a_t3 : PySem.W.findIn K (.ref CT) "stop" = some (some (.ref f_t3)))
    (i_t3 : PySem.W.isFn K (.ref f_t3) = true)
    (l_t3 : K.lookup f_t3 = some ⟨oc_t3, od_t3, .func (PySem.W.fnOf "stop" "Tour.stop" (defArgs sStop) (defBody sStop) (defScope sStop) .none kV_t3 dc_t3 pm_t3 an_t3 cd_t3 ct_t3), sl_t3⟩)
    (c_t3 : PySem.W.codeIn K cd_t3 "Tour.stop" = true)
    (k_t3 : PySem.W.keepIn K (.ref f_t3) = true)
    (a_t4 : PySem.W.findIn K (.ref CT) "leave" = some (some (.ref f_t4)))
    (i_t4 : PySem.W.isFn K (.ref f_t4) = true)
    (l_t4 : K.lookup f_t4 = some ⟨oc_t4, od_t4, .func (PySem.W.fnOf "leave" "Tour.leave" (defArgs sTourLeave) (defBody sTourLeave) (defScope sTourLeave) .none kV_t4 dc_t4 pm_t4 an_t4 cd_t4 ct_t4), sl_t4⟩)
    (c_t4 : PySem.W.codeIn K cd_t4 "Tour.leave" = true)
    (k_t4 : PySem.W.keepIn K (.ref f_t4) = true)
    (a_s0 : PySem.W.findIn K (.ref CS) "__init__" = some (some (.ref f_s0)))
    (i_s0 : PySem.W.isFn K (.ref f_s0) = true)
    (l_s0 : K.lookup f_s0 = some ⟨oc_s0, od_s0, .func (PySem.W.fnOf "__init__" "Sweep.__init__" (defArgs sSweepInit) (defBody sSweepInit) (defScope sSweepInit) .none kV_s0 dc_s0 pm_s0 an_s0 cd_s0 ct_s0), sl_s0⟩)
    (c_s0 : PySem.W.codeIn K cd_s0 "Sweep.__init__" = true)
    (k_s0 : PySem.W.keepIn K (.ref f_s0) = true)
    (a_s1 : PySem.W.findIn K (.ref CS) "next_tick" = some (some (.ref f_s1)))
    (i_s1 : PySem.W.isFn K (.ref f_s1) = true)
    (l_s1 : K.lookup f_s1 = some ⟨oc_s1, od_s1, .func (PySem.W.fnOf "next_tick" "Sweep.next_tick" (defArgs sNextTick) (defBody sNextTick) (defScope sNextTick) .none kV_s1 dc_s1 pm_s1 an_s1 cd_s1 ct_s1), sl_s1⟩)
    (c_s1 : PySem.W.codeIn K cd_s1 "Sweep.next_tick" = true)
    (k_s1 : PySem.W.keepIn K (.ref f_s1) = true)
    (a_s2 : PySem.W.findIn K (.ref CS) "turn" = some (some (.ref f_s2)))
    (i_s2 : PySem.W.isFn K (.ref f_s2) = true)
    (l_s2 : K.lookup f_s2 = some ⟨oc_s2, od_s2, .func (PySem.W.fnOf "turn" "Sweep.turn" (defArgs sTurn) (defBody sTurn) (defScope sTurn) .none kV_s2 dc_s2 pm_s2 an_s2 cd_s2 ct_s2), sl_s2⟩)
    (c_s2 : PySem.W.codeIn K cd_s2 "Sweep.turn" = true)
    (k_s2 : PySem.W.keepIn K (.ref f_s2) = true)
    (a_s3 : PySem.W.findIn K (.ref CS) "put" = some (some (.ref f_s3)))
    (i_s3 : PySem.W.isFn K (.ref f_s3) = true)
    (l_s3 : K.lookup f_s3 = some ⟨oc_s3, od_s3, .func (PySem.W.fnOf "put" "Sweep.put" (defArgs sPut) (defBody sPut) (defScope sPut) .none kV_s3 dc_s3 pm_s3 an_s3 cd_s3 ct_s3), sl_s3⟩)
    (c_s3 : PySem.W.codeIn K cd_s3 "Sweep.put" = true)
    (k_s3 : PySem.W.keepIn K (.ref f_s3) = true)
    (a_s4 : PySem.W.findIn K (.ref CS) "take" = some (some (.ref f_s4)))
    (i_s4 : PySem.W.isFn K (.ref f_s4) = true)
    (l_s4 : K.lookup f_s4 = some ⟨oc_s4, od_s4, .func (PySem.W.fnOf "take" "Sweep.take" (defArgs sTake) (defBody sTake) (defScope sTake) .none kV_s4 dc_s4 pm_s4 an_s4 cd_s4 ct_s4), sl_s4⟩)
    (c_s4 : PySem.W.codeIn K cd_s4 "Sweep.take" = true)
    (k_s4 : PySem.W.keepIn K (.ref f_s4) = true)
    (a_s5 : PySem.W.findIn K (.ref CS) "leave" = some (some (.ref f_s5)))
    (i_s5 : PySem.W.isFn K (.ref f_s5) = true)
    (l_s5 : K.lookup f_s5 = some ⟨oc_s5, od_s5, .func (PySem.W.fnOf "leave" "Sweep.leave" (defArgs sSweepLeave) (defBody sSweepLeave) (defScope sSweepLeave) .none kV_s5 dc_s5 pm_s5 an_s5 cd_s5 ct_s5), sl_s5⟩)
    (c_s5 : PySem.W.codeIn K cd_s5 "Sweep.leave" = true)
    (k_s5 : PySem.W.keepIn K (.ref f_s5) = true)
    (pgCT : PySem.W.plainGet K CT Str.empty = true)
    (hdCT : PySem.W.hasDictIn K CT = true)
    (poCT : PySem.W.plainOver K CT = true)
    (saCT : PySem.W.findIn K (.ref CT) "__setattr__" = some (some (.builtin "object.__setattr__")))
    (mkCT : PySem.W.makesIn K CT = true)
    (kcCT : PySem.W.keepIn K (.ref CT) = true)
    (nCT_aisle : PySem.W.findIn K (.ref CT) "aisle" = some none)
    (nCT_orders : PySem.W.findIn K (.ref CT) "orders" = some none)
    (nCT_taken : PySem.W.findIn K (.ref CT) "taken" = some none)
    (nCT_homes : PySem.W.findIn K (.ref CT) "homes" = some none)
    (nCT_many : PySem.W.findIn K (.ref CT) "many" = some none)
    (nCT_come : PySem.W.findIn K (.ref CT) "come" = some none)
    (nCT_lines : PySem.W.findIn K (.ref CT) "lines" = some none)
    (nCT_queued : PySem.W.findIn K (.ref CT) "queued" = some none)
    (nCT_riding : PySem.W.findIn K (.ref CT) "riding" = some none)
    (nCT_tick : PySem.W.findIn K (.ref CT) "tick" = some none)
    (nCT_bay : PySem.W.findIn K (.ref CT) "bay" = some none)
    (nCT_upward : PySem.W.findIn K (.ref CT) "upward" = some none)
    (pgCS : PySem.W.plainGet K CS Str.empty = true)
    (hdCS : PySem.W.hasDictIn K CS = true)
    (poCS : PySem.W.plainOver K CS = true)
    (saCS : PySem.W.findIn K (.ref CS) "__setattr__" = some (some (.builtin "object.__setattr__")))
    (mkCS : PySem.W.makesIn K CS = true)
    (kcCS : PySem.W.keepIn K (.ref CS) = true)
    (nCS_gaps : PySem.W.findIn K (.ref CS) "gaps" = some none)
    (nCS_most : PySem.W.findIn K (.ref CS) "most" = some none)
    (nCS_coming : PySem.W.findIn K (.ref CS) "coming" = some none)
    (nCS_waiting : PySem.W.findIn K (.ref CS) "waiting" = some none)
    (nCS_riding : PySem.W.findIn K (.ref CS) "riding" = some none)
    (nCS_arrived : PySem.W.findIn K (.ref CS) "arrived" = some none)
    (nCS_tick : PySem.W.findIn K (.ref CS) "tick" = some none)
    (nCS_bay : PySem.W.findIn K (.ref CS) "bay" = some none)
    (nCS_step : PySem.W.findIn K (.ref CS) "step" = some none)
    (nCS_ahead : PySem.W.findIn K (.ref CS) "ahead" = some none)
    (z_isinstance : PySem.W.nsIn K mainGlobals "isinstance" = some none)
    (z_int : PySem.W.nsIn K mainGlobals "int" = some none)
    (z_bool : PySem.W.nsIn K mainGlobals "bool" = some none)
    (z_str : PySem.W.nsIn K mainGlobals "str" = some none)
    (z_tuple : PySem.W.nsIn K mainGlobals "tuple" = some none)
    (z_list : PySem.W.nsIn K mainGlobals "list" = some none)
    (z_len : PySem.W.nsIn K mainGlobals "len" = some none)
    (z_all : PySem.W.nsIn K mainGlobals "all" = some none)
    (z_sum : PySem.W.nsIn K mainGlobals "sum" = some none)
    (z_max : PySem.W.nsIn K mainGlobals "max" = some none)
    (z_min : PySem.W.nsIn K mainGlobals "min" = some none)
    (z_range : PySem.W.nsIn K mainGlobals "range" = some none)
    (z_zip : PySem.W.nsIn K mainGlobals "zip" = some none)
    (z_sorted : PySem.W.nsIn K mainGlobals "sorted" = some none)
    (v_LETTERS : PySem.W.nsIn K mainGlobals "LETTERS" = some (some (.str "abcdefghijklmnopqrstuvwxyz" t_LETTERS)))
    (v_LONGEST : PySem.W.nsIn K mainGlobals "LONGEST" = some (some (.int 8 t_LONGEST)))
    (v_MOST_GAPS : PySem.W.nsIn K mainGlobals "MOST_GAPS" = some (some (.int 15 t_MOST_GAPS)))
    (v_LONGEST_GAP : PySem.W.nsIn K mainGlobals "LONGEST_GAP" = some (some (.int 1000 t_LONGEST_GAP)))
    (v_MOST_LOAD : PySem.W.nsIn K mainGlobals "MOST_LOAD" = some (some (.int 20 t_MOST_LOAD)))
    (v_MOST_ORDERS : PySem.W.nsIn K mainGlobals "MOST_ORDERS" = some (some (.int 60 t_MOST_ORDERS)))
    (v_LATEST : PySem.W.nsIn K mainGlobals "LATEST" = some (some (.int 1000000000 t_LATEST))) :
    ∃ fd : FuncData, (∀ (s : Shared) (v : Value), BindsTo s fd ⟨[v], []⟩ [("_law_script", v)]) ∧ ∀ base : Heap, K.In base → base.Ns mainGlobals mg → FnOk l.prog w K mg base CX0 8 fa fd ["_law_script"] (spLaw K) := by
  have e := hfa.symm.trans (PySem.W.mg_of X G a_lw)
  cases e
  have T : Txt mg := ⟨PySem.W.mg_none_of X G z_isinstance, PySem.W.mg_none_of X G z_int, PySem.W.mg_none_of X G z_bool, PySem.W.mg_none_of X G z_str, PySem.W.mg_none_of X G z_tuple, PySem.W.mg_none_of X G z_list, PySem.W.mg_none_of X G z_len, PySem.W.mg_none_of X G z_all, PySem.W.mg_none_of X G z_sum, PySem.W.mg_none_of X G z_max, PySem.W.mg_none_of X G z_min, PySem.W.mg_none_of X G z_range, PySem.W.mg_none_of X G z_zip, PySem.W.mg_none_of X G z_sorted, ⟨_, PySem.W.mg_of X G v_LETTERS⟩, ⟨_, PySem.W.mg_of X G v_LONGEST⟩, ⟨_, PySem.W.mg_of X G v_MOST_GAPS⟩, ⟨_, PySem.W.mg_of X G v_LONGEST_GAP⟩, ⟨_, PySem.W.mg_of X G v_MOST_LOAD⟩, ⟨_, PySem.W.mg_of X G v_MOST_ORDERS⟩, ⟨_, PySem.W.mg_of X G v_LATEST⟩⟩
  have TT : TourTxt K CT := ⟨⟨pgCT, hdCT, poCT, saCT⟩, nCT_aisle, nCT_orders, nCT_taken, nCT_homes, nCT_many, nCT_come, nCT_lines, nCT_queued, nCT_riding, nCT_tick, nCT_bay, nCT_upward⟩
  have SW : SweepTxt K CS := ⟨⟨pgCS, hdCS, poCS, saCS⟩, nCS_gaps, nCS_most, nCS_coming, nCS_waiting, nCS_riding, nCS_arrived, nCS_tick, nCS_bay, nCS_step, nCS_ahead⟩
  have gT := PySem.W.mg_of X G aT
  have gS := PySem.W.mg_of X G aS
  have F_iw := fun_mk (st := sIsWhole) l_iw c_iw k_iw
  have g_iw := PySem.W.mg_of X G a_iw
  have b_iw := F_iw.binds (ps := ["thing"]) fun _ _ _ _ _ _ us hl => match us, hl with | [_], _ => rfl
  have F_im := fun_mk (st := sIsName) l_im c_im k_im
  have g_im := PySem.W.mg_of X G a_im
  have b_im := F_im.binds (ps := ["thing"]) fun _ _ _ _ _ _ us hl => match us, hl with | [_], _ => rfl
  have F_ib := fun_mk (st := sIsBetween) l_ib c_ib k_ib
  have g_ib := PySem.W.mg_of X G a_ib
  have b_ib := F_ib.binds (ps := ["thing", "least", "greatest"]) fun _ _ _ _ _ _ us hl => match us, hl with | [_, _, _], _ => rfl
  have F_la := fun_mk (st := sLookAisle) l_la c_la k_la
  have g_la := PySem.W.mg_of X G a_la
  have b_la := F_la.binds (ps := ["thing"]) fun _ _ _ _ _ _ us hl => match us, hl with | [_], _ => rfl
  have F_io := fun_mk (st := sIsOrder) l_io c_io k_io
  have g_io := PySem.W.mg_of X G a_io
  have b_io := F_io.binds (ps := ["thing", "last"]) fun _ _ _ _ _ _ us hl => match us, hl with | [_, _], _ => rfl
  have F_lo := fun_mk (st := sLookOrders) l_lo c_lo k_lo
  have g_lo := PySem.W.mg_of X G a_lo
  have b_lo := F_lo.binds (ps := ["aisle", "thing"]) fun _ _ _ _ _ _ us hl => match us, hl with | [_, _], _ => rfl
  have F_iu := fun_mk (st := sIsUpward) l_iu c_iu k_iu
  have g_iu := PySem.W.mg_of X G a_iu
  have b_iu := F_iu.binds (ps := ["order"]) fun _ _ _ _ _ _ us hl => match us, hl with | [_], _ => rfl
  have F_ro := fun_mk (st := sRoundOf) l_ro c_ro k_ro
  have g_ro := PySem.W.mg_of X G a_ro
  have b_ro := F_ro.binds (ps := ["aisle"]) fun _ _ _ _ _ _ us hl => match us, hl with | [_], _ => rfl
  have F_ho := fun_mk (st := sHomesOf) l_ho c_ho k_ho
  have g_ho := PySem.W.mg_of X G a_ho
  have b_ho := F_ho.binds (ps := ["aisle", "orders"]) fun _ _ _ _ _ _ us hl => match us, hl with | [_, _], _ => rfl
  have F_eo := fun_mk (st := sEndOf) l_eo c_eo k_eo
  have g_eo := PySem.W.mg_of X G a_eo
  have b_eo := F_eo.binds (ps := ["aisle", "orders"]) fun _ _ _ _ _ _ us hl => match us, hl with | [_, _], _ => rfl
  have F_no := fun_mk (st := sNamesOf) l_no c_no k_no
  have g_no := PySem.W.mg_of X G a_no
  have b_no := F_no.binds (ps := ["orders"]) fun _ _ _ _ _ _ us hl => match us, hl with | [_], _ => rfl
  have F_lp := fun_mk (st := sLPool) l_lp c_lp k_lp
  have g_lp := PySem.W.mg_of X G a_lp
  have b_lp := F_lp.binds (ps := ["_law_script", "_law_k"]) fun _ _ _ _ _ _ us hl => match us, hl with | [_, _], _ => rfl
  have F_lt := fun_mk (st := sLTake) l_lt c_lt k_lt
  have g_lt := PySem.W.mg_of X G a_lt
  have b_lt := F_lt.binds (ps := ["_law_pool_here", "_law_many"]) fun _ _ _ _ _ _ us hl => match us, hl with | [_, _], _ => rfl
  have F_li := fun_mk (st := sLAisle) l_li c_li k_li
  have g_li := PySem.W.mg_of X G a_li
  have b_li := F_li.binds (ps := ["_law_pool_here", "_law_most_gaps", "_law_longest"]) fun _ _ _ _ _ _ us hl => match us, hl with | [_, _, _], _ => rfl
  have F_ln := fun_mk (st := sLName) l_ln c_ln k_ln
  have g_ln := PySem.W.mg_of X G a_ln
  have b_ln := F_ln.binds (ps := ["_law_k", "_law_salt"]) fun _ _ _ _ _ _ us hl => match us, hl with | [_, _], _ => rfl
  have F_ld := fun_mk (st := sLOrders) l_ld c_ld k_ld
  have g_ld := PySem.W.mg_of X G a_ld
  have b_ld := F_ld.binds (ps := ["_law_script", "_law_last", "_law_salt", "_law_style", "_law_hops", "_law_fewest"]) fun _ _ _ _ _ _ us hl => match us, hl with | [_, _, _, _, _, _], _ => rfl
  have F_lh := fun_mk (st := sLAreHomes) l_lh c_lh k_lh
  have g_lh := PySem.W.mg_of X G a_lh
  have b_lh := F_lh.binds (ps := ["_law_found", "_law_orders_here"]) fun _ _ _ _ _ _ us hl => match us, hl with | [_, _], _ => rfl
  have F_lk := fun_mk (st := sLAlike) l_lk c_lk k_lk
  have g_lk := PySem.W.mg_of X G a_lk
  have b_lk := F_lk.binds (ps := ["_law_found", "_law_tick", "_law_orders_here", "_law_homes"]) fun _ _ _ _ _ _ us hl => match us, hl with | [_, _, _, _], _ => rfl
  have F_lw := fun_mk (st := sLaw) l_lw c_lw k_lw
  have F_t0 := fun_mk (st := sTourInit) l_t0 c_t0 k_t0
  have b_t0 := F_t0.binds (ps := ["self", "aisle", "orders"]) fun _ _ _ _ _ _ us hl => match us, hl with | [_, _, _], _ => rfl
  have m_t0 : Meth K CT "__init__" f_t0 := ⟨a_t0, i_t0, k_t0⟩
  have F_t1 := fun_mk (st := sSkip) l_t1 c_t1 k_t1
  have b_t1 := F_t1.binds (ps := ["self"]) fun _ _ _ _ _ _ us hl => match us, hl with | [_], _ => rfl
  have m_t1 : Meth K CT "skip" f_t1 := ⟨a_t1, i_t1, k_t1⟩
  have F_t2 := fun_mk (st := sLieDown) l_t2 c_t2 k_t2
  have b_t2 := F_t2.binds (ps := ["self"]) fun _ _ _ _ _ _ us hl => match us, hl with | [_], _ => rfl
  have m_t2 : Meth K CT "lie_down" f_t2 := ⟨a_t2, i_t2, k_t2⟩
  have F_t3 := fun_mk (st := sStop) l_t3 c_t3 k_t3
  have b_t3 := F_t3.binds (ps := ["self"]) fun _ _ _ _ _ _ us hl => match us, hl with | [_], _ => rfl
  have m_t3 : Meth K CT "stop" f_t3 := ⟨a_t3, i_t3, k_t3⟩
  have F_t4 := fun_mk (st := sTourLeave) l_t4 c_t4 k_t4
  have b_t4 := F_t4.binds (ps := ["self"]) fun _ _ _ _ _ _ us hl => match us, hl with | [_], _ => rfl
  have m_t4 : Meth K CT "leave" f_t4 := ⟨a_t4, i_t4, k_t4⟩
  have F_s0 := fun_mk (st := sSweepInit) l_s0 c_s0 k_s0
  have b_s0 := F_s0.binds (ps := ["self", "aisle", "orders"]) fun _ _ _ _ _ _ us hl => match us, hl with | [_, _, _], _ => rfl
  have m_s0 : Meth K CS "__init__" f_s0 := ⟨a_s0, i_s0, k_s0⟩
  have F_s1 := fun_mk (st := sNextTick) l_s1 c_s1 k_s1
  have b_s1 := F_s1.binds (ps := ["self"]) fun _ _ _ _ _ _ us hl => match us, hl with | [_], _ => rfl
  have m_s1 : Meth K CS "next_tick" f_s1 := ⟨a_s1, i_s1, k_s1⟩
  have F_s2 := fun_mk (st := sTurn) l_s2 c_s2 k_s2
  have b_s2 := F_s2.binds (ps := ["self"]) fun _ _ _ _ _ _ us hl => match us, hl with | [_], _ => rfl
  have m_s2 : Meth K CS "turn" f_s2 := ⟨a_s2, i_s2, k_s2⟩
  have F_s3 := fun_mk (st := sPut) l_s3 c_s3 k_s3
  have b_s3 := F_s3.binds (ps := ["self"]) fun _ _ _ _ _ _ us hl => match us, hl with | [_], _ => rfl
  have m_s3 : Meth K CS "put" f_s3 := ⟨a_s3, i_s3, k_s3⟩
  have F_s4 := fun_mk (st := sTake) l_s4 c_s4 k_s4
  have b_s4 := F_s4.binds (ps := ["self"]) fun _ _ _ _ _ _ us hl => match us, hl with | [_], _ => rfl
  have m_s4 : Meth K CS "take" f_s4 := ⟨a_s4, i_s4, k_s4⟩
  have F_s5 := fun_mk (st := sSweepLeave) l_s5 c_s5 k_s5
  have b_s5 := F_s5.binds (ps := ["self"]) fun _ _ _ _ _ _ us hl => match us, hl with | [_], _ => rfl
  have m_s5 : Meth K CS "leave" f_s5 := ⟨a_s5, i_s5, k_s5⟩
  refine ⟨PySem.W.fnOf "law" "law" (defArgs sLaw) (defBody sLaw) (defScope sLaw) .none kV_lw dc_lw pm_lw an_lw cd_lw ct_lw, fun s v => .of_eq rfl, fun base _ _ => ?_⟩
  have d_iw : Df l.prog w K mg base 1 "is_whole" ["thing"] spIsWhole f_iw _ := ⟨ok_isWhole F_iw T, g_iw, k_iw, b_iw⟩
  have d_im : Df l.prog w K mg base 2 "is_name" ["thing"] spIsName f_im _ := ⟨(ok_isName F_im T).mono (by decide), g_im, k_im, b_im⟩
  have d_ib : Df l.prog w K mg base 2 "is_between" ["thing", "least", "greatest"] spIsBetween f_ib _ := ⟨ok_isBetween F_ib T d_iw, g_ib, k_ib, b_ib⟩
  have d_la : Df l.prog w K mg base 3 "look_at_aisle" ["thing"] spLookAisle f_la _ := ⟨ok_lookAisle F_la T d_ib, g_la, k_la, b_la⟩
  have d_io : Df l.prog w K mg base 3 "is_order" ["thing", "last"] spIsOrder f_io _ := ⟨ok_isOrder F_io T d_ib d_im, g_io, k_io, b_io⟩
  have d_lo : Df l.prog w K mg base 4 "look_at_orders" ["aisle", "thing"] spLookOrders f_lo _ := ⟨ok_lookOrders F_lo T d_la d_io, g_lo, k_lo, b_lo⟩
  have d_iu : Df l.prog w K mg base 1 "is_upward" ["order"] spIsUpward f_iu _ := ⟨ok_isUpward F_iu, g_iu, k_iu, b_iu⟩
  have d_ro : Df l.prog w K mg base 1 "round_of" ["aisle"] spRoundOf f_ro _ := ⟨ok_roundOf F_ro T, g_ro, k_ro, b_ro⟩
  have d_no : Df l.prog w K mg base 1 "names_of" ["orders"] spNamesOf f_no _ := ⟨ok_namesOf F_no T, g_no, k_no, b_no⟩
  have d_t1 : Mf l.prog w K mg base 2 CT "skip" ["self"] (spSkip l.prog w CT) f_t1 _ := ⟨ok_skip F_t1 T TT d_ro, m_t1, b_t1⟩
  have d_t2 : Mf l.prog w K mg base 2 CT "lie_down" ["self"] (spLie l.prog w CT) f_t2 _ := ⟨ok_lie F_t2 T TT d_iu, m_t2, b_t2⟩
  have d_t3 : Mf l.prog w K mg base 2 CT "stop" ["self"] (spStop l.prog w CT) f_t3 _ := ⟨ok_stop F_t3 T TT, m_t3, b_t3⟩
  have d_t4 : Mf l.prog w K mg base 2 CT "leave" ["self"] (spLeave l.prog w CT) f_t4 _ := ⟨(ok_leave F_t4 T TT).mono (by decide), m_t4, b_t4⟩
  have d_ho : Df l.prog w K mg base 6 "homes_of" ["aisle", "orders"] spHomes f_ho _ := ⟨ok_homesOf F_ho T TT gT d_lo ⟨mkCT, a_t0, i_t0, kcCT⟩ (ok_tourInit F_t0 T TT) b_t0 d_t1 d_t2 d_t3 d_t4, g_ho, k_ho, b_ho⟩
  have d_eo : Df l.prog w K mg base 7 "end_of" ["aisle", "orders"] spEnd f_eo _ := ⟨ok_endOf F_eo T d_ho, g_eo, k_eo, b_eo⟩
  have d_s2 : Mf l.prog w K mg base 1 CS "turn" ["self"] (spTurn CS) f_s2 _ := ⟨ok_turn F_s2 T SW, m_s2, b_s2⟩
  have d_s3 : Mf l.prog w K mg base 1 CS "put" ["self"] (spPut CS) f_s3 _ := ⟨ok_put F_s3 T SW, m_s3, b_s3⟩
  have d_s4 : Mf l.prog w K mg base 2 CS "take" ["self"] (spTake CS) f_s4 _ := ⟨ok_take F_s4 T SW d_iu, m_s4, b_s4⟩
  have d_s5 : Mf l.prog w K mg base 1 CS "leave" ["self"] (spLeaveW CS) f_s5 _ := ⟨ok_leaveW F_s5 T SW, m_s5, b_s5⟩
  have d_s1 : Mf l.prog w K mg base 3 CS "next_tick" ["self"] (spNext CS) f_s1 _ := ⟨ok_next F_s1 T SW d_no d_s2 d_s3 d_s4 d_s5, m_s1, b_s1⟩
  have d_lp : Df l.prog w K mg base 1 "_law_pool" ["_law_script", "_law_k"] (spPool K) f_lp _ := ⟨ok_pool F_lp T, g_lp, k_lp, b_lp⟩
  have d_lt : Df l.prog w K mg base 1 "_law_take" ["_law_pool_here", "_law_many"] spDraw f_lt _ := ⟨ok_draw F_lt T, g_lt, k_lt, b_lt⟩
  have d_li : Df l.prog w K mg base 2 "_law_aisle" ["_law_pool_here", "_law_most_gaps", "_law_longest"] spLAisle f_li _ := ⟨ok_lAisle F_li T d_lt, g_li, k_li, b_li⟩
  have d_ln : Df l.prog w K mg base 1 "_law_name" ["_law_k", "_law_salt"] spLName f_ln _ := ⟨ok_lName F_ln T, g_ln, k_ln, b_ln⟩
  have d_ld : Df l.prog w K mg base 2 "_law_orders" ["_law_script", "_law_last", "_law_salt", "_law_style", "_law_hops", "_law_fewest"] (spLOrders K) f_ld _ := ⟨ok_lOrders F_ld T d_lp d_lt d_ln, g_ld, k_ld, b_ld⟩
  have d_lh : Df l.prog w K mg base 1 "_law_are_homes" ["_law_found", "_law_orders_here"] spAreHomes f_lh _ := ⟨ok_areHomes F_lh T, g_lh, k_lh, b_lh⟩
  have d_lk : Df l.prog w K mg base 1 "_law_alike" ["_law_found", "_law_tick", "_law_orders_here", "_law_homes"] spAlike f_lk _ := ⟨ok_alike F_lk T, g_lk, k_lk, b_lk⟩
  exact ok_law F_lw T SW gS d_lp d_lt d_li d_ld d_ho d_eo d_lh d_lk ⟨mkCS, a_s0, i_s0, kcCS⟩ (ok_sweepInit F_s0 T SW d_lo) b_s0 d_s1
theorem walk {l : PySem.W.OpenLaw} {q : Program} {loose : List Str} {XP : (Str → Option Value) → Heap → Prop} {YP : World → Heap → Prop} {d : DefRec} {K : Params → PySem.W.Frag} (hn : l.most = some 63) (hdf : d.params.defaults = [])
    (hY : ∀ (w : World) (h : Heap), YP w h → (K w.params).In h)
    (F : ∀ (w : World) (mg : Str → Option Value) (fa : Addr) (h : Heap), (K w.params).In h → h.Ns mainGlobals mg → mg d.name = some (.ref fa) →
      ∃ fd : FuncData, (∀ (s : Shared) (u : Value), BindsTo s fd ⟨[u], []⟩ [("_law_script", u)]) ∧ ∀ base : Heap, (K w.params).In base → base.Ns mainGlobals mg → FnOk l.prog w (K w.params) mg base CX0 8 fa fd ["_law_script"] (spLaw (K w.params))) :
    PySem.W.WalkO q loose XP YP l.row.toRowW d [] (fun f vs => PySem.call f vs) :=
  L2.walk_of (n := 63) (k := 8) (x := "_law_script") (CX := fun _ => CX0) (sp := fun w => spLaw (K w.params)) hn (by decide) hdf ⟨rfl, by decide, by decide⟩ hY F (fun _ _ a ns hl _ hS => ⟨a, ns, rfl, hS, hl, fun _ => rfl⟩) fun _ _ _ _ _ z => z
end Bay

open PySem PySem.W PyProof.Rows in
set_option maxRecDepth 100000 in
set_option maxHeartbeats 0 in
theorem PySem.Challenge.cw_baycart_k57_whole_ticks_and_skips_holds : PySem.Challenge.rw_baycart_k57_whole_ticks_and_skips.Holds := by
  w_on; o_law; k_head; (case hw => w_witness2)
  k_fill
  refine Bay.walk (l := PySem.Challenge.rw_baycart_k57_whole_ticks_and_skips) rfl rfl (fun w h Y => PySem.W.kIn_of Y) ?F
  case F =>
    intro w mg fa h KX G hmg
    refine' Bay.all_mk KX G hmg ?aT ?aS ?a_iw ?l_iw ?c_iw ?k_iw ?a_im ?l_im ?c_im ?k_im ?a_ib ?l_ib ?c_ib ?k_ib ?a_la ?l_la ?c_la ?k_la ?a_io ?l_io ?c_io ?k_io ?a_lo ?l_lo ?c_lo ?k_lo ?a_iu ?l_iu ?c_iu ?k_iu ?a_ro ?l_ro ?c_ro ?k_ro ?a_ho ?l_ho ?c_ho ?k_ho ?a_eo ?l_eo ?c_eo ?k_eo ?a_no ?l_no ?c_no ?k_no ?a_lp ?l_lp ?c_lp ?k_lp ?a_lt ?l_lt ?c_lt ?k_lt ?a_li ?l_li ?c_li ?k_li ?a_ln ?l_ln ?c_ln ?k_ln ?a_ld ?l_ld ?c_ld ?k_ld ?a_lh ?l_lh ?c_lh ?k_lh ?a_lk ?l_lk ?c_lk ?k_lk ?a_lw ?l_lw ?c_lw ?k_lw ?a_t0 ?i_t0 ?l_t0 ?c_t0 ?k_t0 ?a_t1 ?i_t1 ?l_t1 ?c_t1 ?k_t1 ?a_t2 ?i_t2 ?l_t2 ?c_t2 ?k_t2 ?a_t3 ?i_t3 ?l_t3 ?c_t3 ?k_t3 ?a_t4 ?i_t4 ?l_t4 ?c_t4 ?k_t4 ?a_s0 ?i_s0 ?l_s0 ?c_s0 ?k_s0 ?a_s1 ?i_s1 ?l_s1 ?c_s1 ?k_s1 ?a_s2 ?i_s2 ?l_s2 ?c_s2 ?k_s2 ?a_s3 ?i_s3 ?l_s3 ?c_s3 ?k_s3 ?a_s4 ?i_s4 ?l_s4 ?c_s4 ?k_s4 ?a_s5 ?i_s5 ?l_s5 ?c_s5 ?k_s5 ?pgCT ?hdCT ?poCT ?saCT ?mkCT ?kcCT ?nCT_aisle ?nCT_orders ?nCT_taken ?nCT_homes ?nCT_many ?nCT_come ?nCT_lines ?nCT_queued ?nCT_riding ?nCT_tick ?nCT_bay ?nCT_upward ?pgCS ?hdCS ?poCS ?saCS ?mkCS ?kcCS ?nCS_gaps ?nCS_most ?nCS_coming ?nCS_waiting ?nCS_riding ?nCS_arrived ?nCS_tick ?nCS_bay ?nCS_step ?nCS_ahead ?z_isinstance ?z_int ?z_bool ?z_str ?z_tuple ?z_list ?z_len ?z_all ?z_sum ?z_max ?z_min ?z_range ?z_zip ?z_sorted ?v_LETTERS ?v_LONGEST ?v_MOST_GAPS ?v_LONGEST_GAP ?v_MOST_LOAD ?v_MOST_ORDERS ?v_LATEST
    (case aT => k_is)
    (case aS => k_is)
    (case a_iw => k_is)
    (case l_iw => k_is)
    (case c_iw => k_is)
    (case k_iw => k_is)
    (case a_im => k_is)
    (case l_im => k_is)
    (case c_im => k_is)
    (case k_im => k_is)
    (case a_ib => k_is)
    (case l_ib => k_is)
    (case c_ib => k_is)
    (case k_ib => k_is)
    (case a_la => k_is)
    (case l_la => k_is)
    (case c_la => k_is)
    (case k_la => k_is)
    (case a_io => k_is)
    (case l_io => k_is)
    (case c_io => k_is)
    (case k_io => k_is)
    (case a_lo => k_is)
    (case l_lo => k_is)
    (case c_lo => k_is)
    (case k_lo => k_is)
    (case a_iu => k_is)
    (case l_iu => k_is)
    (case c_iu => k_is)
    (case k_iu => k_is)
    (case a_ro => k_is)
    (case l_ro => k_is)
    (case c_ro => k_is)
    (case k_ro => k_is)
    (case a_ho => k_is)
    (case l_ho => k_is)
    (case c_ho => k_is)
    (case k_ho => k_is)
    (case a_eo => k_is)
    (case l_eo => k_is)
    (case c_eo => k_is)
    (case k_eo => k_is)
    (case a_no => k_is)
    (case l_no => k_is)
    (case c_no => k_is)
    (case k_no => k_is)
    (case a_lp => k_is)
    (case l_lp => k_is)
    (case c_lp => k_is)
    (case k_lp => k_is)
    (case a_lt => k_is)
    (case l_lt => k_is)
    (case c_lt => k_is)
    (case k_lt => k_is)
    (case a_li => k_is)
    (case l_li => k_is)
    (case c_li => k_is)
    (case k_li => k_is)
    (case a_ln => k_is)
    (case l_ln => k_is)
    (case c_ln => k_is)
    (case k_ln => k_is)
    (case a_ld => k_is)
    (case l_ld => k_is)
    (case c_ld => k_is)
    (case k_ld => k_is)
    (case a_lh => k_is)
    (case l_lh => k_is)
    (case c_lh => k_is)
    (case k_lh => k_is)
    (case a_lk => k_is)
    (case l_lk => k_is)
    (case c_lk => k_is)
    (case k_lk => k_is)
    (case a_lw => k_is)
    (case l_lw => k_is)
    (case c_lw => k_is)
    (case k_lw => k_is)
    (case a_t0 => k_is)
    (case i_t0 => k_is)
    (case l_t0 => k_is)
    (case c_t0 => k_is)
    (case k_t0 => k_is)
    (case a_t1 => k_is)
    (case i_t1 => k_is)
    (case l_t1 => k_is)
    (case c_t1 => k_is)
    (case k_t1 => k_is)
    (case a_t2 => k_is)
    (case i_t2 => k_is)
    (case l_t2 => k_is)
    (case c_t2 => k_is)
    (case k_t2 => k_is)
    (case a_t3 => k_is)
    (case i_t3 => k_is)
    (case l_t3 => k_is)
    (case c_t3 => k_is)
    (case k_t3 => k_is)
    (case a_t4 => k_is)
    (case i_t4 => k_is)
    (case l_t4 => k_is)
    (case c_t4 => k_is)
    (case k_t4 => k_is)
    (case a_s0 => k_is)
    (case i_s0 => k_is)
    (case l_s0 => k_is)
    (case c_s0 => k_is)
    (case k_s0 => k_is)
    (case a_s1 => k_is)
    (case i_s1 => k_is)
    (case l_s1 => k_is)
    (case c_s1 => k_is)
    (case k_s1 => k_is)
    (case a_s2 => k_is)
    (case i_s2 => k_is)
    (case l_s2 => k_is)
    (case c_s2 => k_is)
    (case k_s2 => k_is)
    (case a_s3 => k_is)
    (case i_s3 => k_is)
    (case l_s3 => k_is)
    (case c_s3 => k_is)
    (case k_s3 => k_is)
    (case a_s4 => k_is)
    (case i_s4 => k_is)
    (case l_s4 => k_is)
    (case c_s4 => k_is)
    (case k_s4 => k_is)
    (case a_s5 => k_is)
    (case i_s5 => k_is)
    (case l_s5 => k_is)
    (case c_s5 => k_is)
    (case k_s5 => k_is)
    (case pgCT => k_is)
    (case hdCT => k_is)
    (case poCT => k_is)
    (case saCT => k_is)
    (case mkCT => k_is)
    (case kcCT => k_is)
    (case nCT_aisle => k_is)
    (case nCT_orders => k_is)
    (case nCT_taken => k_is)
    (case nCT_homes => k_is)
    (case nCT_many => k_is)
    (case nCT_come => k_is)
    (case nCT_lines => k_is)
    (case nCT_queued => k_is)
    (case nCT_riding => k_is)
    (case nCT_tick => k_is)
    (case nCT_bay => k_is)
    (case nCT_upward => k_is)
    (case pgCS => k_is)
    (case hdCS => k_is)
    (case poCS => k_is)
    (case saCS => k_is)
    (case mkCS => k_is)
    (case kcCS => k_is)
    (case nCS_gaps => k_is)
    (case nCS_most => k_is)
    (case nCS_coming => k_is)
    (case nCS_waiting => k_is)
    (case nCS_riding => k_is)
    (case nCS_arrived => k_is)
    (case nCS_tick => k_is)
    (case nCS_bay => k_is)
    (case nCS_step => k_is)
    (case nCS_ahead => k_is)
    (case z_isinstance => k_is)
    (case z_int => k_is)
    (case z_bool => k_is)
    (case z_str => k_is)
    (case z_tuple => k_is)
    (case z_list => k_is)
    (case z_len => k_is)
    (case z_all => k_is)
    (case z_sum => k_is)
    (case z_max => k_is)
    (case z_min => k_is)
    (case z_range => k_is)
    (case z_zip => k_is)
    (case z_sorted => k_is)
    (case v_LETTERS => k_is)
    (case v_LONGEST => k_is)
    (case v_MOST_GAPS => k_is)
    (case v_LONGEST_GAP => k_is)
    (case v_MOST_LOAD => k_is)
    (case v_MOST_ORDERS => k_is)
    (case v_LATEST => k_is)
