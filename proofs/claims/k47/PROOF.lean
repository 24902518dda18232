import PyProof.Rows.All
import Wide.All
import OpenK.AllK
import Wide.FinOn
import HandS.ForMost
import HandS.Walk
import HandS.Zip
import HandS.Deep
import HandS.IsInst
import HandS.TupAny
import HandS.Conv
import HandS.Star
import HandS.Codes
import HandS.SortKw
import HandS.SortRule
import HandS.Wide
import HandS.Defaults
import HandS.Style
import HandS.Head0
import HandS.Head1
import HandS.Head2
import HandS.HeadEnd
import HandS.HeadHook1
import HandS.HeadHook2
import KE.SortKeyHeap
import KE.GoesMore
import KE.GoesEnum
import PySem.Challenge.RW_pitlots_k47_whole_best_profiles
import KE.DatumOrd
import KE.KTupSum
set_option Elab.async false
set_option linter.all false
set_option maxRecDepth 100000
set_option maxHeartbeats 0
namespace PL
abbrev P2 := Int × Int
def g (p : List Int) (i : Nat) : Int := p.getD i 0
def r2 (rs : List P2) (i : Nat) : P2 := rs.getD i (0, 0)
def step (a b : Int) (r : P2) : Bool := decide (a - b ≤ r.1) && decide (b - a ≤ r.2)
def letsK (p : List Int) (rs : List P2) (m : Nat) : Bool := (List.range m).all fun i => step (g p i) (g p (i + 1)) (r2 rs i)
def lets (p : List Int) (rs : List P2) : Bool := letsK p rs rs.length
def upto (s : Int) : List Int := (List.range (s + 1).toNat).map fun (n : Nat) => (n : Int)
theorem mem_upto {s d : Int} : d ∈ upto s ↔ 0 ≤ d ∧ d ≤ s := by
  unfold upto
  rw [List.mem_map]
  constructor
  · rintro ⟨n, hn, rfl⟩
    rw [List.mem_range] at hn
    omega
  · rintro ⟨h1, h2⟩
    exact ⟨d.toNat, List.mem_range.mpr (by omega), by omega⟩
def depthsN (cs : List Int) : Nat → List (List Int)
  | 0 => [[]]
  | n + 1 => (depthsN cs n).flatMap fun row => (upto (g cs n)).map fun d => row ++ [d]
def letsAt (rs : List P2) (n : Nat) (more : List Int) : Bool := if n = 0 then true else step (g more (n - 1)) (g more n) (r2 rs (n - 1))
def profsN (cs : List Int) (rs : List P2) : Nat → List (List Int)
  | 0 => [[]]
  | n + 1 => (profsN cs rs n).flatMap fun row => ((upto (g cs n)).map fun d => row ++ [d]).filter (letsAt rs n)
def depths (cs : List Int) : List (List Int) := depthsN cs cs.length
def profs (cs : List Int) (rs : List P2) : List (List Int) := profsN cs rs cs.length
theorem g_app_lt {p : List Int} {d : Int} {i : Nat} (h : i < p.length) : g (p ++ [d]) i = g p i := by
  unfold g
  rw [List.getD_eq_getElem?_getD, List.getD_eq_getElem?_getD, List.getElem?_append_left h]
theorem g_app_eq {p : List Int} {d : Int} : g (p ++ [d]) p.length = d := by
  unfold g
  rw [List.getD_eq_getElem?_getD, List.getElem?_append_right (Nat.le_refl _), Nat.sub_self]
  rfl
theorem mem_depthsN {cs : List Int} : ∀ {n : Nat} {p : List Int}, p ∈ depthsN cs n ↔ p.length = n ∧ ∀ i, i < n → 0 ≤ g p i ∧ g p i ≤ g cs i
  | 0, p => by
    show p ∈ [[]] ↔ _
    rw [List.mem_singleton]
    constructor
    · rintro rfl
      exact ⟨rfl, fun i h => absurd h (Nat.not_lt_zero _)⟩
    · rintro ⟨h, _⟩
      exact List.eq_nil_of_length_eq_zero h
  | n + 1, p => by
    show p ∈ (depthsN cs n).flatMap _ ↔ _
    rw [List.mem_flatMap]
    constructor
    · rintro ⟨row, hr, hp⟩
      obtain ⟨d, hd, rfl⟩ := List.mem_map.mp hp
      obtain ⟨hl, hb⟩ := mem_depthsN.mp hr
      refine ⟨by simp [hl], fun i hi => ?_⟩
      by_cases h : i < n
      · rw [g_app_lt (by omega)]
        exact hb i h
      · have e : i = row.length := by omega
        rw [e, g_app_eq]
        have := mem_upto.mp hd
        rw [hl]
        exact this
    · rintro ⟨hl, hb⟩
      have hne : p ≠ [] := by
        rintro rfl
        simp at hl
      refine ⟨p.dropLast, mem_depthsN.mpr ⟨by rw [List.length_dropLast]; omega, fun i hi => ?_⟩, List.mem_map.mpr ⟨p.getLast hne, ?_, List.dropLast_concat_getLast hne⟩⟩
      · have e := hb i (by omega)
        have e2 : g p.dropLast i = g p i := by
          conv => rhs; rw [← List.dropLast_concat_getLast hne]
          rw [g_app_lt (by rw [List.length_dropLast]; omega)]
        rw [e2]
        exact e
      · have e := hb n (by omega)
        have e2 : g p n = p.getLast hne := by
          conv => lhs; rw [← List.dropLast_concat_getLast hne]
          have : n = p.dropLast.length := by rw [List.length_dropLast]; omega
          conv => lhs; rw [this]
          rw [g_app_eq]
        rw [e2] at e
        exact mem_upto.mpr e
theorem letsK_snoc {row : List Int} {rs : List P2} {n : Nat} {d : Int} (h : row.length = n + 1) : letsK (row ++ [d]) rs (n + 1) = (letsK row rs n && letsAt rs (n + 1) (row ++ [d])) := by
  unfold letsK letsAt
  rw [List.range_succ, List.all_append, if_neg (by omega)]
  congr 1
  · rw [Bool.eq_iff_iff, List.all_eq_true, List.all_eq_true]
    have hh : ∀ i, i ∈ List.range n → step (g (row ++ [d]) i) (g (row ++ [d]) (i + 1)) (r2 rs i) = step (g row i) (g row (i + 1)) (r2 rs i) := fun i hi => by
      rw [List.mem_range] at hi
      rw [g_app_lt (by omega), g_app_lt (by omega)]
    exact ⟨fun q i hi => by rw [← hh i hi]; exact q i hi, fun q i hi => by rw [hh i hi]; exact q i hi⟩
  · simp
theorem flatMap_congr {α β : Type} {f k : α → List β} : ∀ {l : List α}, (∀ x ∈ l, f x = k x) → l.flatMap f = l.flatMap k
  | [], _ => rfl
  | x :: l, h => by
    rw [List.flatMap_cons, List.flatMap_cons, h x List.mem_cons_self, flatMap_congr fun y hy => h y (List.mem_cons_of_mem _ hy)]
theorem filter_flatMap' {α β : Type} {f : α → List β} {q : β → Bool} : ∀ {l : List α}, (l.flatMap f).filter q = l.flatMap fun x => (f x).filter q
  | [] => rfl
  | x :: l => by rw [List.flatMap_cons, List.flatMap_cons, List.filter_append, filter_flatMap']
theorem flatMap_filter' {α β : Type} {f : α → List β} {q : α → Bool} : ∀ {l : List α}, (l.filter q).flatMap f = l.flatMap fun x => if q x = true then f x else []
  | [] => rfl
  | x :: l => by
    rw [List.flatMap_cons, List.filter_cons]
    split
    · rw [List.flatMap_cons, flatMap_filter']
    · rw [flatMap_filter']
      rfl
/-- the pruned list is the filtered one -/
theorem profsN_eq (cs : List Int) (rs : List P2) : ∀ n : Nat, profsN cs rs n = (depthsN cs n).filter fun p => letsK p rs (n - 1)
  | 0 => rfl
  | n + 1 => by
    show (profsN cs rs n).flatMap _ = ((depthsN cs n).flatMap _).filter _
    rw [profsN_eq cs rs n, filter_flatMap', flatMap_filter']
    refine flatMap_congr fun row hrow => ?_
    have hl := (mem_depthsN.mp hrow).1
    cases n with
    | zero =>
      rw [if_pos (by simp [letsK])]
      exact List.filter_congr fun x _ => by simp [letsK, letsAt]
    | succ m =>
      simp only [Nat.add_sub_cancel]
      split
      · rename_i h
        refine List.filter_congr fun x hx => ?_
        obtain ⟨d, _, rfl⟩ := List.mem_map.mp hx
        rw [letsK_snoc hl, h, Bool.true_and]
      · rename_i h
        symm
        rw [List.filter_eq_nil_iff]
        intro x hx
        obtain ⟨d, _, rfl⟩ := List.mem_map.mp hx
        rw [letsK_snoc hl]
        simp [h]
theorem profs_eq {cs : List Int} {rs : List P2} (h : rs.length + 1 = cs.length) : profs cs rs = (depths cs).filter fun p => lets p rs := by
  unfold profs depths lets
  rw [profsN_eq, show cs.length - 1 = rs.length by omega]
structure IsProf (cs : List Int) (rs : List P2) (p : List Int) : Prop where
  len : p.length = cs.length
  bd : ∀ i, i < cs.length → 0 ≤ g p i ∧ g p i ≤ g cs i
  lt : ∀ i, i < rs.length → g p i - g p (i + 1) ≤ (r2 rs i).1 ∧ g p (i + 1) - g p i ≤ (r2 rs i).2
theorem lets_iff {p : List Int} {rs : List P2} : lets p rs = true ↔ ∀ i, i < rs.length → g p i - g p (i + 1) ≤ (r2 rs i).1 ∧ g p (i + 1) - g p i ≤ (r2 rs i).2 := by
  unfold lets letsK step
  simp only [List.all_eq_true, List.mem_range, Bool.and_eq_true, decide_eq_true_eq]
theorem mem_profs {cs : List Int} {rs : List P2} {p : List Int} (h : rs.length + 1 = cs.length) : p ∈ profs cs rs ↔ IsProf cs rs p := by
  rw [profs_eq h, List.mem_filter]
  unfold depths
  rw [mem_depthsN]
  constructor
  · rintro ⟨⟨a, b⟩, c⟩
    exact ⟨a, b, lets_iff.mp c⟩
  · rintro ⟨a, b, c⟩
    exact ⟨⟨a, b⟩, lets_iff.mpr c⟩

/-! ### worths, least and greatest -/
def worthOf (ww : List (List Int)) (p : List Int) : Int := ((ww.zip p).map fun x => (x.1.take x.2.toNat).sum).sum
theorem worth_cons (w : List Int) (ww : List (List Int)) (a : Int) (p : List Int) : worthOf (w :: ww) (a :: p) = (w.take a.toNat).sum + worthOf ww p := by
  simp [worthOf]
def pmin (p q : List Int) : List Int := List.zipWith min p q
def pmax (p q : List Int) : List Int := List.zipWith max p q
theorem worth_minmax : ∀ {ww : List (List Int)} {p q : List Int}, p.length = q.length → worthOf ww (pmin p q) + worthOf ww (pmax p q) = worthOf ww p + worthOf ww q
  | [], p, q, _ => by simp [worthOf]
  | w :: ww, [], q, h => by
    have : q = [] := List.eq_nil_of_length_eq_zero h.symm
    subst this
    simp [worthOf, pmin, pmax]
  | w :: ww, a :: p, [], h => by simp at h
  | w :: ww, a :: p, b :: q, h => by
    have ih := worth_minmax (ww := ww) (p := p) (q := q) (by simpa using h)
    show worthOf (w :: ww) (min a b :: pmin p q) + worthOf (w :: ww) (max a b :: pmax p q) = _
    simp only [worth_cons]
    rcases Int.le_total a b with hab | hab
    · rw [Int.min_eq_left hab, Int.max_eq_right hab]
      omega
    · rw [Int.min_eq_right hab, Int.max_eq_left hab]
      omega
theorem g_zip {f : Int → Int → Int} {p q : List Int} {i : Nat} (h : p.length = q.length) (hi : i < p.length) : g (List.zipWith f p q) i = f (g p i) (g q i) := by
  unfold g
  simp only [List.getD_eq_getElem?_getD]
  rw [List.getElem?_zipWith, List.getElem?_eq_getElem hi, List.getElem?_eq_getElem (by omega : i < q.length)]
  rfl
theorem prof_min {cs : List Int} {rs : List P2} {p q : List Int} (hr : rs.length + 1 = cs.length) (hp : IsProf cs rs p) (hq : IsProf cs rs q) : IsProf cs rs (pmin p q) := by
  have hl : p.length = q.length := by rw [hp.len, hq.len]
  have e : ∀ i, i < cs.length → g (pmin p q) i = min (g p i) (g q i) := fun i hi => g_zip hl (by rw [hp.len]; exact hi)
  refine ⟨by unfold pmin; rw [List.length_zipWith, hp.len, hq.len, Nat.min_self], fun i hi => ?_, fun i hi => ?_⟩
  · rw [e i hi]
    have h1 := hp.bd i hi
    have h2 := hq.bd i hi
    omega
  · rw [e i (by omega), e (i + 1) (by omega)]
    have h1 := hp.lt i hi
    have h2 := hq.lt i hi
    omega
theorem prof_max {cs : List Int} {rs : List P2} {p q : List Int} (hr : rs.length + 1 = cs.length) (hp : IsProf cs rs p) (hq : IsProf cs rs q) : IsProf cs rs (pmax p q) := by
  have hl : p.length = q.length := by rw [hp.len, hq.len]
  have e : ∀ i, i < cs.length → g (pmax p q) i = max (g p i) (g q i) := fun i hi => g_zip hl (by rw [hp.len]; exact hi)
  refine ⟨by unfold pmax; rw [List.length_zipWith, hp.len, hq.len, Nat.min_self], fun i hi => ?_, fun i hi => ?_⟩
  · rw [e i hi]
    have h1 := hp.bd i hi
    have h2 := hq.bd i hi
    omega
  · rw [e i (by omega), e (i + 1) (by omega)]
    have h1 := hp.lt i hi
    have h2 := hq.lt i hi
    omega
def maxL (xs : List Int) : Int := xs.max?.getD 0
def minL (xs : List Int) : Int := xs.min?.getD 0
theorem maxL_eq {xs : List Int} {m : Int} (h : m ∈ xs) (hb : ∀ x ∈ xs, x ≤ m) : maxL xs = m := by
  unfold maxL
  rw [List.max?_eq_some_iff.mpr ⟨h, hb⟩]
  rfl
theorem minL_eq {xs : List Int} {m : Int} (h : m ∈ xs) (hb : ∀ x ∈ xs, m ≤ x) : minL xs = m := by
  unfold minL
  rw [List.min?_eq_some_iff.mpr ⟨h, hb⟩]
  rfl
theorem maxL_spec {xs : List Int} (h : xs ≠ []) : maxL xs ∈ xs ∧ ∀ x ∈ xs, x ≤ maxL xs := by
  cases e : xs.max? with
  | none => exact absurd (List.max?_eq_none_iff.mp e) h
  | some m =>
    have := List.max?_eq_some_iff.mp e
    unfold maxL
    rw [e]
    exact this
theorem minL_spec {xs : List Int} (h : xs ≠ []) : minL xs ∈ xs ∧ ∀ x ∈ xs, minL xs ≤ x := by
  cases e : xs.min? with
  | none => exact absurd (List.min?_eq_none_iff.mp e) h
  | some m =>
    have := List.min?_eq_some_iff.mp e
    unfold minL
    rw [e]
    exact this
def most (ww : List (List Int)) (P : List (List Int)) : Int := maxL (P.map (worthOf ww))
def bests (ww : List (List Int)) (P : List (List Int)) : List (List Int) := P.filter fun p => decide (worthOf ww p = most ww P)
def leastOf (n : Nat) (some : List (List Int)) : List Int := (List.range n).map fun i => minL (some.map fun p => g p i)
def greatOf (n : Nat) (some : List (List Int)) : List Int := (List.range n).map fun i => maxL (some.map fun p => g p i)
theorem lat_min {B : List Int → Prop} {n : Nat} (hl : ∀ p, B p → p.length = n) (hB : ∀ p q, B p → B q → B (pmin p q)) : ∀ (l : List (List Int)), (∀ p ∈ l, B p) → l ≠ [] → ∃ q, B q ∧ ∀ p ∈ l, ∀ i, i < n → g q i ≤ g p i
  | [], _, h => absurd rfl h
  | [a], h, _ => ⟨a, h a List.mem_cons_self, fun p hp i _ => by rw [List.mem_singleton.mp hp]; exact Int.le_refl _⟩
  | a :: b :: l, h, _ => by
    obtain ⟨q, hq, hm⟩ := lat_min hl hB (b :: l) (fun p hp => h p (List.mem_cons_of_mem _ hp)) (by simp)
    have ha := h a List.mem_cons_self
    refine ⟨pmin a q, hB _ _ ha hq, fun p hp i hi => ?_⟩
    have e : g (pmin a q) i = min (g a i) (g q i) := g_zip (by rw [hl _ ha, hl _ hq]) (by rw [hl _ ha]; exact hi)
    rw [e]
    rcases List.mem_cons.mp hp with rfl | hp
    · omega
    · have := hm p hp i hi
      omega
theorem lat_max {B : List Int → Prop} {n : Nat} (hl : ∀ p, B p → p.length = n) (hB : ∀ p q, B p → B q → B (pmax p q)) : ∀ (l : List (List Int)), (∀ p ∈ l, B p) → l ≠ [] → ∃ q, B q ∧ ∀ p ∈ l, ∀ i, i < n → g p i ≤ g q i
  | [], _, h => absurd rfl h
  | [a], h, _ => ⟨a, h a List.mem_cons_self, fun p hp i _ => by rw [List.mem_singleton.mp hp]; exact Int.le_refl _⟩
  | a :: b :: l, h, _ => by
    obtain ⟨q, hq, hm⟩ := lat_max hl hB (b :: l) (fun p hp => h p (List.mem_cons_of_mem _ hp)) (by simp)
    have ha := h a List.mem_cons_self
    refine ⟨pmax a q, hB _ _ ha hq, fun p hp i hi => ?_⟩
    have e : g (pmax a q) i = max (g a i) (g q i) := g_zip (by rw [hl _ ha, hl _ hq]) (by rw [hl _ ha]; exact hi)
    rw [e]
    rcases List.mem_cons.mp hp with rfl | hp
    · omega
    · have := hm p hp i hi
      omega
theorem list_eq_g {p q : List Int} (h : p.length = q.length) (hg : ∀ i, i < p.length → g p i = g q i) : p = q := by
  refine List.ext_getElem h fun i h1 h2 => ?_
  have e := hg i h1
  unfold g at e
  simp only [List.getD_eq_getElem?_getD, List.getElem?_eq_getElem h1, List.getElem?_eq_getElem h2, Option.getD_some] at e
  exact e
theorem g_range {n i : Nat} {f : Nat → Int} (h : i < n) : g ((List.range n).map f) i = f i := by
  unfold g
  simp [List.getD_eq_getElem?_getD, List.getElem?_map, List.getElem?_range h]
section
variable {cs : List Int} {rs : List P2} {ww : List (List Int)} (hr : rs.length + 1 = cs.length) (hc : ∀ i, i < rs.length → 0 ≤ (r2 rs i).1 ∧ 0 ≤ (r2 rs i).2) (hs : ∀ i, i < cs.length → 0 ≤ g cs i)
include hr hc hs
theorem zero_prof : IsProf cs rs ((List.range cs.length).map fun _ => 0) := by
  refine ⟨by simp, fun i hi => ?_, fun i hi => ?_⟩
  · rw [g_range hi]
    exact ⟨Int.le_refl _, hs i hi⟩
  · rw [g_range (by omega), g_range (by omega)]
    have := hc i hi
    omega
theorem profs_ne : profs cs rs ≠ [] := List.ne_nil_of_mem ((mem_profs hr).mpr (zero_prof hr hc hs))
theorem most_spec : (∃ p, IsProf cs rs p ∧ worthOf ww p = most ww (profs cs rs)) ∧ ∀ p, IsProf cs rs p → worthOf ww p ≤ most ww (profs cs rs) := by
  have h := maxL_spec (xs := (profs cs rs).map (worthOf ww)) (by simpa using profs_ne hr hc hs)
  refine ⟨?_, fun p hp => h.2 _ (List.mem_map.mpr ⟨p, (mem_profs hr).mpr hp, rfl⟩)⟩
  obtain ⟨p, hp, e⟩ := List.mem_map.mp h.1
  exact ⟨p, (mem_profs hr).mp hp, e⟩
omit hc hs in
theorem mem_bests {p : List Int} : p ∈ bests ww (profs cs rs) ↔ IsProf cs rs p ∧ worthOf ww p = most ww (profs cs rs) := by
  unfold bests
  rw [List.mem_filter, mem_profs hr, decide_eq_true_eq]
theorem bests_ne : bests ww (profs cs rs) ≠ [] := by
  obtain ⟨p, h1, h2⟩ := (most_spec (ww := ww) hr hc hs).1
  exact List.ne_nil_of_mem ((mem_bests hr).mpr ⟨h1, h2⟩)
theorem best_min {p q : List Int} (hp : IsProf cs rs p ∧ worthOf ww p = most ww (profs cs rs)) (hq : IsProf cs rs q ∧ worthOf ww q = most ww (profs cs rs)) :
    (IsProf cs rs (pmin p q) ∧ worthOf ww (pmin p q) = most ww (profs cs rs)) ∧ (IsProf cs rs (pmax p q) ∧ worthOf ww (pmax p q) = most ww (profs cs rs)) := by
  have e := worth_minmax (ww := ww) (p := p) (q := q) (by rw [hp.1.len, hq.1.len])
  have a := prof_min hr hp.1 hq.1
  have b := prof_max hr hp.1 hq.1
  have ha := (most_spec (ww := ww) hr hc hs).2 _ a
  have hb := (most_spec (ww := ww) hr hc hs).2 _ b
  have := hp.2
  have := hq.2
  exact ⟨⟨a, by omega⟩, ⟨b, by omega⟩⟩
/-- the least best profile: it is one, and it lies under all -/
theorem least_spec : (IsProf cs rs (leastOf cs.length (bests ww (profs cs rs))) ∧ worthOf ww (leastOf cs.length (bests ww (profs cs rs))) = most ww (profs cs rs)) ∧
    ∀ p, IsProf cs rs p → worthOf ww p = most ww (profs cs rs) → ∀ i, i < cs.length → g (leastOf cs.length (bests ww (profs cs rs))) i ≤ g p i := by
  obtain ⟨q, hq, hm⟩ := lat_min (n := cs.length) (B := fun p => IsProf cs rs p ∧ worthOf ww p = most ww (profs cs rs)) (fun p h => h.1.len) (fun p q h1 h2 => (best_min hr hc hs h1 h2).1) (bests ww (profs cs rs)) (fun p hp => (mem_bests hr).mp hp) (bests_ne hr hc hs)
  have e : leastOf cs.length (bests ww (profs cs rs)) = q := by
    refine list_eq_g (by unfold leastOf; rw [List.length_map, List.length_range, hq.1.len]) fun i hi => ?_
    unfold leastOf at hi ⊢
    rw [List.length_map, List.length_range] at hi
    rw [g_range hi]
    refine minL_eq (List.mem_map.mpr ⟨q, (mem_bests hr).mpr hq, rfl⟩) fun x hx => ?_
    obtain ⟨p, hp, rfl⟩ := List.mem_map.mp hx
    exact hm p hp i hi
  rw [e]
  exact ⟨hq, fun p h1 h2 i hi => hm p ((mem_bests hr).mpr ⟨h1, h2⟩) i hi⟩
theorem great_spec : (IsProf cs rs (greatOf cs.length (bests ww (profs cs rs))) ∧ worthOf ww (greatOf cs.length (bests ww (profs cs rs))) = most ww (profs cs rs)) ∧
    ∀ p, IsProf cs rs p → worthOf ww p = most ww (profs cs rs) → ∀ i, i < cs.length → g p i ≤ g (greatOf cs.length (bests ww (profs cs rs))) i := by
  obtain ⟨q, hq, hm⟩ := lat_max (n := cs.length) (B := fun p => IsProf cs rs p ∧ worthOf ww p = most ww (profs cs rs)) (fun p h => h.1.len) (fun p q h1 h2 => (best_min hr hc hs h1 h2).2) (bests ww (profs cs rs)) (fun p hp => (mem_bests hr).mp hp) (bests_ne hr hc hs)
  have e : greatOf cs.length (bests ww (profs cs rs)) = q := by
    refine list_eq_g (by unfold greatOf; rw [List.length_map, List.length_range, hq.1.len]) fun i hi => ?_
    unfold greatOf at hi ⊢
    rw [List.length_map, List.length_range] at hi
    rw [g_range hi]
    refine maxL_eq (List.mem_map.mpr ⟨q, (mem_bests hr).mpr hq, rfl⟩) fun x hx => ?_
    obtain ⟨p, hp, rfl⟩ := List.mem_map.mp hx
    exact hm p hp i hi
  rw [e]
  exact ⟨hq, fun p h1 h2 i hi => hm p ((mem_bests hr).mpr ⟨h1, h2⟩) i hi⟩
end
end PL

namespace PL
/-! ### sums -/
def S (n : Nat) (f : Nat → Int) : Int := ((List.range n).map f).sum
theorem sum_app (a b : List Int) : (a ++ b).sum = a.sum + b.sum := List.sum_append
theorem S_zero (f : Nat → Int) : S 0 f = 0 := rfl
theorem S_succ (n : Nat) (f : Nat → Int) : S (n + 1) f = S n f + f n := by
  unfold S
  rw [List.range_succ, List.map_append, sum_app]
  simp
theorem S_congr {n : Nat} {f k : Nat → Int} (h : ∀ i, i < n → f i = k i) : S n f = S n k := by
  induction n with
  | zero => rfl
  | succ n ih => rw [S_succ, S_succ, ih fun i hi => h i (by omega), h n (by omega)]
theorem S_nil (n : Nat) : S n (fun _ => 0) = 0 := by
  induction n with
  | zero => rfl
  | succ n ih => rw [S_succ, ih]; rfl
theorem S_add (n : Nat) (f k : Nat → Int) : S n (fun i => f i + k i) = S n f + S n k := by
  induction n with
  | zero => rfl
  | succ n ih => rw [S_succ, S_succ, S_succ, ih]; omega
theorem S_swap (m n : Nat) (F : Nat → Nat → Int) : S m (fun i => S n fun j => F i j) = S n fun j => S m fun i => F i j := by
  induction m with
  | zero => rw [S_zero]; exact (S_nil n).symm
  | succ m ih =>
    rw [S_succ, ih, ← S_add]
    exact S_congr fun j _ => by rw [S_succ]
theorem S_single {n c : Nat} {F : Nat → Int} (h : c < n) : S n (fun i => if i = c then F i else 0) = F c := by
  induction n with
  | zero => omega
  | succ n ih =>
    rw [S_succ]
    by_cases e : c = n
    · subst e
      rw [if_pos rfl, S_congr (k := fun _ => 0) fun i hi => if_neg (by omega), S_nil]
      omega
    · rw [ih (by omega), if_neg (by omega)]
      omega
/-- a sum cut at h -/
theorem S_cut {n h : Nat} {F : Nat → Int} (hh : h ≤ n) : S n (fun k => if k < h then F k else 0) = S h F := by
  induction n with
  | zero =>
    have : h = 0 := by omega
    subst this
    rfl
  | succ n ih =>
    rw [S_succ]
    by_cases e : h = n + 1
    · subst e
      rw [if_pos (by omega), S_succ]
      congr 1
      exact S_congr fun i hi => if_pos (by omega)
    · rw [ih (by omega), if_neg (by omega)]
      omega
theorem S_mono {n : Nat} {f k : Nat → Int} (h : ∀ i, i < n → f i ≤ k i) : S n f ≤ S n k := by
  induction n with
  | zero => exact Int.le_refl _
  | succ n ih =>
    rw [S_succ, S_succ]
    have := ih fun i hi => h i (by omega)
    have := h n (by omega)
    omega
theorem S_eq_all {n : Nat} {f k : Nat → Int} (h : ∀ i, i < n → f i ≤ k i) (e : S n k ≤ S n f) : ∀ i, i < n → f i = k i := by
  induction n with
  | zero => intro i hi; omega
  | succ n ih =>
    rw [S_succ, S_succ] at e
    have a := S_mono (n := n) fun i hi => h i (by omega)
    have b := h n (by omega)
    intro i hi
    by_cases q : i = n
    · subst q; omega
    · exact ih (fun i hi => h i (by omega)) (by omega) i (by omega)
theorem S_one (n : Nat) : S n (fun _ => 1) = n := by
  induction n with
  | zero => rfl
  | succ n ih => rw [S_succ, ih]; omega
theorem sum_flat {α : Type} {f : P2 → Int} {h : α → List P2} : ∀ l : List α, ((l.flatMap h).map f).sum = (l.map fun x => ((h x).map f).sum).sum
  | [] => rfl
  | x :: l => by
    rw [List.flatMap_cons, List.map_append, sum_app, sum_flat l]
    simp
theorem sum_filter {α : Type} {f : α → Int} {q : α → Bool} : ∀ l : List α, ((l.filter q).map f).sum = (l.map fun x => if q x = true then f x else 0).sum
  | [] => rfl
  | x :: l => by
    rw [List.filter_cons, List.map_cons]
    split
    · rename_i h
      rw [List.map_cons, List.sum_cons, List.sum_cons, sum_filter l]
    · rename_i h
      rw [List.sum_cons, sum_filter l]
      omega
theorem sum_perm {a b : List Int} (h : a.Perm b) : a.sum = b.sum := by
  induction h with
  | nil => rfl
  | cons x _ ih => rw [List.sum_cons, List.sum_cons, ih]
  | swap x y l => simp only [List.sum_cons]; omega
  | trans _ _ ih1 ih2 => rw [ih1, ih2]
theorem down_all {χ : Nat → Bool} : ∀ {m : Nat}, (∀ k, k + 1 < m → χ (k + 1) = true → χ k = true) → ∀ {j : Nat}, j < m → χ j = true → ∀ k, k ≤ j → χ k = true
  | m, h, 0, _, hj, k, hk => by
    have : k = 0 := by omega
    subst this
    exact hj
  | m, h, j + 1, hm, hj, k, hk => by
    by_cases e : k = j + 1
    · subst e; exact hj
    · exact down_all h (j := j) (by omega) (h j hm hj) k (by omega)
theorem down_count {χ : Nat → Bool} {m : Nat} (h : ∀ k, k + 1 < m → χ (k + 1) = true → χ k = true) : (0 ≤ S m (fun k => if χ k = true then 1 else 0) ∧ S m (fun k => if χ k = true then 1 else 0) ≤ m) ∧
    ∀ k, k < m → (χ k = true ↔ (k : Int) < S m fun k => if χ k = true then 1 else 0) := by
  induction m with
  | zero => exact ⟨⟨Int.le_refl _, Int.le_refl _⟩, fun k hk => absurd hk (Nat.not_lt_zero _)⟩
  | succ m ih =>
    obtain ⟨⟨a, b⟩, c⟩ := ih fun k hk => h k (by omega)
    rw [S_succ]
    by_cases e : χ m = true
    · have al := down_all h (Nat.lt_succ_self m) e
      have es : S m (fun k => if χ k = true then 1 else 0) = m := by
        rw [S_congr (k := fun _ => 1) fun i hi => if_pos (al i (by omega)), S_one]
      rw [es, if_pos e]
      exact ⟨⟨by omega, by omega⟩, fun k hk => ⟨fun _ => by omega, fun _ => al k (by omega)⟩⟩
    · rw [if_neg e]
      refine ⟨⟨by omega, by omega⟩, fun k hk => ?_⟩
      by_cases q : k = m
      · subst q
        exact ⟨fun z => absurd z e, fun z => by omega⟩
      · rw [c k (by omega)]
        omega

/-! ### cells -/
def rowC (cs : List Int) (d : Nat) : List P2 := ((List.range cs.length).filter fun c => decide ((d : Int) ≤ g cs c)).map fun (c : Nat) => ((c : Int), (d : Int))
def cellsN (cs : List Int) (m : Nat) : List P2 := (List.range m).flatMap fun k => rowC cs (k + 1)
def cells (cs : List Int) : List P2 := cellsN cs 10
structure Val (cs : List Int) (rs : List P2) : Prop where
  pos : 1 ≤ cs.length
  few : cs.length ≤ 5
  sz : ∀ i, i < cs.length → 1 ≤ g cs i ∧ g cs i ≤ 10
  sum : cs.sum ≤ 10
  hr : rs.length + 1 = cs.length
  rl : ∀ i, i < rs.length → 1 ≤ (r2 rs i).1 ∧ (r2 rs i).1 ≤ 9 ∧ 1 ≤ (r2 rs i).2 ∧ (r2 rs i).2 ≤ 9
  fit : ∀ i, i < rs.length → g cs i - g cs (i + 1) ≤ (r2 rs i).1 ∧ g cs (i + 1) - g cs i ≤ (r2 rs i).2
theorem mem_rowC {cs : List Int} {d : Nat} {x : P2} : x ∈ rowC cs d ↔ ∃ c : Nat, c < cs.length ∧ (d : Int) ≤ g cs c ∧ x = ((c : Int), (d : Int)) := by
  unfold rowC
  simp only [List.mem_map, List.mem_filter, List.mem_range, decide_eq_true_eq]
  constructor
  · rintro ⟨c, ⟨h1, h2⟩, rfl⟩
    exact ⟨c, h1, h2, rfl⟩
  · rintro ⟨c, h1, h2, rfl⟩
    exact ⟨c, ⟨h1, h2⟩, rfl⟩
theorem mem_cellsN {cs : List Int} {m : Nat} {x : P2} : x ∈ cellsN cs m ↔ ∃ c k : Nat, c < cs.length ∧ k < m ∧ (k : Int) + 1 ≤ g cs c ∧ x = ((c : Int), (k : Int) + 1) := by
  unfold cellsN
  rw [List.mem_flatMap]
  constructor
  · rintro ⟨k, hk, hx⟩
    obtain ⟨c, h1, h2, rfl⟩ := mem_rowC.mp hx
    exact ⟨c, k, h1, List.mem_range.mp hk, by omega, by simp⟩
  · rintro ⟨c, k, h1, h2, h3, rfl⟩
    exact ⟨k, List.mem_range.mpr h2, mem_rowC.mpr ⟨c, h1, by omega, by simp⟩⟩
def blt (a b : P2) : Prop := a.2 < b.2 ∨ (a.2 = b.2 ∧ a.1 < b.1)
theorem pairwise_range (n : Nat) : (List.range n).Pairwise (· < ·) := List.pairwise_lt_range
theorem ord_cells (cs : List Int) (m : Nat) : (cellsN cs m).Pairwise blt := by
  unfold cellsN
  rw [List.pairwise_flatMap]
  constructor
  · intro k _
    unfold rowC
    rw [List.pairwise_map]
    refine ((pairwise_range _).filter _).imp fun {a b} h => .inr ⟨rfl, ?_⟩
    show (a : Int) < (b : Int)
    omega
  · refine (pairwise_range _).imp fun {a b} h x hx y hy => ?_
    obtain ⟨c, _, _, rfl⟩ := mem_rowC.mp hx
    obtain ⟨c', _, _, rfl⟩ := mem_rowC.mp hy
    refine .inl ?_
    show ((a + 1 : Nat) : Int) < ((b + 1 : Nat) : Int)
    omega
def ix (cl : List P2) (x : P2) : Nat := cl.findIdx fun y => y == x
def cat (cl : List P2) (b : Nat) : P2 := cl.getD b (0, 0)
theorem ix_lt {cl : List P2} {x : P2} (h : x ∈ cl) : ix cl x < cl.length := List.findIdx_lt_length_of_exists ⟨x, h, by simp⟩
theorem cat_get {cl : List P2} {b : Nat} (h : b < cl.length) : cat cl b = cl[b] := by
  unfold cat
  rw [List.getD_eq_getElem?_getD, List.getElem?_eq_getElem h]
  rfl
theorem cat_ix {cl : List P2} {x : P2} (h : x ∈ cl) : cat cl (ix cl x) = x := by
  rw [cat_get (ix_lt h)]
  have := List.findIdx_getElem (p := fun y => y == x) (xs := cl) (w := ix_lt h)
  exact beq_iff_eq.mp this
theorem cat_mem {cl : List P2} {b : Nat} (h : b < cl.length) : cat cl b ∈ cl := by
  rw [cat_get h]
  exact List.getElem_mem h
theorem ix_first {cl : List P2} {x : P2} {m : Nat} (h : m < ix cl x) : cat cl m ≠ x := by
  have hm : m < cl.length := Nat.lt_of_lt_of_le h List.findIdx_le_length
  have := List.not_of_lt_findIdx (p := fun y => y == x) (xs := cl) h
  rw [cat_get hm]
  simpa using this
section
variable {cl : List P2} (ho : cl.Pairwise blt)
include ho
theorem cat_lt {a b : Nat} (h : a < b) (hb : b < cl.length) : blt (cat cl a) (cat cl b) := by
  rw [cat_get hb, cat_get (Nat.lt_trans h hb)]
  exact List.pairwise_iff_getElem.mp ho a b _ hb h
theorem ix_cat {b : Nat} (hb : b < cl.length) : ix cl (cat cl b) = b := by
  have h1 := cat_ix (cat_mem hb)
  have h2 := ix_lt (cat_mem hb)
  rcases Nat.lt_trichotomy (ix cl (cat cl b)) b with h | h | h
  · have := cat_lt ho h hb
    rw [h1] at this
    unfold blt at this
    omega
  · exact h
  · have := cat_lt ho h h2
    rw [h1] at this
    unfold blt at this
    omega
theorem ix_mono {x y : P2} (hx : x ∈ cl) (hy : y ∈ cl) (h : blt x y) : ix cl x < ix cl y := by
  rcases Nat.lt_trichotomy (ix cl x) (ix cl y) with q | q | q
  · exact q
  · have e : x = y := by rw [← cat_ix hx, ← cat_ix hy, q]
    subst e
    unfold blt at h
    omega
  · have := cat_lt ho q (ix_lt hx)
    rw [cat_ix hx, cat_ix hy] at this
    unfold blt at this h
    omega
end
theorem ix_inj {cl : List P2} {x y : P2} (hx : x ∈ cl) (hy : y ∈ cl) (h : ix cl x = ix cl y) : x = y := by
  rw [← cat_ix hx, ← cat_ix hy, h]
theorem sum_cat {cl : List P2} {f : P2 → Int} : (cl.map f).sum = S cl.length fun b => f (cat cl b) := by
  unfold S
  congr 1
  refine List.ext_getElem (by simp) fun i h1 h2 => ?_
  rw [List.length_map] at h1
  simp [cat_get h1]
theorem sum_cells {cs : List Int} {f : P2 → Int} (h : ∀ i, i < cs.length → 1 ≤ g cs i ∧ g cs i ≤ 10) : ((cells cs).map f).sum = S cs.length fun c => S (g cs c).toNat fun k => f ((c : Int), (k : Int) + 1) := by
  unfold cells cellsN
  rw [sum_flat]
  show S 10 _ = _
  have e : ∀ k, k < 10 → ((rowC cs (k + 1)).map f).sum = S cs.length fun c => if (k : Int) + 1 ≤ g cs c then f ((c : Int), (k : Int) + 1) else 0 := fun k _ => by
    unfold rowC
    rw [List.map_map, sum_filter]
    show S cs.length _ = _
    refine S_congr fun i hi => ?_
    simp only [decide_eq_true_eq, Function.comp]
    have : ((k + 1 : Nat) : Int) = (k : Int) + 1 := by omega
    rw [this]
  rw [S_congr e, S_swap]
  refine S_congr fun c hc => ?_
  have := h c hc
  rw [← S_cut (n := 10) (h := (g cs c).toNat) (by omega)]
  refine S_congr fun k _ => ?_
  by_cases q : (k : Int) + 1 ≤ g cs c
  · rw [if_pos q, if_pos (by omega)]
  · rw [if_neg q, if_neg (by omega)]
end PL

namespace PL
/-! ### what a cell needs -/
def besideL (cs : List Int) (rs : List P2) (c : Int) : List P2 :=
  (if c > 0 then [(c - 1, (r2 rs (c - 1).toNat).2)] else []) ++ (if c < (cs.length : Int) - 1 then [(c + 1, (r2 rs c.toNat).1)] else [])
def need (cs : List Int) (rs : List P2) (x : P2) : List P2 := ([(x.1, x.2 - 1)] ++ (besideL cs rs x.1).map fun o => (o.1, x.2 - o.2)).filter fun y => decide (y.2 > 0)
def sortI (xs : List Int) : List Int := xs.mergeSort fun a b => decide (a ≤ b)
def cov (cs : List Int) (rs : List P2) : List (List Int) := (cells cs).map fun x => sortI ((need cs rs x).map fun y => (ix (cells cs) y : Int))
theorem sortI_perm (xs : List Int) : (sortI xs).Perm xs := List.mergeSort_perm _ _
theorem sortI_le (xs : List Int) : (sortI xs).Pairwise (· ≤ ·) := by
  have := List.pairwise_mergeSort (le := fun a b : Int => decide (a ≤ b)) (fun a b c h1 h2 => by simp at *; omega) (fun a b => by simp; omega) xs
  exact this.imp fun h => by simpa using h
theorem pw_strict {l : List Int} (h1 : l.Pairwise (· ≤ ·)) (h2 : l.Nodup) : l.Pairwise (· < ·) := by
  have := h1.and h2
  exact this.imp fun ⟨a, b⟩ => Int.lt_iff_le_and_ne.mpr ⟨a, b⟩
theorem asc_nodup {l : List Int} (h : l.Pairwise (· < ·)) : l.Nodup := h.imp fun h => Int.ne_of_lt h
/-- two ascending lists of one content are one -/
theorem sorted_unique : ∀ {a b : List Int}, a.Pairwise (· ≤ ·) → b.Pairwise (· ≤ ·) → a.Perm b → a = b
  | [], b, _, _, p => (List.perm_nil.mp p.symm).symm
  | x :: a, [], _, _, p => absurd (List.perm_nil.mp p) (by simp)
  | x :: a, y :: b, ha, hb, p => by
    have hx := List.pairwise_cons.mp ha
    have hy := List.pairwise_cons.mp hb
    have e : x = y := by
      have m1 : x ∈ y :: b := p.mem_iff.mp List.mem_cons_self
      have m2 : y ∈ x :: a := p.mem_iff.mpr List.mem_cons_self
      rcases List.mem_cons.mp m1 with e | m1
      · exact e
      · rcases List.mem_cons.mp m2 with e | m2
        · exact e.symm
        · have := hy.1 x m1
          have := hx.1 y m2
          omega
    subst e
    rw [sorted_unique hx.2 hy.2 (List.Perm.cons_inv p)]
theorem sortI_eq {xs ys : List Int} (h1 : ys.Pairwise (· ≤ ·)) (h2 : ys.Perm xs) : ys = sortI xs := sorted_unique h1 (sortI_le xs) (h2.trans (sortI_perm xs).symm)

section
variable {cs : List Int} {rs : List P2} (V : Val cs rs)
include V
theorem mem_cells {x : P2} : x ∈ cells cs ↔ ∃ c k : Nat, c < cs.length ∧ (k : Int) + 1 ≤ g cs c ∧ x = ((c : Int), (k : Int) + 1) := by
  unfold cells
  rw [mem_cellsN]
  constructor
  · rintro ⟨c, k, h1, h2, h3, e⟩
    exact ⟨c, k, h1, h3, e⟩
  · rintro ⟨c, k, h1, h3, e⟩
    have := V.sz c h1
    exact ⟨c, k, h1, by omega, h3, e⟩
theorem mem_cells' {c d : Int} : (c, d) ∈ cells cs ↔ 0 ≤ c ∧ c < cs.length ∧ 1 ≤ d ∧ d ≤ g cs c.toNat := by
  rw [mem_cells V]
  constructor
  · rintro ⟨c', k, h1, h2, e⟩
    cases e
    simp only [Int.toNat_natCast]
    omega
  · rintro ⟨h1, h2, h3, h4⟩
    refine ⟨c.toNat, (d - 1).toNat, by omega, by omega, ?_⟩
    rw [Prod.mk.injEq]
    omega
omit V in
theorem mem_need {x y : P2} : y ∈ need cs rs x ↔ y.2 > 0 ∧ (y = (x.1, x.2 - 1) ∨ (x.1 > 0 ∧ y = (x.1 - 1, x.2 - (r2 rs (x.1 - 1).toNat).2)) ∨ (x.1 < (cs.length : Int) - 1 ∧ y = (x.1 + 1, x.2 - (r2 rs x.1.toNat).1))) := by
  unfold need besideL
  rw [List.mem_filter, decide_eq_true_eq, and_comm]
  refine and_congr_right fun _ => ?_
  by_cases h1 : x.1 > 0 <;> by_cases h2 : x.1 < (cs.length : Int) - 1 <;> simp [h1, h2]
theorem need_cell {x y : P2} (hx : x ∈ cells cs) (hy : y ∈ need cs rs x) : y ∈ cells cs ∧ blt y x := by
  obtain ⟨c, d⟩ := x
  rw [mem_cells' V] at hx
  obtain ⟨a1, a2, a3, a4⟩ := hx
  obtain ⟨h, k⟩ := mem_need.mp hy
  simp only at k
  rcases k with rfl | ⟨q, rfl⟩ | ⟨q, rfl⟩
  · simp only at h
    rw [mem_cells' V]
    exact ⟨⟨a1, a2, by omega, by omega⟩, .inl (by show d - 1 < d; omega)⟩
  · simp only at h
    have r := V.rl (c - 1).toNat (by have := V.hr; omega)
    have f := V.fit (c - 1).toNat (by have := V.hr; omega)
    have e : (c - 1).toNat + 1 = c.toNat := by omega
    rw [e] at f
    rw [mem_cells' V]
    exact ⟨⟨by omega, by omega, by omega, by omega⟩, .inl (by show d - (r2 rs (c - 1).toNat).2 < d; omega)⟩
  · simp only at h
    have r := V.rl c.toNat (by have := V.hr; omega)
    have f := V.fit c.toNat (by have := V.hr; omega)
    have e : (c + 1).toNat = c.toNat + 1 := by omega
    rw [mem_cells' V, e]
    exact ⟨⟨by omega, by omega, by omega, by omega⟩, .inl (by show d - (r2 rs c.toNat).1 < d; omega)⟩
omit V in
theorem need_nodup (x : P2) : (need cs rs x).Pairwise fun a b => a.1 ≠ b.1 := by
  unfold need besideL
  refine List.Pairwise.filter _ ?_
  by_cases h1 : x.1 > 0 <;> by_cases h2 : x.1 < (cs.length : Int) - 1 <;> simp [h1, h2] <;> omega
def N (cs : List Int) : Nat := (cells cs).length
omit V in
theorem cov_len : (cov cs rs).length = N cs := by unfold cov N; rw [List.length_map]
omit V in
theorem cov_at {b : Nat} (h : b < N cs) : (cov cs rs).getD b [] = sortI ((need cs rs (cat (cells cs) b)).map fun y => (ix (cells cs) y : Int)) := by
  unfold cov
  rw [List.getD_eq_getElem?_getD, List.getElem?_map, List.getElem?_eq_getElem h, cat_get h]
  rfl
omit V in
theorem mem_cov {b : Nat} (h : b < N cs) {i : Int} : i ∈ (cov cs rs).getD b [] ↔ ∃ y, y ∈ need cs rs (cat (cells cs) b) ∧ i = ix (cells cs) y := by
  rw [cov_at h, (sortI_perm _).mem_iff, List.mem_map]
  exact ⟨fun ⟨y, h1, h2⟩ => ⟨y, h1, h2.symm⟩, fun ⟨y, h1, h2⟩ => ⟨y, h1, h2.symm⟩⟩
theorem cov_lt {b : Nat} (h : b < N cs) {i : Int} (hi : i ∈ (cov cs rs).getD b []) : 0 ≤ i ∧ i < b := by
  obtain ⟨y, hy, rfl⟩ := (mem_cov h).mp hi
  have hx := cat_mem h
  obtain ⟨h1, h2⟩ := need_cell V hx hy
  have := ix_mono (ord_cells cs 10) h1 hx h2
  have e := ix_cat (ord_cells cs 10) h
  unfold cells at *
  omega
theorem cov_asc {b : Nat} (h : b < N cs) : ((cov cs rs).getD b []).Pairwise (· < ·) := by
  rw [cov_at h]
  refine pw_strict (sortI_le _) ((sortI_perm _).nodup_iff.mpr ?_)
  rw [List.Nodup, List.pairwise_map]
  refine List.Pairwise.imp_of_mem ?_ (need_nodup (cat (cells cs) b))
  intro y z hy hz hne e
  have hx := cat_mem h
  refine hne ?_
  rw [ix_inj (need_cell V hx hy).1 (need_cell V hx hz).1 (by omega)]
end

/-! ### pits -/
structure OkPit (cv : List (List Int)) (k : Nat) (L : List Int) : Prop where
  asc : L.Pairwise (· < ·)
  bd : ∀ b ∈ L, 0 ≤ b ∧ b < k
  cl : ∀ b ∈ L, ∀ x ∈ cv.getD b.toNat [], x ∈ L
def raw (cv : List (List Int)) : Nat → List (List Int)
  | 0 => [[]]
  | k + 1 => raw cv k ++ ((raw cv k).filter fun L => (cv.getD k []).all fun x => L.contains x).map fun L => L ++ [(k : Int)]
theorem mem_raw {cv : List (List Int)} : ∀ {k : Nat} {L : List Int}, (∀ b, b < k → ∀ x ∈ cv.getD b [], x < (b : Int)) → (L ∈ raw cv k ↔ OkPit cv k L)
  | 0, L, _ => by
    show L ∈ [[]] ↔ _
    rw [List.mem_singleton]
    constructor
    · rintro rfl
      exact ⟨.nil, fun b h => absurd h (by simp), fun b h => absurd h (by simp)⟩
    · intro h
      cases L with
      | nil => rfl
      | cons b L =>
        have := h.bd b List.mem_cons_self
        omega
  | k + 1, L, hv => by
    have ih : ∀ {L : List Int}, L ∈ raw cv k ↔ OkPit cv k L := mem_raw fun b hb => hv b (by omega)
    show L ∈ raw cv k ++ _ ↔ _
    rw [List.mem_append, List.mem_map]
    constructor
    · rintro (h | ⟨L', h, rfl⟩)
      · have z := ih.mp h
        exact ⟨z.asc, fun b hb => by have := z.bd b hb; omega, z.cl⟩
      · rw [List.mem_filter] at h
        have z := ih.mp h.1
        have hc := h.2
        simp only [List.all_eq_true, List.contains_iff_mem] at hc
        refine ⟨List.pairwise_append.mpr ⟨z.asc, List.pairwise_singleton _ _, fun a ha b hb => ?_⟩, fun b hb => ?_, fun b hb x hx => ?_⟩
        · rw [List.mem_singleton] at hb
          have := z.bd a ha
          omega
        · rcases List.mem_append.mp hb with hb | hb
          · have := z.bd b hb
            omega
          · rw [List.mem_singleton] at hb
            omega
        · rcases List.mem_append.mp hb with hb | hb
          · exact List.mem_append_left _ (z.cl b hb x hx)
          · rw [List.mem_singleton] at hb
            subst hb
            rw [Int.toNat_natCast] at hx
            exact List.mem_append_left _ (hc x hx)
    · intro z
      by_cases hk : (k : Int) ∈ L
      · have hne : L ≠ [] := List.ne_nil_of_mem hk
        have eL := List.dropLast_concat_getLast hne
        have pw := z.asc
        rw [← eL, List.pairwise_append] at pw
        have lastk : L.getLast hne = k := by
          rw [← eL] at hk
          rcases List.mem_append.mp hk with h | h
          · have h1 := pw.2.2 _ h (L.getLast hne) List.mem_cons_self
            have h2 := z.bd _ (List.getLast_mem hne)
            omega
          · exact (List.mem_singleton.mp h).symm
        refine .inr ⟨L.dropLast, ?_, by rw [← lastk]; exact eL⟩
        have memd : ∀ {x : Int}, x ∈ L → x ≠ k → x ∈ L.dropLast := fun {x} hx hn => by
          rw [← eL] at hx
          rcases List.mem_append.mp hx with h | h
          · exact h
          · rw [List.mem_singleton, lastk] at h
            exact absurd h hn
        rw [List.mem_filter]
        constructor
        · refine ih.mpr ⟨pw.1, fun b hb => ?_, fun b hb x hx => ?_⟩
          · have h1 := pw.2.2 _ hb (L.getLast hne) List.mem_cons_self
            have h2 := z.bd b (List.dropLast_subset _ hb)
            omega
          · have h1 := pw.2.2 _ hb (L.getLast hne) List.mem_cons_self
            have h2 := z.bd b (List.dropLast_subset _ hb)
            have h3 := hv b.toNat (by omega) x hx
            exact memd (z.cl b (List.dropLast_subset _ hb) x hx) (by omega)
        · simp only [List.all_eq_true, List.contains_iff_mem]
          intro x hx
          have h3 := hv k (by omega) x hx
          exact memd (z.cl k hk x (by rw [Int.toNat_natCast]; exact hx)) (by omega)
      · refine .inl (ih.mpr ⟨z.asc, fun b hb => ?_, z.cl⟩)
        have := z.bd b hb
        have : b ≠ k := fun e => hk (e ▸ hb)
        omega
end PL

namespace PL
def colOf (cl : List P2) (b : Int) : Int := (cat cl b.toNat).1
/-- how deep each column is dug -/
def pr (cl : List P2) (n : Nat) (L : List Int) : List Int := (List.range n).map fun (c : Nat) => (L.map fun b => if colOf cl b = (c : Int) then (1 : Int) else 0).sum
def sumOf (w : List Int) (L : List Int) : Int := (L.map fun b => g w b.toNat).sum
def wanted (cs : List Int) (w : List Int) : List (List Int) := (List.range cs.length).map fun (c : Nat) => (List.range (g cs c).toNat).map fun (k : Nat) => g w (ix (cells cs) ((c : Int), (k : Int) + 1))
/-- what a lot has -/
def chi (cl : List P2) (L : List Int) (x : P2) : Bool := decide ((ix cl x : Int) ∈ L)
theorem pr_len {cl : List P2} {n : Nat} {L : List Int} : (pr cl n L).length = n := by simp [pr]
theorem pr_g {cl : List P2} {n : Nat} {L : List Int} {c : Nat} (h : c < n) : g (pr cl n L) c = (L.map fun b => if colOf cl b = (c : Int) then (1 : Int) else 0).sum := g_range h
theorem pr_nil (cl : List P2) (n : Nat) : pr cl n [] = (List.range n).map fun _ => 0 := rfl
theorem pr_snoc {cl : List P2} {n : Nat} {L : List Int} {b : Int} {c : Nat} (hc : c < n) (hb : colOf cl b = c) : pr cl n (L ++ [b]) = (pr cl n L).set c (g (pr cl n L) c + 1) := by
  refine list_eq_g (by rw [List.length_set, pr_len, pr_len]) fun i hi => ?_
  rw [pr_len] at hi
  rw [pr_g hi, List.map_append, sum_app]
  unfold g
  rw [List.getD_eq_getElem?_getD, List.getElem?_set]
  by_cases e : c = i
  · subst e
    rw [if_pos rfl, if_pos (by rw [pr_len]; exact hc)]
    show _ = g (pr cl n L) c + 1
    rw [pr_g hc]
    simp [hb]
  · rw [if_neg e]
    show _ = g (pr cl n L) i
    rw [pr_g hi]
    have : ¬ colOf cl b = (i : Int) := by rw [hb]; omega
    simp [this]
/-- a sum over an ascending list of blocks -/
theorem sum_asc {L : List Int} {n : Nat} (h1 : L.Pairwise (· < ·)) (h2 : ∀ b ∈ L, 0 ≤ b ∧ b < n) (f : Int → Int) : (L.map f).sum = S n fun b => if (b : Int) ∈ L then f b else 0 := by
  have p : L.Perm (((List.range n).filter fun (b : Nat) => decide ((b : Int) ∈ L)).map fun (b : Nat) => (b : Int)) := by
    refine (List.perm_ext_iff_of_nodup (asc_nodup h1) ?_).mpr fun a => ?_
    · rw [List.Nodup, List.pairwise_map]
      exact ((pairwise_range n).filter _).imp fun h => by omega
    · simp only [List.mem_map, List.mem_filter, List.mem_range, decide_eq_true_eq]
      constructor
      · intro ha
        have := h2 a ha
        exact ⟨a.toNat, ⟨by omega, by rw [Int.toNat_of_nonneg this.1]; exact ha⟩, by omega⟩
      · rintro ⟨b, ⟨_, h⟩, rfl⟩
        exact h
  rw [sum_perm (p.map f), List.map_map]
  have e := sum_filter (f := fun b : Nat => f b) (q := fun b => decide ((b : Int) ∈ L)) (List.range n)
  show ((List.filter (fun b : Nat => decide ((b : Int) ∈ L)) (List.range n)).map fun b : Nat => f b).sum = _
  rw [e]
  unfold S
  simp only [decide_eq_true_eq]
section
variable {cs : List Int} {rs : List P2} (V : Val cs rs)
include V
/-- a sum over a pit, by columns -/
theorem sum_pit {L : List Int} (h1 : L.Pairwise (· < ·)) (h2 : ∀ b ∈ L, 0 ≤ b ∧ b < N cs) (f : P2 → Int) :
    (L.map fun b => f (cat (cells cs) b.toNat)).sum = S cs.length fun c => S (g cs c).toNat fun k => if chi (cells cs) L ((c : Int), (k : Int) + 1) = true then f ((c : Int), (k : Int) + 1) else 0 := by
  rw [sum_asc h1 h2 (fun b => f (cat (cells cs) b.toNat)), ← sum_cells (f := fun x => if chi (cells cs) L x = true then f x else 0) V.sz, sum_cat]
  refine S_congr fun b hb => ?_
  have e : ix (cells cs) (cat (cells cs) b) = b := ix_cat (ord_cells cs 10) hb
  unfold chi
  rw [e, Int.toNat_natCast]
  simp only [decide_eq_true_eq]
section
variable {L : List Int} (hL : OkPit (cov cs rs) (N cs) L)
include hL
omit V in
theorem chi_need {x y : P2} (hx : x ∈ cells cs) (hy : y ∈ need cs rs x) (h : chi (cells cs) L x = true) : chi (cells cs) L y = true := by
  unfold chi at *
  rw [decide_eq_true_eq] at *
  refine hL.cl _ h _ ?_
  rw [Int.toNat_natCast]
  exact (mem_cov (ix_lt hx)).mpr ⟨y, by rw [cat_ix hx]; exact hy, rfl⟩
theorem pr_col {c : Nat} (hc : c < cs.length) : g (pr (cells cs) cs.length L) c = S (g cs c).toNat fun k => if chi (cells cs) L ((c : Int), (k : Int) + 1) = true then 1 else 0 := by
  rw [pr_g hc]
  have e := sum_pit V hL.asc hL.bd fun x => if x.1 = (c : Int) then 1 else 0
  unfold colOf
  rw [e, ← S_single (F := fun c => S (g cs c).toNat fun k => if chi (cells cs) L ((c : Int), (k : Int) + 1) = true then 1 else 0) hc]
  refine S_congr fun i hi => ?_
  by_cases q : i = c
  · subst q
    simp
  · have : ¬ (i : Int) = c := by omega
    simp only [this, if_false, ite_self, if_neg q, S_nil]
theorem pit_down {c k : Nat} (hc : c < cs.length) (hk : k + 1 < (g cs c).toNat) (h : chi (cells cs) L ((c : Int), ((k + 1 : Nat) : Int) + 1) = true) : chi (cells cs) L ((c : Int), (k : Int) + 1) = true := by
  refine chi_need hL (x := ((c : Int), ((k + 1 : Nat) : Int) + 1)) ((mem_cells' V).mpr ⟨by omega, by omega, by omega, by rw [Int.toNat_natCast]; omega⟩) (mem_need.mpr ⟨by show (k : Int) + 1 > 0; omega, .inl ?_⟩) h
  rw [Prod.mk.injEq]
  simp
theorem pr_bd {c : Nat} (hc : c < cs.length) : 0 ≤ g (pr (cells cs) cs.length L) c ∧ g (pr (cells cs) cs.length L) c ≤ g cs c := by
  rw [pr_col V hL hc]
  have := (down_count (χ := fun k => chi (cells cs) L ((c : Int), (k : Int) + 1)) (m := (g cs c).toNat) fun k hk h => pit_down V hL hc hk h).1
  have := V.sz c hc
  omega
/-- the blocks of a pit, by its profile -/
theorem chi_iff {c k : Nat} (hc : c < cs.length) (hk : (k : Int) + 1 ≤ g cs c) : chi (cells cs) L ((c : Int), (k : Int) + 1) = true ↔ (k : Int) + 1 ≤ g (pr (cells cs) cs.length L) c := by
  rw [pr_col V hL hc]
  have := (down_count (χ := fun k => chi (cells cs) L ((c : Int), (k : Int) + 1)) (m := (g cs c).toNat) fun k hk h => pit_down V hL hc hk h).2 k (by omega)
  rw [this]
  omega
theorem chi_iff' {c d : Int} (hx : (c, d) ∈ cells cs) : chi (cells cs) L (c, d) = true ↔ d ≤ g (pr (cells cs) cs.length L) c.toNat := by
  obtain ⟨c', k, h1, h2, e⟩ := (mem_cells V).mp hx
  cases e
  rw [chi_iff V hL h1 h2, Int.toNat_natCast]
theorem prof_of_pit : IsProf cs rs (pr (cells cs) cs.length L) := by
  refine ⟨pr_len, fun i hi => pr_bd V hL hi, fun i hi => ?_⟩
  have hr := V.hr
  have r := V.rl i hi
  have b0 := pr_bd V hL (c := i) (by omega)
  have b1 := pr_bd V hL (c := i + 1) (by omega)
  have f := V.fit i hi
  generalize hp : pr (cells cs) cs.length L = p at *
  constructor
  · by_cases q : g p i - (r2 rs i).1 ≤ 0
    · omega
    · have hx : ((i : Int), g p i) ∈ cells cs := (mem_cells' V).mpr ⟨by omega, by omega, by omega, by rw [Int.toNat_natCast]; omega⟩
      have hy : ((i : Int) + 1, g p i - (r2 rs i).1) ∈ need cs rs ((i : Int), g p i) := mem_need.mpr ⟨by show g p i - (r2 rs i).1 > 0; omega, .inr (.inr ⟨by show (i : Int) < (cs.length : Int) - 1; omega, by simp⟩)⟩
      have h1 := (chi_iff' V hL hx).mpr (by rw [hp, Int.toNat_natCast]; omega)
      have h2 := (chi_iff' V hL (need_cell V hx hy).1).mp (chi_need hL hx hy h1)
      rw [hp, show ((i : Int) + 1).toNat = i + 1 by omega] at h2
      omega
  · by_cases q : g p (i + 1) - (r2 rs i).2 ≤ 0
    · omega
    · have hx : ((i : Int) + 1, g p (i + 1)) ∈ cells cs := (mem_cells' V).mpr ⟨by omega, by omega, by omega, by rw [show ((i : Int) + 1).toNat = i + 1 by omega]; omega⟩
      have hy : ((i : Int), g p (i + 1) - (r2 rs i).2) ∈ need cs rs ((i : Int) + 1, g p (i + 1)) := mem_need.mpr ⟨by show g p (i + 1) - (r2 rs i).2 > 0; omega, .inr (.inl ⟨by show (i : Int) + 1 > 0; omega, by simp⟩)⟩
      have h1 := (chi_iff' V hL hx).mpr (by rw [hp, show ((i : Int) + 1).toNat = i + 1 by omega]; omega)
      have h2 := (chi_iff' V hL (need_cell V hx hy).1).mp (chi_need hL hx hy h1)
      rw [hp, Int.toNat_natCast] at h2
      omega
theorem sum_of_pit (f : P2 → Int) : (L.map fun b => f (cat (cells cs) b.toNat)).sum = S cs.length fun c => S (g (pr (cells cs) cs.length L) c).toNat fun k => f ((c : Int), (k : Int) + 1) := by
  rw [sum_pit V hL.asc hL.bd]
  refine S_congr fun c hc => ?_
  have b := pr_bd V hL hc
  rw [← S_cut (n := (g cs c).toNat) (h := (g (pr (cells cs) cs.length L) c).toNat) (by omega)]
  refine S_congr fun k hk => ?_
  have e := chi_iff V hL hc (k := k) (by omega)
  by_cases q : chi (cells cs) L ((c : Int), (k : Int) + 1) = true
  · rw [if_pos q, if_pos (by have := e.mp q; omega)]
  · rw [if_neg q, if_neg (fun z => q (e.mpr (by omega)))]
theorem pit_len : (L.length : Int) = S cs.length fun c => g (pr (cells cs) cs.length L) c := by
  have e := sum_of_pit V hL fun _ => 1
  have e1 : ∀ l : List Int, (l.map fun _ => (1 : Int)).sum = l.length := fun l => by
    induction l with
    | nil => rfl
    | cons a l ih => rw [List.map_cons, List.sum_cons, ih, List.length_cons]; omega
  rw [e1] at e
  rw [e]
  refine S_congr fun c hc => ?_
  have := pr_bd V hL hc
  rw [S_one]
  omega
theorem worth_pit (w : List Int) : sumOf w L = worthOf (wanted cs w) (pr (cells cs) cs.length L) := by
  have e := sum_of_pit V hL fun x => g w (ix (cells cs) x)
  have e1 : sumOf w L = (L.map fun b => g w (ix (cells cs) (cat (cells cs) b.toNat))).sum := by
    unfold sumOf
    congr 1
    refine List.map_congr_left fun b hb => ?_
    have := hL.bd b hb
    have e : ix (cells cs) (cat (cells cs) b.toNat) = b.toNat := ix_cat (ord_cells cs 10) (by show b.toNat < (cells cs).length; unfold N at this; omega)
    rw [e]
  rw [e1, e]
  unfold worthOf wanted S
  congr 1
  refine List.ext_getElem (by simp [pr_len]) fun c h1 h2 => ?_
  rw [List.length_map, List.length_range] at h1
  have gb := pr_bd V hL h1
  have eg : (pr (cells cs) cs.length L)[c]'(by rw [pr_len]; exact h1) = g (pr (cells cs) cs.length L) c := by
    unfold g
    rw [List.getD_eq_getElem?_getD, List.getElem?_eq_getElem (by rw [pr_len]; exact h1)]
    rfl
  simp only [List.getElem_map, List.getElem_range, List.getElem_zip, eg]
  congr 1
  rw [← List.map_take, List.take_range]
  congr 2
  omega
end
/-- the pit of a profile -/
def pitOf (cs : List Int) (p : List Int) : List Int := ((List.range (N cs)).filter fun b => decide ((cat (cells cs) b).2 ≤ g p (cat (cells cs) b).1.toNat)).map fun (b : Nat) => (b : Int)
omit V in
theorem mem_pitOf {p : List Int} {b : Int} : b ∈ pitOf cs p ↔ 0 ≤ b ∧ b < N cs ∧ (cat (cells cs) b.toNat).2 ≤ g p (cat (cells cs) b.toNat).1.toNat := by
  unfold pitOf
  simp only [List.mem_map, List.mem_filter, List.mem_range, decide_eq_true_eq]
  constructor
  · rintro ⟨b, ⟨h1, h2⟩, rfl⟩
    rw [Int.toNat_natCast]
    exact ⟨by omega, by omega, h2⟩
  · rintro ⟨h1, h2, h3⟩
    exact ⟨b.toNat, ⟨by omega, h3⟩, by omega⟩
theorem pitOf_ok {p : List Int} (hp : IsProf cs rs p) : OkPit (cov cs rs) (N cs) (pitOf cs p) := by
  refine ⟨?_, fun b hb => ?_, fun b hb x hx => ?_⟩
  · unfold pitOf
    rw [List.pairwise_map]
    exact ((pairwise_range _).filter _).imp fun {a b} h => by show (a : Int) < (b : Int); omega
  · have := mem_pitOf.mp hb
    omega
  · obtain ⟨b0, b1, b2⟩ := mem_pitOf.mp hb
    have hbN : b.toNat < N cs := by omega
    obtain ⟨y, hy, rfl⟩ := (mem_cov hbN).mp hx
    have hcx := cat_mem hbN
    have hcy := (need_cell V hcx hy).1
    refine mem_pitOf.mpr ⟨by omega, ?_, ?_⟩
    · have := ix_lt hcy
      unfold N
      omega
    · rw [Int.toNat_natCast, cat_ix hcy]
      generalize hx0 : cat (cells cs) b.toNat = x at *
      obtain ⟨c, d⟩ := x
      rw [mem_cells' V] at hcx
      obtain ⟨a1, a2, a3, a4⟩ := hcx
      obtain ⟨hpos, k⟩ := mem_need.mp hy
      simp only at k b2
      rcases k with rfl | ⟨q, rfl⟩ | ⟨q, rfl⟩
      · show d - 1 ≤ g p c.toNat
        omega
      · have := hp.lt (c - 1).toNat (by have := V.hr; omega)
        rw [show (c - 1).toNat + 1 = c.toNat by omega] at this
        show d - (r2 rs (c - 1).toNat).2 ≤ g p (c - 1).toNat
        omega
      · have := hp.lt c.toNat (by have := V.hr; omega)
        show d - (r2 rs c.toNat).1 ≤ g p (c + 1).toNat
        rw [show (c + 1).toNat = c.toNat + 1 by omega]
        omega
theorem pr_pitOf {p : List Int} (hp : IsProf cs rs p) : pr (cells cs) cs.length (pitOf cs p) = p := by
  refine list_eq_g (by rw [pr_len, hp.len]) fun c hc => ?_
  rw [pr_len] at hc
  have hL := pitOf_ok V hp
  have b := pr_bd V hL hc
  have b' := hp.bd c hc
  have key : ∀ k : Nat, (k : Int) + 1 ≤ g cs c → ((k : Int) + 1 ≤ g (pr (cells cs) cs.length (pitOf cs p)) c ↔ (k : Int) + 1 ≤ g p c) := fun k hk => by
    rw [← chi_iff V hL hc hk]
    have hx : ((c : Int), (k : Int) + 1) ∈ cells cs := (mem_cells V).mpr ⟨c, k, hc, hk, rfl⟩
    unfold chi
    rw [decide_eq_true_eq, mem_pitOf, Int.toNat_natCast, cat_ix hx]
    have := ix_lt hx
    unfold N
    simp only [Int.toNat_natCast]
    omega
  rcases Int.lt_trichotomy (g (pr (cells cs) cs.length (pitOf cs p)) c) (g p c) with h | h | h
  · have := key (g p c - 1).toNat (by omega)
    omega
  · exact h
  · have := key (g (pr (cells cs) cs.length (pitOf cs p)) c - 1).toNat (by omega)
    omega
/-! ### the best pits -/
theorem cov_lt' : ∀ b, b < N cs → ∀ x ∈ (cov cs rs).getD b [], x < (b : Int) := fun b hb x hx => (cov_lt V hb hx).2
theorem mem_pits {L : List Int} : L ∈ raw (cov cs rs) (N cs) ↔ OkPit (cov cs rs) (N cs) L := mem_raw (cov_lt' V)
theorem top_pits (w : List Int) {ps : List (List Int)} (hp : ps.Perm (raw (cov cs rs) (N cs))) : maxL (ps.map (sumOf w)) = most (wanted cs w) (profs cs rs) := by
  have hr := V.hr
  have hc : ∀ i, i < rs.length → 0 ≤ (r2 rs i).1 ∧ 0 ≤ (r2 rs i).2 := fun i hi => by have := V.rl i hi; omega
  have hs : ∀ i, i < cs.length → 0 ≤ g cs i := fun i hi => by have := V.sz i hi; omega
  obtain ⟨⟨p, h1, h2⟩, h3⟩ := most_spec (ww := wanted cs w) hr hc hs
  have hL := pitOf_ok V h1
  refine maxL_eq (List.mem_map.mpr ⟨pitOf cs p, hp.mem_iff.mpr ((mem_pits V).mpr hL), ?_⟩) fun x hx => ?_
  · rw [worth_pit V hL, pr_pitOf V h1, h2]
  · obtain ⟨L, hl, rfl⟩ := List.mem_map.mp hx
    have hl := (mem_pits V).mp (hp.mem_iff.mp hl)
    rw [worth_pit V hl]
    exact h3 _ (prof_of_pit V hl)
def bestP (w : List Int) (ps : List (List Int)) : List (List Int) := ps.filter fun L => decide (sumOf w L = maxL (ps.map (sumOf w)))
theorem bestP_spec (w : List Int) {ps : List (List Int)} (hp : ps.Perm (raw (cov cs rs) (N cs))) {L : List Int} :
    L ∈ bestP w ps ↔ OkPit (cov cs rs) (N cs) L ∧ worthOf (wanted cs w) (pr (cells cs) cs.length L) = most (wanted cs w) (profs cs rs) := by
  unfold bestP
  rw [List.mem_filter, decide_eq_true_eq, top_pits V w hp, hp.mem_iff, mem_pits V]
  exact and_congr_right fun h => by rw [worth_pit V h]
theorem bestP_ne (w : List Int) {ps : List (List Int)} (hp : ps.Perm (raw (cov cs rs) (N cs))) : bestP w ps ≠ [] := by
  have hr := V.hr
  have hc : ∀ i, i < rs.length → 0 ≤ (r2 rs i).1 ∧ 0 ≤ (r2 rs i).2 := fun i hi => by have := V.rl i hi; omega
  have hs : ∀ i, i < cs.length → 0 ≤ g cs i := fun i hi => by have := V.sz i hi; omega
  obtain ⟨⟨p, h1, h2⟩, h3⟩ := most_spec (ww := wanted cs w) hr hc hs
  have hL := pitOf_ok V h1
  exact List.ne_nil_of_mem ((bestP_spec V w hp).mpr ⟨hL, by rw [pr_pitOf V h1, h2]⟩)
omit V in
theorem bestP_sorted (w : List Int) {ps : List (List Int)} (hs : ps.Pairwise fun a b => a.length ≤ b.length) : (bestP w ps).Pairwise fun a b => a.length ≤ b.length := hs.filter _
omit V in
theorem head_le {l : List (List Int)} {a : List Int} (hs : l.Pairwise fun a b => a.length ≤ b.length) (h : l[0]? = some a) : ∀ b ∈ l, a.length ≤ b.length := by
  cases l with
  | nil => cases h
  | cons x l =>
    cases h
    intro b hb
    rcases List.mem_cons.mp hb with rfl | hb
    · exact Nat.le_refl _
    · exact (List.pairwise_cons.mp hs).1 b hb
omit V in
theorem last_ge {l : List (List Int)} {a : List Int} (hs : l.Pairwise fun a b => a.length ≤ b.length) (h : l[l.length - 1]? = some a) : ∀ b ∈ l, b.length ≤ a.length := by
  intro b hb
  obtain ⟨i, hi, rfl⟩ := List.getElem_of_mem hb
  obtain ⟨hl, e⟩ := List.getElem?_eq_some_iff.mp h
  subst e
  by_cases q : i = l.length - 1
  · subst q; exact Nat.le_refl _
  · exact List.pairwise_iff_getElem.mp hs i (l.length - 1) hi hl (by omega)
theorem first_best (w : List Int) {ps : List (List Int)} (hp : ps.Perm (raw (cov cs rs) (N cs))) (hs : ps.Pairwise fun a b => a.length ≤ b.length) {L : List Int} (h : (bestP w ps)[0]? = some L) :
    OkPit (cov cs rs) (N cs) L ∧ pr (cells cs) cs.length L = leastOf cs.length (bests (wanted cs w) (profs cs rs)) := by
  have hr := V.hr
  have hc : ∀ i, i < rs.length → 0 ≤ (r2 rs i).1 ∧ 0 ≤ (r2 rs i).2 := fun i hi => by have := V.rl i hi; omega
  have hz : ∀ i, i < cs.length → 0 ≤ g cs i := fun i hi => by have := V.sz i hi; omega
  obtain ⟨⟨q1, q2⟩, q3⟩ := least_spec (ww := wanted cs w) hr hc hz
  have hb := (bestP_spec V w hp).mp (List.mem_of_getElem? h)
  refine ⟨hb.1, ?_⟩
  generalize leastOf cs.length (bests (wanted cs w) (profs cs rs)) = q at *
  have hQ := pitOf_ok V q1
  have lq := head_le (bestP_sorted w hs) h (pitOf cs q) ((bestP_spec V w hp).mpr ⟨hQ, by rw [pr_pitOf V q1, q2]⟩)
  have e1 := pit_len V hb.1
  have e2 := pit_len V hQ
  rw [pr_pitOf V q1] at e2
  have le := q3 _ (prof_of_pit V hb.1) hb.2
  refine (list_eq_g (by rw [pr_len, q1.len]) fun i hi => ?_).symm
  · exact S_eq_all (n := cs.length) (f := g q) (k := g (pr (cells cs) cs.length L)) (fun i hi => le i hi) (by show S cs.length (fun c => g (pr (cells cs) cs.length L) c) ≤ S cs.length (fun c => g q c); omega) i (by rw [q1.len] at hi; exact hi)
theorem last_best (w : List Int) {ps : List (List Int)} (hp : ps.Perm (raw (cov cs rs) (N cs))) (hs : ps.Pairwise fun a b => a.length ≤ b.length) {L : List Int} (h : (bestP w ps)[(bestP w ps).length - 1]? = some L) :
    OkPit (cov cs rs) (N cs) L ∧ pr (cells cs) cs.length L = greatOf cs.length (bests (wanted cs w) (profs cs rs)) := by
  have hr := V.hr
  have hc : ∀ i, i < rs.length → 0 ≤ (r2 rs i).1 ∧ 0 ≤ (r2 rs i).2 := fun i hi => by have := V.rl i hi; omega
  have hz : ∀ i, i < cs.length → 0 ≤ g cs i := fun i hi => by have := V.sz i hi; omega
  obtain ⟨⟨q1, q2⟩, q3⟩ := great_spec (ww := wanted cs w) hr hc hz
  have hb := (bestP_spec V w hp).mp (List.mem_of_getElem? h)
  refine ⟨hb.1, ?_⟩
  generalize greatOf cs.length (bests (wanted cs w) (profs cs rs)) = q at *
  have hQ := pitOf_ok V q1
  have lq := last_ge (bestP_sorted w hs) h (pitOf cs q) ((bestP_spec V w hp).mpr ⟨hQ, by rw [pr_pitOf V q1, q2]⟩)
  have e1 := pit_len V hb.1
  have e2 := pit_len V hQ
  rw [pr_pitOf V q1] at e2
  have le := q3 _ (prof_of_pit V hb.1) hb.2
  refine list_eq_g (by rw [pr_len, q1.len]) fun i hi => ?_
  rw [pr_len] at hi
  exact S_eq_all (n := cs.length) (f := g (pr (cells cs) cs.length L)) (k := g q) (fun i hi => le i hi) (by show S cs.length (fun c => g q c) ≤ S cs.length (fun c => g (pr (cells cs) cs.length L) c); omega) i hi
end
end PL

namespace PL
theorem S_g (cs : List Int) : S cs.length (g cs) = cs.sum := by
  unfold S
  congr 1
  refine List.ext_getElem (by simp) fun i h1 h2 => ?_
  rw [List.getElem_map, List.getElem_range]
  unfold g
  rw [List.getD_eq_getElem?_getD, List.getElem?_eq_getElem h2]
  rfl
theorem len_sum {α : Type} : ∀ l : List α, (l.map fun _ => (1 : Int)).sum = l.length
  | [] => rfl
  | x :: l => by
    rw [List.map_cons, List.sum_cons, len_sum l, List.length_cons]
    omega
theorem N_sum {cs : List Int} {rs : List P2} (V : Val cs rs) : (N cs : Int) = cs.sum := by
  unfold N
  rw [← len_sum, sum_cells V.sz, ← S_g]
  refine S_congr fun i hi => ?_
  rw [S_one]
  have := V.sz i hi
  omega
theorem N_bd {cs : List Int} {rs : List P2} (V : Val cs rs) : 1 ≤ N cs ∧ N cs ≤ 10 := by
  have h := N_sum V
  have h1 := V.sum
  have h2 : ((0 : Int), (1 : Int)) ∈ cells cs := by
    have := V.pos
    have z := V.sz 0 (by omega)
    refine (mem_cells (cs := cs) (by first | exact V.sz | exact V | assumption)).mpr ⟨0, 0, by omega, by omega, rfl⟩
  have h3 : 1 ≤ N cs := by
    unfold N
    exact List.length_pos_of_mem h2
  exact ⟨h3, by omega⟩
theorem need_len {cs : List Int} {rs : List P2} {x : P2} : (need cs rs x).length ≤ 3 := by
  unfold need
  refine Nat.le_trans (List.length_filter_le _ _) ?_
  rw [List.length_append, List.length_map]
  have : (besideL cs rs x.1).length ≤ 2 := by
    unfold besideL
    split <;> split <;> simp
  simp
  omega
theorem prof_len {cs : List Int} {rs : List P2} {n : Nat} {p : List Int} (h : p ∈ profsN cs rs n) : p.length = n := by
  rw [profsN_eq, List.mem_filter] at h
  exact (mem_depthsN.mp h.1).1
theorem flat_le {α β : Type} {f : α → List β} {m : Nat} : ∀ {l : List α}, (∀ x ∈ l, (f x).length ≤ m) → (l.flatMap f).length ≤ l.length * m
  | [], _ => by simp
  | x :: l, h => by
    rw [List.flatMap_cons, List.length_append, List.length_cons, Nat.succ_mul]
    have h1 := h x List.mem_cons_self
    have h2 := flat_le (l := l) fun y hy => h y (List.mem_cons_of_mem _ hy)
    omega
theorem upto_len {s : Int} : (upto s).length = (s + 1).toNat := by simp [upto]
theorem depths_le {cs : List Int} (h : ∀ i, i < cs.length → g cs i ≤ 10) : ∀ n, n ≤ cs.length → (depthsN cs n).length ≤ 11 ^ n
  | 0, _ => Nat.le_refl _
  | n + 1, hn => by
    have ih := depths_le h n (by omega)
    have := h n (by omega)
    refine Nat.le_trans (flat_le (m := 11) fun x _ => ?_) ?_
    · rw [List.length_map, upto_len]
      omega
    · rw [Nat.pow_succ]
      exact Nat.mul_le_mul_right _ ih
theorem profs_le {cs : List Int} {rs : List P2} (V : Val cs rs) (n : Nat) (hn : n ≤ cs.length) : (profsN cs rs n).length ≤ 161051 ∧ (depthsN cs n).length ≤ 161051 := by
  have h1 := depths_le (fun i hi => (V.sz i hi).2) n hn
  have h2 : 11 ^ n ≤ 11 ^ 5 := Nat.pow_le_pow_right (by decide) (Nat.le_trans hn V.few)
  have h3 : (11 : Nat) ^ 5 = 161051 := by decide
  rw [profsN_eq]
  have := List.length_filter_le (fun p => letsK p rs (n - 1)) (depthsN cs n)
  omega
/-- a step by the last two -/
theorem lets_two {rs : List P2} {more : List Int} {n : Nat} (hl : more.length = n + 1) (hn : 0 < n) (hr : n ≤ rs.length) : lets ((more.drop (n - 1)).take 2) ((rs.drop (n - 1)).take 1) = letsAt rs n more := by
  unfold lets letsK letsAt
  rw [if_neg (by omega)]
  have e1 : ((rs.drop (n - 1)).take 1).length = 1 := by
    rw [List.length_take, List.length_drop]
    omega
  rw [e1]
  have e2 : ∀ i, i < 2 → g ((more.drop (n - 1)).take 2) i = g more (n - 1 + i) := fun i hi => by
    unfold g
    rw [List.getD_eq_getElem?_getD, List.getD_eq_getElem?_getD, List.getElem?_take, if_pos hi, List.getElem?_drop]
  have e3 : r2 ((rs.drop (n - 1)).take 1) 0 = r2 rs (n - 1) := by
    unfold r2
    rw [List.getD_eq_getElem?_getD, List.getD_eq_getElem?_getD, List.getElem?_take, if_pos (by omega), List.getElem?_drop]
    rfl
  show ([0].all fun i => step (g ((more.drop (n - 1)).take 2) i) (g ((more.drop (n - 1)).take 2) (i + 1)) (r2 ((rs.drop (n - 1)).take 1) i)) = _
  rw [List.all_cons, List.all_nil, Bool.and_true, e2 0 (by omega), e2 1 (by omega), e3, Nat.add_zero, Nat.sub_add_cancel hn]
theorem cov_small {cs : List Int} {rs : List P2} {b : Nat} : ((cov cs rs).getD b []).length ≤ 3 := by
  by_cases h : b < N cs
  · rw [cov_at h, (sortI_perm _).length_eq, List.length_map]
    exact need_len
  · rw [List.getD_eq_getElem?_getD, List.getElem?_eq_none (by rw [cov_len]; omega)]
    simp
end PL

namespace PX
open PySem PySem.Spec PyProof.Rows L2

/-! ### heaps seen without what may still change -/
def res (M : Addr → Bool) (H : Hp) : Hp := fun a => if M a = true then none else H a
theorem res_le (M : Addr → Bool) (H : Hp) : Same (res M H) H := fun a o h => by
  unfold res at h
  split at h
  · cases h
  · exact h
theorem res_in {M : Addr → Bool} {H : Hp} {a : Addr} (h : M a = false) : res M H a = H a := by
  unfold res
  rw [h]
  rfl
theorem res_mono {M : Addr → Bool} {H H' : Hp} (s : Same H H') : Same (res M H) (res M H') := fun a o h => by
  unfold res at h ⊢
  split at h
  · cases h
  · rename_i q
    rw [if_neg q]
    exact s a o h
def MOk (M : Addr → Bool) (H : Hp) : Prop := ∀ a, M a = true → H a ≠ none
theorem MOk.mono {M : Addr → Bool} {H H' : Hp} (m : MOk M H) (s : Same H H') : MOk M H' := fun a ha => by
  cases e : H a with
  | none => exact absurd e (m a ha)
  | some o =>
    rw [s a o e]
    intro z
    cases z
theorem MOk.new {M : Addr → Bool} {H : Hp} {p : Addr} (m : MOk M H) (h : H p = none) : M p = false := by
  cases e : M p with
  | false => rfl
  | true => exact absurd h (m p e)
theorem same_upd {H : Hp} {p : Addr} {o : HO} (h : H p = none) : Same H (upd H p o) := fun a u e => by
  rw [upd_ne (ne_of_none e h)]
  exact e
theorem res_upd_at {M : Addr → Bool} {H : Hp} {p : Addr} {o : HO} (h : M p = false) : res M (upd H p o) p = some o := by
  rw [res_in h, upd_same]
theorem res_upd_mut {M : Addr → Bool} {H : Hp} {p : Addr} {o : HO} (h : M p = true) : res M (upd H p o) = res M H := by
  funext a
  unfold res
  by_cases e : a = p
  · subst e
    rw [if_pos h, if_pos h]
  · rw [upd_ne e]
def addM (M : Addr → Bool) (p : Addr) : Addr → Bool := fun a => decide (a = p) || M a
theorem addM_self (M : Addr → Bool) (p : Addr) : addM M p p = true := by simp [addM]
theorem addM_ne {M : Addr → Bool} {p a : Addr} (h : a ≠ p) : addM M p a = M a := by simp [addM, h]
theorem addM_false {M : Addr → Bool} {p a : Addr} (h : addM M p a = false) : a ≠ p ∧ M a = false := by
  simpa [addM] using h
theorem res_add_le (M : Addr → Bool) (p : Addr) (H : Hp) : Same (res (addM M p) H) (res M H) := fun a o h => by
  unfold res at h ⊢
  split at h
  · cases h
  · rename_i q
    have := addM_false (by simpa using q)
    rw [if_neg (by rw [this.2]; decide)]
    exact h

/-! ### what a value is said to be -/
structure Dc where
  p : Hp → V → Prop
  mono : ∀ {H H' : Hp} {v : V}, Same H H' → p H v → p H' v
section
variable {K : PySem.W.Frag} {H H' : Hp}
theorem same_rd {a : Addr} {u : HO} (s : Same H H') (h : Rd H a u) : Rd H' a u := by
  rcases h with h | ⟨o, h⟩
  · exact .inl (s _ _ h)
  · exact .inr ⟨o, s _ _ h⟩
theorem same_l {a : Addr} {xs : List V} (s : Same H H') (h : SqL K H a xs) : SqL K H' a xs := by
  rcases h with h | h
  · exact .inl (same_rd s h)
  · exact .inr h
theorem same_t {a : Addr} {xs : List V} (s : Same H H') (h : SqT K H a xs) : SqT K H' a xs := by
  rcases h with h | h
  · exact .inl (same_rd s h)
  · exact .inr h
mutual
theorem dp_mono (s : Same H H') : ∀ (d : PyData) (v : V), Dp K H v d → Dp K H' v d
  | .none, _, h => by cases h; exact .non
  | .bool _, _, h => by cases h; exact .bl _
  | .int _, _, h => by cases h; exact .int _
  | .str _, _, h => by cases h; exact .str _
  | .list ds, _, h => by
    cases h with
    | lst h1 h2 => exact .lst (same_l s h1) (dps_mono s ds _ h2)
  | .tuple ds, _, h => by
    cases h with
    | tup h1 h2 => exact .tup (same_t s h1) (dps_mono s ds _ h2)
  | .dict _, _, h => by cases h
theorem dps_mono (s : Same H H') : ∀ (ds : List PyData) (vs : List V), DpAll K H vs ds → DpAll K H' vs ds
  | [], _, h => by cases h; exact .nil
  | d :: ds, _, h => by
    cases h with
    | cons h1 h2 => exact .cons (dp_mono s d _ h1) (dps_mono s ds _ h2)
end
theorem dps_get : ∀ {ds : List PyData} {xs : List V} {i : Nat} {d : PyData}, DpAll K H xs ds → ds[i]? = some d → ∃ x, xs[i]? = some x ∧ Dp K H x d
  | _, _, _, _, .nil, e => by simp at e
  | _, _, 0, _, .cons h _, e => by
    simp at e
    subst e
    exact ⟨_, rfl, h⟩
  | _, _, i + 1, d, .cons _ t, e => by
    obtain ⟨x, h1, h2⟩ := dps_get (i := i) (d := d) t (by simpa using e)
    exact ⟨x, by simpa using h1, h2⟩
theorem dps_len : ∀ {ds : List PyData} {xs : List V}, DpAll K H xs ds → xs.length = ds.length
  | _, _, .nil => rfl
  | _, _, .cons _ t => by rw [List.length_cons, List.length_cons, dps_len t]
theorem dps_app : ∀ {ds es : List PyData} {xs ys : List V}, DpAll K H xs ds → DpAll K H ys es → DpAll K H (xs ++ ys) (ds ++ es)
  | _, _, _, _, .nil, h => h
  | _, _, _, _, .cons h t, h2 => .cons h (dps_app t h2)
theorem dps_ints : ∀ {ns : List Int} {xs : List V}, DpAll K H xs (ns.map .int) → xs = ns.map V.int
  | [], _, h => by cases h; rfl
  | n :: ns, _, h => by
    have h' : DpAll K H _ (PyData.int n :: ns.map .int) := h
    cases h' with
    | cons h1 h2 =>
      cases h1
      rw [dps_ints h2]
      rfl
theorem dps_bools : ∀ {ns : List Bool} {xs : List V}, DpAll K H xs (ns.map .bool) → xs = ns.map V.bl
  | [], _, h => by cases h; rfl
  | n :: ns, _, h => by
    have h' : DpAll K H _ (PyData.bool n :: ns.map .bool) := h
    cases h' with
    | cons h1 h2 =>
      cases h1
      rw [dps_bools h2]
      rfl
theorem dps_drop : ∀ {ds : List PyData} {xs : List V} (n : Nat), DpAll K H xs ds → DpAll K H (xs.drop n) (ds.drop n)
  | _, _, 0, h => h
  | _, _, _ + 1, .nil => .nil
  | _, _, n + 1, .cons _ t => dps_drop n t
theorem dps_take : ∀ {ds : List PyData} {xs : List V} (n : Nat), DpAll K H xs ds → DpAll K H (xs.take n) (ds.take n)
  | _, _, 0, _ => .nil
  | _, _, _ + 1, .nil => .nil
  | _, _, n + 1, .cons h t => .cons h (dps_take n t)
theorem dps_set : ∀ {ds : List PyData} {xs : List V} {v : V} {d : PyData} (i : Nat), DpAll K H xs ds → Dp K H v d → DpAll K H (xs.set i v) (ds.set i d)
  | _, _, _, _, _, .nil, _ => .nil
  | _, _, _, _, 0, .cons _ t, h => .cons h t
  | _, _, _, _, i + 1, .cons h t, h2 => .cons h (dps_set i t h2)
end
def dat (K : PySem.W.Frag) (d : PyData) : Dc := ⟨fun H v => Dp K H v d, fun s h => dp_mono s _ _ h⟩
/-- a list that stands in the heap -/
def Ls (K : PySem.W.Frag) (ds : List PyData) : Dc := ⟨fun H v => ∃ a xs, v = .ref a ∧ H a = some (.lst xs) ∧ DpAll K H xs ds, fun s ⟨a, xs, h1, h2, h3⟩ => ⟨a, xs, h1, s _ _ h2, dps_mono s _ _ h3⟩⟩
/-- just this value -/
def Vl (v : V) : Dc := ⟨fun _ x => x = v, fun _ h => h⟩
/-- a tuple of two such -/
def Tp (K : PySem.W.Frag) (d e : Dc) : Dc := ⟨fun H v => ∃ a x y, v = .ref a ∧ SqT K H a [x, y] ∧ d.p H x ∧ e.p H y, fun s ⟨a, x, y, h1, h2, h3, h4⟩ => ⟨a, x, y, h1, same_t s h2, d.mono s h3, e.mono s h4⟩⟩
def Any : Dc := ⟨fun _ _ => True, fun _ h => h⟩
def Le (d e : Dc) : Prop := ∀ H v, d.p H v → e.p H v
theorem Le.refl (d : Dc) : Le d d := fun _ _ h => h
theorem ls_dat {K : PySem.W.Frag} (ds : List PyData) : Le (Ls K ds) (dat K (.list ds)) := fun H v ⟨a, xs, h1, h2, h3⟩ => by
  subst h1
  exact Dp.lst (.inl (.inl h2)) h3
theorem tp_dat {K : PySem.W.Frag} (d e : PyData) : Le (dat K (.tuple [d, e])) (Tp K (dat K d) (dat K e)) := fun H v h => by
  have h' : Dp K H v (.tuple [d, e]) := h
  cases h' with
  | tup h1 h2 =>
    cases h2 with
    | cons a b =>
      cases b with
      | cons b c =>
        cases c
        exact ⟨_, _, _, rfl, h1, a, b⟩
abbrev DE : Type := List (Option Dc)
def Holds (ρ : DE) (σ : L2.St) (H : Hp) : Prop := ρ.length = σ.length ∧ ∀ (i : Nat) (d : Dc), ρ[i]? = some (some d) → ∃ v, σ[i]? = some (some v) ∧ d.p H v
theorem Holds.mono {ρ : DE} {σ : L2.St} {H H' : Hp} (h : Holds ρ σ H) (s : Same H H') : Holds ρ σ H' := ⟨h.1, fun i d e => by
  obtain ⟨v, h1, h2⟩ := h.2 i d e
  exact ⟨v, h1, d.mono s h2⟩⟩
theorem Holds.set {ρ : DE} {σ : L2.St} {H : Hp} {j : Nat} {d : Dc} {v : V} (h : Holds ρ σ H) (hv : d.p H v) : Holds (ρ.set j (some d)) (σ.set j (some v)) H := by
  refine ⟨by rw [List.length_set, List.length_set]; exact h.1, fun i e q => ?_⟩
  by_cases z : j = i
  · subst z
    by_cases l : j < ρ.length
    · rw [List.getElem?_set_self l] at q
      rw [List.getElem?_set_self (by rw [← h.1]; exact l)]
      simp only [Option.some.injEq] at q
      subst q
      exact ⟨v, rfl, hv⟩
    · rw [List.getElem?_eq_none (by simpa using l)] at q
      cases q
  · rw [List.getElem?_set_ne z] at q ⊢
    exact h.2 i e q
/-- a slot is forgotten -/
theorem Holds.forget {ρ : DE} {σ : L2.St} {H : Hp} {j : Nat} {v : Option V} (h : Holds ρ σ H) : Holds (ρ.set j none) (σ.set j v) H := by
  refine ⟨by rw [List.length_set, List.length_set]; exact h.1, fun i e q => ?_⟩
  by_cases z : j = i
  · subst z
    by_cases l : j < ρ.length
    · rw [List.getElem?_set_self l] at q
      cases q
    · rw [List.getElem?_eq_none (by simpa using l)] at q
      cases q
  · rw [List.getElem?_set_ne z] at q ⊢
    exact h.2 i e q
theorem Holds.drop {ρ : DE} {σ : L2.St} {H : Hp} {j : Nat} (h : Holds ρ σ H) : Holds (ρ.set j none) σ H := by
  refine ⟨by rw [List.length_set]; exact h.1, fun i e q => ?_⟩
  by_cases z : j = i
  · subst z
    by_cases l : j < ρ.length
    · rw [List.getElem?_set_self l] at q
      cases q
    · rw [List.getElem?_eq_none (by simpa using l)] at q
      cases q
  · rw [List.getElem?_set_ne z] at q
    exact h.2 i e q

/-! ### expressions -/
def tD (ρ : DE) (d : Dc) : TE := fun σ H Q => ∃ M, MOk M H ∧ Holds ρ σ (res M H) ∧ ∀ v H', Same H H' → d.p (res M H') v → Q v H'
def tDT (ρ : DE) (b : Bool) : TT := fun σ H Q => ∃ M, MOk M H ∧ Holds ρ σ (res M H) ∧ ∀ H', Same H H' → Q b H'
inductive DsP (H : Hp) : List Dc → List V → Prop where
  | nil : DsP H [] []
  | cons {d : Dc} {ds : List Dc} {v : V} {vs : List V} : d.p H v → DsP H ds vs → DsP H (d :: ds) (v :: vs)
theorem DsP.mono {H H' : Hp} (s : Same H H') : ∀ {ds : List Dc} {vs : List V}, DsP H ds vs → DsP H' ds vs
  | _, _, .nil => .nil
  | _, _, .cons h t => .cons (Dc.mono _ s h) (DsP.mono s t)
def tDA (ρ : DE) (ds : List Dc) : TA := fun σ H Q => ∃ M, MOk M H ∧ Holds ρ σ (res M H) ∧ ∀ vs H', Same H H' → DsP (res M H') ds vs → Q vs H'
abbrev PV (X : Cx) (e : Expr) (ρ : DE) (d : Dc) : Prop := PE X e (tD ρ d)
abbrev PVT (X : Cx) (e : Expr) (ρ : DE) (b : Bool) : Prop := PT X e (tDT ρ b)
abbrev PVA (X : Cx) (es : List Expr) (ρ : DE) (ds : List Dc) : Prop := PA X es (tDA ρ ds)
section
variable {X : Cx} {ρ : DE} {d da db dc : Dc} {a b c e : Expr} {pos : Pos}
theorem pe_weak {t u : TE} (h : PE X e t) (k : ∀ σ H Q, u σ H Q → t σ H Q) : PE X e u := ⟨fun pins s σ H Q I q => h.run pins s σ H Q I (k σ H Q q)⟩
theorem pt_weak {t u : TT} (h : PT X e t) (k : ∀ σ H Q, u σ H Q → t σ H Q) : PT X e u := ⟨fun pins s σ H Q I q => h.run pins s σ H Q I (k σ H Q q)⟩
theorem pw_weak {t u : TT} (h : PW X e t) (k : ∀ σ H Q, u σ H Q → t σ H Q) : PW X e u := ⟨fun wh pins s σ H Q I q => h.run wh pins s σ H Q I (k σ H Q q)⟩
theorem pa_weak {es : List Expr} {t u : TA} (h : PA X es t) (k : ∀ σ H Q, u σ H Q → t σ H Q) : PA X es u := ⟨fun pos pins s σ H Q I q => h.run pos pins s σ H Q I (k σ H Q q)⟩
theorem pv_conv (h : PV X e ρ da) (k : Le da d) : PV X e ρ d := pe_weak h fun σ H Q h0 => h0.elim fun M z => ⟨M, z.1, z.2.1, fun v H' s p => z.2.2 v H' s (k _ _ p)⟩
theorem pv_is (h : PV X e ρ da) (k : da = d) : PV X e ρ d := k ▸ h
theorem pv_var {x : Str} {i : Nat} (h : PE X (.Name x pos) (tVar i)) (hr : ρ[i]? = some (some d)) : PV X (.Name x pos) ρ d := pe_weak h fun σ H Q ⟨M, m, hh, q⟩ => by
  obtain ⟨v, h1, h2⟩ := hh.2 i d hr
  exact ⟨v, h1, q v H (Same.refl H) h2⟩
theorem pv_c {v : V} (h : PE X e (tC v)) (hd : ∀ H, d.p H v) : PV X e ρ d := pe_weak h fun σ H Q ⟨M, m, hh, q⟩ => q v H (Same.refl H) (hd _)
theorem pv_int {i : Int} {j : Nat} : PV X (.Constant (.int i) j pos) ρ (dat X.K (.int i)) := pv_c pe_int fun _ => .int _
theorem pv_bl {i : Bool} {j : Nat} : PV X (.Constant (.bool i) j pos) ρ (dat X.K (.bool i)) := pv_c pe_bl fun _ => .bl _
theorem pv_non {j : Nat} : PV X (.Constant .none j pos) ρ (dat X.K .none) := pv_c pe_non fun _ => .non
def RD (r : R2) (da db d : Dc) : Prop := ∀ (M : Addr → Bool) (H : Hp) (x y : V) (Q : VK), MOk M H → da.p (res M H) x → db.p (res M H) y → (∀ v H', Same H H' → d.p (res M H') v → Q v H') → r x y H Q
def RU (r : V → Hp → VK → Prop) (da d : Dc) : Prop := ∀ (M : Addr → Bool) (H : Hp) (x : V) (Q : VK), MOk M H → da.p (res M H) x → (∀ v H', Same H H' → d.p (res M H') v → Q v H') → r x H Q
def RC (r : List V → Hp → VK → Prop) (ds : List Dc) (d : Dc) : Prop := ∀ (M : Addr → Bool) (H : Hp) (vs : List V) (Q : VK), MOk M H → DsP (res M H) ds vs → (∀ v H', Same H H' → d.p (res M H') v → Q v H') → r vs H Q
theorem tOp_of {r : R2} (h : RD r da db d) : ∀ σ H Q, tD ρ d σ H Q → tOp r (tD ρ da) (tD ρ db) σ H Q := fun σ H Q ⟨M, m, hh, q⟩ =>
  ⟨M, m, hh, fun x H1 s1 dx => ⟨M, m.mono s1, hh.mono (res_mono s1), fun y H2 s2 dy => h M H2 x y Q ((m.mono s1).mono s2) (da.mono (res_mono s2) dx) dy fun v H' s' dv => q v H' ((s1.trans s2).trans s') dv⟩⟩
theorem pv_op {op : Operator} {r : R2} (ho : OpR X (binaryOp op) r) (ha : PV X a ρ da) (hb : PV X b ρ db) (h : RD r da db d) : PV X (.BinOp a op b pos) ρ d := pe_weak (pe_op ho ha hb) (tOp_of h)
theorem pv_cmp {op : CmpOp} {r : R2} (ho : OpR X (compareOp op) r) (ha : PV X a ρ da) (hb : PV X b ρ db) (h : RD r da db d) (hm : behindInMarks op b = false) : PV X (.Compare a [op] [b] pos) ρ d := pe_weak (pe_cmpR ho ha hb hm) (tOp_of h)
theorem pv_ix {r : R2} (hr : IxR X r) (ha : PV X a ρ da) (hb : PV X b ρ db) (h : RD r da db d) (hs : PlainIx b) : PV X (.Subscript a b pos) ρ d := pe_weak (pe_ix hr ha hb hs) (tOp_of h)
theorem pv_un {op : UnaryOp} {r : V → Hp → VK → Prop} (ho : UnR X (unaryOp op) r) (ha : PV X a ρ da) (h : RU r da d) : PV X (.UnaryOp op a pos) ρ d := pe_weak (pe_un ho ha) fun σ H Q ⟨M, m, hh, q⟩ =>
  ⟨M, m, hh, fun x H1 s1 dx => h M H1 x Q (m.mono s1) dx fun v H' s' dv => q v H' (s1.trans s') dv⟩
theorem pvt_cmp {op : CmpOp} {r : R2} {k : Bool} (ho : OpR X (compareOp op) r) (ha : PV X a ρ da) (hb : PV X b ρ db) (h : RD r da db (dat X.K (.bool k))) (hm : behindInMarks op b = false) : PVT X (.Compare a [op] [b] pos) ρ k :=
  pt_weak (pt_cmpR ho ha hb hm) fun σ H Q ⟨M, m, hh, q⟩ => tOp_of h σ H _ ⟨M, m, hh, fun v H' s' dv => by
    have dv' : Dp X.K _ v (.bool k) := dv
    cases dv'
    exact ⟨k, rfl, q H' s'⟩⟩
theorem pvt_val {k : Bool} (h : PV X e ρ (dat X.K (.bool k))) (he : ∀ whole, isTrue e X.env whole = (do let v ← whole; standAt e.pos; holding [v] (truthy v)) := by intro _; rfl) : PVT X e ρ k :=
  pt_weak (pt_val h he) fun σ H Q ⟨M, m, hh, q⟩ => ⟨M, m, hh, fun v H' s' dv => by
    have dv' : Dp X.K _ v (.bool k) := dv
    cases dv'
    exact ⟨k, rfl, q H' s'⟩⟩
theorem pvt_not {k : Bool} (h : PVT X a ρ k) : PVT X (.UnaryOp .Not a pos) ρ (!k) := pt_weak (pt_not h) fun σ H Q ⟨M, m, hh, q⟩ => ⟨M, m, hh, fun H' s' => q H' s'⟩
theorem pv_not {k : Bool} (h : PV X a ρ (dat X.K (.bool k))) : PV X (.UnaryOp .Not a pos) ρ (dat X.K (.bool !k)) := pe_weak (pe_not h) fun σ H Q ⟨M, m, hh, q⟩ => ⟨M, m, hh, fun v H' s' dv => by
    have dv' : Dp X.K _ v (.bool k) := dv
    cases dv'
    exact ⟨k, rfl, q _ H' s' (.bl _)⟩⟩
abbrev PVW (X : Cx) (e : Expr) (ρ : DE) (b : Bool) : Prop := PW X e (tDT ρ b)
theorem pvw_and1 {k : Bool} (h : PVT X a ρ k) : PVW X (.BoolOp .And [a] pos) ρ k := pw_and1 h
theorem pvw_or1 {k : Bool} (h : PVT X a ρ k) : PVW X (.BoolOp .Or [a] pos) ρ k := pw_or1 h
theorem pw_never {k : Bool} {u : TT} (h : PW X e u) : True := trivial
theorem pvw_and {k l : Bool} {rest : List Expr} (h : PVT X a ρ k) (h2 : PW X (.BoolOp .And (b :: rest) pos) (fun σ H Q => k = true ∧ tDT ρ l σ H Q)) : PVW X (.BoolOp .And (a :: b :: rest) pos) ρ (k && l) :=
  pw_weak (pw_and h h2) fun σ H Q ⟨M, m, hh, q⟩ => ⟨M, m, hh, fun H' s' => by
    cases k with
    | true => exact iteT ⟨rfl, M, m.mono s', hh.mono (res_mono s'), fun H2 s2 => q H2 (s'.trans s2)⟩
    | false => exact iteF (q H' s')⟩
theorem pvw_or {k l : Bool} {rest : List Expr} (h : PVT X a ρ k) (h2 : PW X (.BoolOp .Or (b :: rest) pos) (fun σ H Q => k = false ∧ tDT ρ l σ H Q)) : PVW X (.BoolOp .Or (a :: b :: rest) pos) ρ (k || l) :=
  pw_weak (pw_or h h2) fun σ H Q ⟨M, m, hh, q⟩ => ⟨M, m, hh, fun H' s' => by
    cases k with
    | false => exact iteF ⟨rfl, M, m.mono s', hh.mono (res_mono s'), fun H2 s2 => q H2 (s'.trans s2)⟩
    | true => exact iteT (q H' s')⟩
/-- where what is known says that the part is never asked, or asked with that known -/
theorem pw_when {φ : Prop} {u : TT} (h : φ → PW X e u) : PW X e (fun σ H Q => φ ∧ u σ H Q) := ⟨fun wh pins s σ H Q I q => (h q.1).run wh pins s σ H Q I q.2⟩
theorem pe_when {φ : Prop} {u : TE} (h : φ → PE X e u) : PE X e (fun σ H Q => φ ∧ u σ H Q) := ⟨fun pins s σ H Q I q => (h q.1).run pins s σ H Q I q.2⟩
theorem pv_and {k l : Bool} {rest : List Expr} (h : PV X a ρ (dat X.K (.bool k))) (h2 : k = true → PV X (.BoolOp .And (b :: rest) pos) ρ (dat X.K (.bool l))) : PV X (.BoolOp .And (a :: b :: rest) pos) ρ (dat X.K (.bool (k && l))) :=
  pe_weak (pe_and h (pe_when h2)) fun σ H Q ⟨M, m, hh, q⟩ => ⟨M, m, hh, fun v H' s' dv => by
    have dv' : Dp X.K _ v (.bool k) := dv
    cases dv'
    refine ⟨k, rfl, ?_⟩
    cases k with
    | true => exact iteT ⟨rfl, M, m.mono s', hh.mono (res_mono s'), fun v2 H2 s2 d2 => q v2 H2 (s'.trans s2) d2⟩
    | false => exact iteF (q _ H' s' (.bl _))⟩
theorem pv_or {k l : Bool} {rest : List Expr} (h : PV X a ρ (dat X.K (.bool k))) (h2 : k = false → PV X (.BoolOp .Or (b :: rest) pos) ρ (dat X.K (.bool l))) : PV X (.BoolOp .Or (a :: b :: rest) pos) ρ (dat X.K (.bool (k || l))) :=
  pe_weak (pe_or h (pe_when h2)) fun σ H Q ⟨M, m, hh, q⟩ => ⟨M, m, hh, fun v H' s' dv => by
    have dv' : Dp X.K _ v (.bool k) := dv
    cases dv'
    refine ⟨k, rfl, ?_⟩
    cases k with
    | false => exact iteF ⟨rfl, M, m.mono s', hh.mono (res_mono s'), fun v2 H2 s2 d2 => q v2 H2 (s'.trans s2) d2⟩
    | true => exact iteT (q _ H' s' (.bl _))⟩
theorem pv_one {op : BoolOp} (h : PV X a ρ d) : PV X (.BoolOp op [a] pos) ρ d := pe_one h
theorem tChain_of {r r' : R2} {k l : Bool} (h : RD r da db (dat X.K (.bool k))) (h' : k = true → RD r' db dc (dat X.K (.bool l))) : ∀ σ H Q, tD ρ (dat X.K (.bool (k && l))) σ H Q → tChain r r' (tD ρ da) (tD ρ db) (tD ρ dc) σ H Q := fun σ H Q ⟨M, m, hh, q⟩ =>
  ⟨M, m, hh, fun x H1 s1 dx => ⟨M, m.mono s1, hh.mono (res_mono s1), fun y H2 s2 dy => h M H2 x y _ ((m.mono s1).mono s2) (da.mono (res_mono s2) dx) dy fun v H3 s3 dv => by
    have dv' : Dp X.K _ v (.bool k) := dv
    cases dv'
    refine ⟨k, rfl, ?_⟩
    have s13 := (s1.trans s2).trans s3
    cases k with
    | true => exact iteT ⟨M, m.mono s13, hh.mono (res_mono s13), fun z H4 s4 dz => h' rfl M H4 y z Q ((m.mono s13).mono s4) (db.mono (res_mono (s3.trans s4)) dy) dz fun w H5 s5 dw => q w H5 ((s13.trans s4).trans s5) dw⟩
    | false => exact iteF (q _ H3 s13 (.bl _))⟩⟩
theorem pv_chain {op op' : CmpOp} {r r' : R2} {k l : Bool} (ho : OpR X (compareOp op) r) (ho' : OpR X (compareOp op') r') (ha : PV X a ρ da) (hb : PV X b ρ db) (hc : PV X c ρ dc)
    (h : RD r da db (dat X.K (.bool k))) (h' : k = true → RD r' db dc (dat X.K (.bool l))) (hm : lastMarks [op, op'] [b, c] = false := by with_unfolding_all rfl) : PV X (.Compare a [op, op'] [b, c] pos) ρ (dat X.K (.bool (k && l))) :=
  pe_weak (pe_chain ho ho' ha hb hc hm) (tChain_of h h')
theorem pvt_chain {op op' : CmpOp} {r r' : R2} {k l : Bool} (ho : OpR X (compareOp op) r) (ho' : OpR X (compareOp op') r') (ha : PV X a ρ da) (hb : PV X b ρ db) (hc : PV X c ρ dc)
    (h : RD r da db (dat X.K (.bool k))) (h' : k = true → RD r' db dc (dat X.K (.bool l))) (hm : lastMarks [op, op'] [b, c] = false := by with_unfolding_all rfl) : PVT X (.Compare a [op, op'] [b, c] pos) ρ (k && l) :=
  pt_weak (pt_chain ho ho' ha hb hc hm) fun σ H Q ⟨M, m, hh, q⟩ => tChain_of h h' σ H _ ⟨M, m, hh, fun v H' s' dv => by
    have dv' : Dp X.K _ v (.bool (k && l)) := dv
    cases dv'
    exact ⟨_, rfl, q H' s'⟩⟩

/-! arguments, displays -/
theorem pva_nil : PVA X [] ρ [] := pa_weak pa_nil fun σ H Q ⟨M, m, hh, q⟩ => q [] H (Same.refl H) .nil
theorem pva_cons {es : List Expr} {ds : List Dc} (ha : PV X e ρ d) (hr : PVA X es ρ ds) (hs : starEach (e :: es) X.env = (false, eval e X.env) :: starEach es X.env := by rfl) : PVA X (e :: es) ρ (d :: ds) :=
  pa_weak (pa_cons ha hr hs) fun σ H Q ⟨M, m, hh, q⟩ => ⟨M, m, hh, fun v H1 s1 dv => ⟨M, m.mono s1, hh.mono (res_mono s1), fun vs H2 s2 dvs => q (v :: vs) H2 (s1.trans s2) (.cons (d.mono (res_mono s2) dv) dvs)⟩⟩
theorem dsp_dps {K : PySem.W.Frag} {H : Hp} : ∀ {ds : List PyData} {vs : List V}, DsP H (ds.map (dat K)) vs → DpAll K H vs ds
  | [], _, h => by cases h; exact .nil
  | d :: ds, _, h => by
    have h' : DsP H (dat K d :: ds.map (dat K)) _ := h
    cases h' with
    | cons h1 h2 => exact .cons h1 (dsp_dps h2)
theorem pv_tup {es : List Expr} {ds : List PyData} {x1 : _} (h : PVA X es ρ (ds.map (dat X.K))) (hl : ds.length ≤ 1000 := by simp) : PV X (.Tuple es x1 pos) ρ (dat X.K (.tuple ds)) :=
  pe_weak (pe_tup h) fun σ H Q ⟨M, m, hh, q⟩ => ⟨M, m, hh, fun vs H1 s1 dvs => by
    have l := dsp_dps dvs
    refine ⟨Nat.le_trans (by rw [dps_len l]; exact hl) (by decide), fun p hp => q _ _ (s1.trans (same_upd hp)) (Dp.tup (.inl (.inl (res_upd_at ((m.mono s1).new hp)))) (dps_mono (res_mono (same_upd hp)) _ _ l))⟩⟩
theorem pv_lst {es : List Expr} {ds : List PyData} (h : PVA X es ρ (ds.map (dat X.K))) (hl : ds.length ≤ 1000 := by simp) : PV X (.List es pos) ρ (Ls X.K ds) :=
  pe_weak (pe_lst h) fun σ H Q ⟨M, m, hh, q⟩ => ⟨M, m, hh, fun vs H1 s1 dvs => by
    have l := dsp_dps dvs
    refine ⟨Nat.le_trans (by rw [dps_len l]; exact hl) (by decide), fun p hp => q _ _ (s1.trans (same_upd hp)) ⟨p, vs, rfl, res_upd_at ((m.mono s1).new hp), dps_mono (res_mono (same_upd hp)) _ _ l⟩⟩⟩
/-- (*t, e) -/
theorem pv_tupS {a2 : Expr} {ds : List PyData} {d2 : PyData} {sp : Pos} {x1 : _} (h : PV X a ρ (dat X.K (.tuple ds))) (h2 : PV X a2 ρ (dat X.K d2)) (hl : ds.length ≤ 1000) (hs : starEach (.Starred a sp :: [a2]) X.env = (true, eval a X.env) :: starEach [a2] X.env := by rfl)
    (hs2 : starEach (a2 :: []) X.env = (false, eval a2 X.env) :: starEach [] X.env := by rfl) : PV X (.Tuple [.Starred a sp, a2] x1 pos) ρ (dat X.K (.tuple (ds ++ [d2]))) :=
  pe_weak (pe_tup (StX.pa_star h (pa_cons h2 pa_nil hs2) hs)) fun σ H Q ⟨M, m, hh, q⟩ => ⟨M, m, hh, fun v H1 s1 dv => by
    have dv' : Dp X.K _ v (.tuple ds) := dv
    cases dv' with
    | @tup a xs _ h1 h3 =>
      refine ⟨a, xs, rfl, .inl (same_t (res_le _ _) h1), M, m.mono s1, hh.mono (res_mono s1), fun w H2 s2 dw => ?_⟩
      have hx := dps_len h3
      have l : DpAll X.K (res M H2) (xs ++ [w]) (ds ++ [d2]) := dps_app (dps_mono (res_mono s2) _ _ h3) (.cons dw .nil)
      refine ⟨Nat.le_trans (m := 1001) (by rw [List.length_append, hx]; simp; omega) (by decide), fun p hp => q _ _ ((s1.trans s2).trans (same_upd hp)) (Dp.tup (.inl (.inl (res_upd_at (((m.mono s1).mono s2).new hp)))) (dps_mono (res_mono (same_upd hp)) _ _ l))⟩⟩

/-! calls -/
theorem pv_callB {id : String} {x : Str} {r : List V → Hp → VK → Prop} {es : List Expr} {ds : List Dc} {p : Pos} (hc : CallR X (.builtin id) r) (hg : Gl X x) (hm : X.mg x = none) (hv : bootBuiltins x = some (.builtin id)) (ha : PVA X (e :: es) ρ ds) (h : RC r ds d)
    (hn : x ≠ "__name__" := by decide) (hdb : (x == ("__debug__" : Str)) = false := by decide) (he : starEach (e :: es) X.env = (false, eval e X.env) :: starEach es X.env := by rfl) (hpl : (backTo pos (starEach es X.env)).any (·.1) = false := by rfl) :
    PV X (.Call (.Name x p) (e :: es) [] pos) ρ d := pe_weak (pe_callB hc hg hm hv ha hn hdb he hpl) fun σ H Q ⟨M, m, hh, q⟩ => ⟨M, m, hh, fun vs H1 s1 dvs => h M H1 vs Q (m.mono s1) dvs fun v H' s' dv => q v H' (s1.trans s') dv⟩
theorem pv_callTy {T : String} {x : Str} {r : List V → Hp → VK → Prop} {es : List Expr} {ds : List Dc} {p : Pos} (hc : CallR X (.type T) r) (hg : Gl X x) (hm : X.mg x = none) (hv : bootBuiltins x = some (.type T)) (ha : PVA X (e :: es) ρ ds) (h : RC r ds d)
    (hn : x ≠ "__name__" := by decide) (hdb : (x == ("__debug__" : Str)) = false := by decide) (he : starEach (e :: es) X.env = (false, eval e X.env) :: starEach es X.env := by rfl) (hpl : (backTo pos (starEach es X.env)).any (·.1) = false := by rfl) :
    PV X (.Call (.Name x p) (e :: es) [] pos) ρ d := pe_weak (pe_callTy hc hg hm hv ha hn hdb he hpl) fun σ H Q ⟨M, m, hh, q⟩ => ⟨M, m, hh, fun vs H1 s1 dvs => h M H1 vs Q (m.mono s1) dvs fun v H' s' dv => q v H' (s1.trans s') dv⟩
/-- a promise: arguments of such descriptions give such a value, and nothing that stood is changed -/
def spP (R : List Dc → Dc → Prop) : Sp := fun vs H Q _ => ∃ M ds d, MOk M H ∧ R ds d ∧ DsP (res M H) ds vs ∧ ∀ v H', Same H H' → d.p (res M H') v → Q v H'
theorem pv_call {x : Str} {f : Addr} {fd : FuncData} {ps : List Str} {k : Nat} {R : List Dc → Dc → Prop} {es : List Expr} {ds : List Dc} {p : Pos} (F : FnOk X.prog X.w X.K X.mg X.base CX0 k f fd ps (spP R)) (hr : Room k X.A) (hg : Gl X x) (hm : X.mg x = some (.ref f)) (hk : PySem.W.keepIn X.K (.ref f) = true) (hb : Binds X.K fd ps [])
    (ha : PVA X (e :: es) ρ ds) (h : R ds d) (hdb : (x == ("__debug__" : Str)) = false := by decide) (he : starEach (e :: es) X.env = (false, eval e X.env) :: starEach es X.env := by rfl) (hpl : (backTo pos (starEach es X.env)).any (·.1) = false := by rfl) :
    PV X (.Call (.Name x p) (e :: es) [] pos) ρ d := pe_weak (pe_call F hr hg hm hk hb .nil pass0 ha hdb he hpl) fun σ H Q ⟨M, m, hh, q⟩ => ⟨M, m, hh, fun vs H1 s1 dvs => by
      show spP R (vs ++ []) H1 Q E0
      rw [List.append_nil]
      exact ⟨M, ds, d, m.mono s1, h, dvs, fun v H' s' dv => q v H' (s1.trans s') dv⟩⟩
/-- o.m(e, ..) of a built-in's list, nothing changed -/
def RM (r : V → List V → Hp → VK → Prop) (d0 : Dc) (ds : List Dc) (d : Dc) : Prop := ∀ (M : Addr → Bool) (H : Hp) (x : V) (vs : List V) (Q : VK), MOk M H → d0.p (res M H) x → DsP (res M H) ds vs → (∀ v H', Same H H' → d.p (res M H') v → Q v H') → r x vs H Q
/-- a field -/
def Ob (C : Addr) (fs : List (Str × Dc)) : Dc := ⟨fun H v => ∃ a dx gs, v = .ref a ∧ H a = some (.ins C dx gs) ∧ (∀ f d, (f, d) ∈ fs → ∃ y, gs.lookup f = some y ∧ d.p H y), fun s ⟨a, dx, gs, h1, h2, h3⟩ => ⟨a, dx, gs, h1, s _ _ h2, fun f d hm => by
  obtain ⟨y, e1, e2⟩ := h3 f d hm
  exact ⟨y, e1, d.mono s e2⟩⟩⟩
theorem pv_fld {f : Str} {C : Addr} {fs : List (Str × Dc)} (ha : PV X a ρ (Ob C fs)) (hf : (f, d) ∈ fs) (c : Cls X.K C) (na : NoAttr X.K C f) (hb : attributeBase a f X.env (eval a X.env) = eval a X.env) : PV X (.Attribute a f pos) ρ d :=
  pe_weak (pe_fld ha hb) fun σ H Q ⟨M, m, hh, q⟩ => ⟨M, m, hh, fun v H1 s1 ⟨p, dx, gs, e1, e2, e3⟩ => by
    obtain ⟨y, e4, e5⟩ := e3 f d hf
    exact ⟨p, C, dx, gs, y, e1, res_le _ _ _ _ e2, c, na, e4, q y H1 s1 e5⟩⟩
end
end PX

namespace PX
open PySem PySem.Spec PyProof.Rows L2
section
variable {K : PySem.W.Frag} {X : Cx}
abbrev It' (K : PySem.W.Frag) (i : Int) : Dc := dat K (.int i)
abbrev Bo (K : PySem.W.Frag) (b : Bool) : Dc := dat K (.bool b)
/-! ### operators on whole numbers -/
theorem rd_I0 {f : Int → Int → V} {i j : Int} {d : PyData} (h : ∀ H, Dp K H (f i j) d) : RD (rI0 f) (It' K i) (It' K j) (dat K d) := fun M H x y Q m hx hy q => by
  cases (show Dp K _ x (.int i) from hx)
  cases (show Dp K _ y (.int j) from hy)
  exact ⟨i, j, rfl, rfl, q _ H (Same.refl H) (h _)⟩
theorem rd_I {C : Int → Int → Prop} {f : Int → Int → V} {i j : Int} {d : PyData} (hc : C i j) (h : ∀ H, Dp K H (f i j) d) : RD (rI C f) (It' K i) (It' K j) (dat K d) := fun M H x y Q m hx hy q => by
  cases (show Dp K _ x (.int i) from hx)
  cases (show Dp K _ y (.int j) from hy)
  exact ⟨i, j, rfl, rfl, hc, q _ H (Same.refl H) (h _)⟩
theorem rd_eqB {i j : Bool} : RD rEq (Bo K i) (Bo K j) (Bo K (decide (i = j))) := fun M H x y Q m hx hy q => by
  cases (show Dp K _ x (.bool i) from hx)
  cases (show Dp K _ y (.bool j) from hy)
  refine ⟨rfl, q _ H (Same.refl H) ?_⟩
  have : decide (V.bl i = V.bl j) = decide (i = j) := by simp
  rw [this]
  exact .bl _
theorem rd_neB {i j : Bool} : RD rNe (Bo K i) (Bo K j) (Bo K (!decide (i = j))) := fun M H x y Q m hx hy q => by
  cases (show Dp K _ x (.bool i) from hx)
  cases (show Dp K _ y (.bool j) from hy)
  refine ⟨rfl, q _ H (Same.refl H) ?_⟩
  have : decide (V.bl i = V.bl j) = decide (i = j) := by simp
  rw [this]
  exact .bl _
theorem rd_eqI {i j : Int} : RD rEq (It' K i) (It' K j) (Bo K (decide (i = j))) := fun M H x y Q m hx hy q => by
  cases (show Dp K _ x (.int i) from hx)
  cases (show Dp K _ y (.int j) from hy)
  refine ⟨rfl, q _ H (Same.refl H) ?_⟩
  have : decide (V.int i = V.int j) = decide (i = j) := by simp
  rw [this]
  exact .bl _
theorem rd_neI {i j : Int} : RD rNe (It' K i) (It' K j) (Bo K (!decide (i = j))) := fun M H x y Q m hx hy q => by
  cases (show Dp K _ x (.int i) from hx)
  cases (show Dp K _ y (.int j) from hy)
  refine ⟨rfl, q _ H (Same.refl H) ?_⟩
  have : decide (V.int i = V.int j) = decide (i = j) := by simp
  rw [this]
  exact .bl _
/-- is None -/
theorem rd_isN {k : Bool} {d : Dc} (h : ∀ H v, d.p H v → decide (v = .non) = k) : RD (fun x y H Q => y = .non ∧ Q (.bl (decide (x = .non))) H) d (dat K .none) (Bo K k) := fun M H x y Q m hx hy q => by
  cases (show Dp K _ y .none from hy)
  refine ⟨rfl, q _ H (Same.refl H) ?_⟩
  rw [h _ _ hx]
  exact .bl _
theorem rd_notN {k : Bool} {d : Dc} (h : ∀ H v, d.p H v → decide (v = .non) = k) : RD (fun x y H Q => y = .non ∧ Q (.bl (!decide (x = .non))) H) d (dat K .none) (Bo K (!k)) := fun M H x y Q m hx hy q => by
  cases (show Dp K _ y .none from hy)
  refine ⟨rfl, q _ H (Same.refl H) ?_⟩
  rw [h _ _ hx]
  exact .bl _
theorem ru_neg {i : Int} : RU (rU fun i => .int (-i)) (It' K i) (It' K (-i)) := fun M H x Q m hx q => by
  cases (show Dp K _ x (.int i) from hx)
  exact ⟨i, rfl, q _ H (Same.refl H) (.int _)⟩
/-! ### data compared -/
theorem dp_le {M : Addr → Bool} {H : Hp} {v : V} {d : PyData} (h : Dp K (res M H) v d) : Dp K H v d := dp_mono (res_le M H) _ _ h
theorem rd_eqD {d e : PyData} (sd : SeqAt.shaped d = true) (se : SeqAt.shaped e = true) : RD (rEqD K) (dat K d) (dat K e) (Bo K (PyData.eqv d e)) := fun M H x y Q m hx hy q =>
  ⟨d, e, dp_le hx, dp_le hy, sd, se, q _ H (Same.refl H) (.bl _)⟩
theorem rd_neD {d e : PyData} (sd : SeqAt.shaped d = true) (se : SeqAt.shaped e = true) : RD (rNeD K) (dat K d) (dat K e) (Bo K (!PyData.eqv d e)) := fun M H x y Q m hx hy q =>
  ⟨d, e, dp_le hx, dp_le hy, sd, se, q _ H (Same.refl H) (.bl _)⟩
theorem rd_notInD {d : PyData} {ds : List PyData} (sd : SeqAt.shaped d = true) (se : SeqAt.shaped (.list ds) = true) : RD (rNotInD K) (dat K d) (dat K (.list ds)) (Bo K (!ds.any fun z => PyData.eqv z d)) := fun M H x y Q m hx hy q =>
  ⟨d, ds, dp_le hx, dp_le hy, sd, se, q _ H (Same.refl H) (.bl _)⟩
/-- x in a tuple of whole numbers -/
theorem inV_int {n : Int} : ∀ {ns : List Int}, inV (.int n) (ns.map V.int) = ns.contains n
  | [] => rfl
  | a :: ns => by
    have ih := inV_int (n := n) (ns := ns)
    show (eqV (.int a) (.int n) || inV (.int n) (ns.map V.int)) = (n == a || ns.contains n)
    rw [ih]
    have : eqV (.int a) (.int n) = (n == a) := by
      show (a == n) = (n == a)
      by_cases e : n = a
      · rw [e]
      · have e2 : ¬ a = n := fun h => e h.symm
        rw [beq_eq_false_iff_ne.mpr e, beq_eq_false_iff_ne.mpr e2]
    rw [this]
theorem flat_ints : ∀ ns : List Int, (ns.map V.int).all flatV = true
  | [] => rfl
  | a :: ns => by
    show (flatV (.int a) && (ns.map V.int).all flatV) = true
    rw [flat_ints ns]
    rfl
theorem rd_inT {n : Int} {ns : List Int} : RD (rIn K false) (It' K n) (dat K (.tuple (ns.map .int))) (Bo K (ns.contains n)) := fun M H x y Q m hx hy q => by
  cases (show Dp K _ x (.int n) from hx)
  cases (show Dp K _ y (.tuple (ns.map .int)) from hy) with
  | @tup a xs _ h1 h2 =>
    have e := dps_ints h2
    subst e
    refine ⟨a, _, rfl, .inr (same_t (res_le M H) h1), rfl, flat_ints ns, q _ H (Same.refl H) ?_⟩
    show Dp K _ (.bl (inV (.int n) (ns.map V.int))) _
    rw [inV_int]
    exact .bl _
/-! ### items -/
theorem atI_of {α : Type} {xs : List α} {i : Int} {x : α} (h0 : 0 ≤ i) (h : xs[i.toNat]? = some x) : atI xs i = some x := by
  have l : i.toNat < xs.length := (List.getElem?_eq_some_iff.mp h).1
  unfold atI ixN
  rw [if_pos h0, if_pos (by omega)]
  exact h
theorem atI_neg {α : Type} {xs : List α} {i : Int} {x : α} (h0 : i < 0) (h1 : -(xs.length : Int) ≤ i) (h : xs[(i + xs.length).toNat]? = some x) : atI xs i = some x := by
  unfold atI ixN
  rw [if_neg (by omega), if_pos h1]
  exact h
theorem rd_ixL {ds : List PyData} {i : Int} {d : PyData} (h0 : 0 ≤ i) (h : ds[i.toNat]? = some d) : RD (rIxL K) (Ls K ds) (It' K i) (dat K d) := fun M H x y Q m ⟨a, xs, e1, e2, e3⟩ hy q => by
  cases (show Dp K _ y (.int i) from hy)
  obtain ⟨v, h1, h2⟩ := dps_get e3 h
  exact ⟨a, xs, i, v, e1, rfl, SqL.of (res_le _ _ _ _ e2), atI_of h0 h1, q _ H (Same.refl H) h2⟩
theorem rd_ixLneg {ds : List PyData} {i : Int} {d : PyData} (h0 : i < 0) (h1 : -(ds.length : Int) ≤ i) (h : ds[(i + ds.length).toNat]? = some d) : RD (rIxL K) (Ls K ds) (It' K i) (dat K d) := fun M H x y Q m ⟨a, xs, e1, e2, e3⟩ hy q => by
  cases (show Dp K _ y (.int i) from hy)
  have l := dps_len e3
  obtain ⟨v, h2, h3⟩ := dps_get e3 h
  exact ⟨a, xs, i, v, e1, rfl, SqL.of (res_le _ _ _ _ e2), atI_neg h0 (by rw [l]; exact h1) (by rw [l]; exact h2), q _ H (Same.refl H) h3⟩
theorem rd_ixT {ds : List PyData} {i : Int} {d : PyData} (h0 : 0 ≤ i) (h : ds[i.toNat]? = some d) : RD (rIxT K) (dat K (.tuple ds)) (It' K i) (dat K d) := fun M H x y Q m hx hy q => by
  cases (show Dp K _ y (.int i) from hy)
  cases (show Dp K _ x (.tuple ds) from hx) with
  | @tup a xs _ h1 h2 =>
    obtain ⟨v, h3, h4⟩ := dps_get h2 h
    exact ⟨a, xs, i, v, rfl, rfl, same_t (res_le M H) h1, atI_of h0 h3, q _ H (Same.refl H) h4⟩
/-! ### calls of built-ins -/
theorem rc_lenL {ds : List PyData} : RC (fun xs H Q => ∃ p ys, xs = [.ref p] ∧ (SqL K H p ys ∨ SqT K H p ys) ∧ Q (.int ys.length) H) [Ls K ds] (It' K ds.length) := fun M H vs Q m hv q => by
  cases hv with
  | cons h t =>
    cases t
    obtain ⟨a, xs, e1, e2, e3⟩ := h
    refine ⟨a, xs, by rw [e1], .inl (SqL.of (res_le _ _ _ _ e2)), q _ H (Same.refl H) ?_⟩
    rw [dps_len e3]
    exact .int _
theorem rc_lenT {ds : List PyData} : RC (fun xs H Q => ∃ p ys, xs = [.ref p] ∧ (SqL K H p ys ∨ SqT K H p ys) ∧ Q (.int ys.length) H) [dat K (.tuple ds)] (It' K ds.length) := fun M H vs Q m hv q => by
  cases hv with
  | @cons _ _ v _ h t =>
    cases t
    cases (show Dp K _ v (.tuple ds) from h) with
    | @tup a xs _ h1 h2 =>
      refine ⟨a, xs, rfl, .inr (same_t (res_le M H) h1), q _ H (Same.refl H) ?_⟩
      rw [dps_len h2]
      exact .int _
theorem rc_sum {ns : List Int} : RC (rSum K) [Ls K (ns.map .int)] (It' K ns.sum) := fun M H vs Q m hv q => by
  cases hv with
  | cons h t =>
    cases t
    obtain ⟨a, xs, e1, e2, e3⟩ := h
    have e := dps_ints e3
    subst e
    exact ⟨a, ns, by rw [e1], SqL.of (res_le _ _ _ _ e2), q _ H (Same.refl H) (.int _)⟩
theorem rc_max {ns : List Int} (hn : ns ≠ []) : RC (rMax K) [Ls K (ns.map .int)] (It' K (ns.max?.getD 0)) := fun M H vs Q m hv q => by
  cases hv with
  | cons h t =>
    cases t
    obtain ⟨a, xs, e1, e2, e3⟩ := h
    have e := dps_ints e3
    subst e
    refine ⟨a, ns, by rw [e1], SqL.of (res_le _ _ _ _ e2), List.length_pos_iff.mpr hn, fun k hk hle => q _ H (Same.refl H) ?_⟩
    have : ns.max? = some k := List.max?_eq_some_iff.mpr ⟨hk, hle⟩
    rw [this]
    exact .int _
theorem rc_min {ns : List Int} (hn : ns ≠ []) : RC (rMin K) [Ls K (ns.map .int)] (It' K (ns.min?.getD 0)) := fun M H vs Q m hv q => by
  cases hv with
  | cons h t =>
    cases t
    obtain ⟨a, xs, e1, e2, e3⟩ := h
    have e := dps_ints e3
    subst e
    refine ⟨a, ns, by rw [e1], SqL.of (res_le _ _ _ _ e2), List.length_pos_iff.mpr hn, fun k hk hle => q _ H (Same.refl H) ?_⟩
    have : ns.min? = some k := List.min?_eq_some_iff.mpr ⟨hk, hle⟩
    rw [this]
    exact .int _
theorem rc_all {bs : List Bool} : RC (rAll K) [Ls K (bs.map .bool)] (Bo K (bs.all id)) := fun M H vs Q m hv q => by
  cases hv with
  | cons h t =>
    cases t
    obtain ⟨a, xs, e1, e2, e3⟩ := h
    have e := dps_bools e3
    subst e
    exact ⟨a, bs, by rw [e1], SqL.of (res_le _ _ _ _ e2), q _ H (Same.refl H) (.bl _)⟩
theorem rc_max2 {i j : Int} : RC (fun xs H Q => ∃ i j, xs = [.int i, .int j] ∧ Q (.int (if j > i then j else i)) H) [It' K i, It' K j] (It' K (max i j)) := fun M H vs Q m hv q => by
  cases hv with
  | cons h t =>
    cases t with
    | cons h2 t =>
      cases t
      cases h
      cases h2
      have e : max i j = if j > i then j else i := by
        split <;> omega
      rw [e] at q
      exact ⟨i, j, rfl, q _ H (Same.refl H) (.int _)⟩
theorem rc_min2 {i j : Int} : RC (fun xs H Q => ∃ i j, xs = [.int i, .int j] ∧ Q (.int (if j < i then j else i)) H) [It' K i, It' K j] (It' K (min i j)) := fun M H vs Q m hv q => by
  cases hv with
  | cons h t =>
    cases t with
    | cons h2 t =>
      cases t
      cases h
      cases h2
      have e : min i j = if j < i then j else i := by
        split <;> omega
      rw [e] at q
      exact ⟨i, j, rfl, q _ H (Same.refl H) (.int _)⟩
theorem rc_int {i : Int} : RC (fun xs H Q => (∃ i, xs = [.int i] ∧ Q (.int i) H) ∨ ∃ k, xs = [.bl k] ∧ Q (.int (if k then 1 else 0)) H) [It' K i] (It' K i) := fun M H vs Q m hv q => by
  cases hv with
  | cons h t =>
    cases t
    cases h
    exact .inl ⟨i, rfl, q _ H (Same.refl H) (.int _)⟩
/-- tuple(l), a list -/
theorem rc_tuple {ds : List PyData} : RC (fun xs H Q => ∃ p ys, xs = [.ref p] ∧ ((SqL K H p ys ∧ ∀ l, H l = none → Q (.ref l) (upd H l (.tup ys))) ∨ (SqT K H p ys ∧ Q (.ref p) H))) [Ls K ds] (dat K (.tuple ds)) := fun M H vs Q m hv q => by
  cases hv with
  | cons h t =>
    cases t
    obtain ⟨a, xs, e1, e2, e3⟩ := h
    exact ⟨a, xs, by rw [e1], .inl ⟨SqL.of (res_le _ _ _ _ e2), fun l hl => q _ _ (same_upd hl) (Dp.tup (.inl (.inl (res_upd_at (m.new hl)))) (dps_mono (res_mono (same_upd hl)) _ _ e3))⟩⟩
/-- list(t), a tuple -/
theorem rc_list {ds : List PyData} : RC (fun xs H Q => ∃ p ys, xs = [.ref p] ∧ (SqL K H p ys ∨ SqT K H p ys) ∧ ∀ l, H l = none → Q (.ref l) (upd H l (.lst ys))) [dat K (.tuple ds)] (Ls K ds) := fun M H vs Q m hv q => by
  cases hv with
  | @cons _ _ v _ h t =>
    cases t
    cases (show Dp K _ v (.tuple ds) from h) with
    | @tup a xs _ h1 h2 =>
      exact ⟨a, xs, rfl, .inr (same_t (res_le M H) h1), fun l hl => q _ _ (same_upd hl) ⟨l, xs, rfl, res_upd_at (m.new hl), dps_mono (res_mono (same_upd hl)) _ _ h2⟩⟩
/-- sorted(l), whole numbers, few -/
theorem rc_sorted {ns : List Int} {ms : List Int} (hl : ns.length < 64) (hu : ∀ ys : List Int, ys.Perm ns → ys.Pairwise (· ≤ ·) → ys = ms) : RC (rSorted K) [Ls K (ns.map .int)] (Ls K (ms.map .int)) := fun M H vs Q m hv q => by
  cases hv with
  | cons h t =>
    cases t
    obtain ⟨a, xs, e1, e2, e3⟩ := h
    have e := dps_ints e3
    subst e
    refine ⟨a, ns, by rw [e1], SqL.of (res_le _ _ _ _ e2), hl, ?_⟩
    intro ys p hp hs hn
    have e := hu ys hp hs
    subst e
    refine q _ _ (same_upd hn) ⟨p, _, rfl, res_upd_at (m.new hn), ?_⟩
    have : ∀ ns : List Int, DpAll K (res M (upd H p (.lst (ys.map V.int)))) (ns.map V.int) (ns.map .int) := fun ns => by
      induction ns with
      | nil => exact .nil
      | cons n ns ih => exact .cons (.int n) ih
    exact this ys
/-! ### isinstance -/
theorem rc_isi {d : Dc} {c : V} {u t : Value} {b : Bool} (k : ClsV c u) (ty : ∀ (M : Addr → Bool) H v, d.p (res M H) v → TyX K H v t) (e : PySem.W.kitOne K t u = some b) : RC (rIsi K) [d, Vl c] (Bo K b) := fun M H vs Q m hv q => by
  cases hv with
  | cons h t =>
    cases t with
    | cons h2 t =>
      cases t
      cases h2
      exact ⟨_, _, _, u, b, rfl, k, ty M H _ h, e, q _ H (Same.refl H) (.bl _)⟩
theorem ty_int {i : Int} : ∀ (M : Addr → Bool) H v, (It' K i).p (res M H) v → TyX K H v (.type "int") := fun M H v h => by
  cases (show Dp K _ v (.int i) from h)
  exact .base (.int _)
theorem ty_bool {i : Bool} : ∀ (M : Addr → Bool) H v, (Bo K i).p (res M H) v → TyX K H v (.type "bool") := fun M H v h => by
  cases (show Dp K _ v (.bool i) from h)
  exact .base (.bl _)
theorem sqT_ty {H : Hp} {a : Addr} {xs : List V} (h : SqT K H a xs) : TyX K H (.ref a) (.type "tuple") := by
  rcases h with (h | ⟨o, h⟩) | h
  · exact .base (.tup h)
  · exact .fTuple h
  · obtain ⟨o, its, n, e, c, _⟩ := h
    exact .kTuple e c
theorem ty_tup {ds : List PyData} : ∀ (M : Addr → Bool) H v, (dat K (.tuple ds)).p (res M H) v → TyX K H v (.type "tuple") := fun M H v h => by
  cases (show Dp K _ v (.tuple ds) from h) with
  | tup h1 h2 => exact sqT_ty (same_t (res_le M H) h1)
theorem ty_none : ∀ (M : Addr → Bool) H v, (dat K .none).p (res M H) v → TyX K H v (.type "NoneType") := fun M H v h => by
  cases (show Dp K _ v .none from h)
  exact .base .non
end
end PX

namespace PX
open PySem PySem.Spec PyProof.Rows L2
/-! ### what is walked -/
/-- from F on: so many turns, each gives what is said of it -/
def WalkD (J : It) (F : Hp) (els : List Dc) : Prop := ∀ H, Same F H → (∀ i, i < els.length → J.go i H) ∧ J.stop els.length H ∧
  ∀ i x H' d, els[i]? = some d → J.yld i H x H' → Same H H' ∧ ∀ M', MOk M' H → Same F (res M' H) → d.p (res M' H') x
def tI (ρ : DE) (els : List Dc) : TI := fun σ H R => ∃ M, MOk M H ∧ Holds ρ σ (res M H) ∧ ∀ J H1, Same H H1 → WalkD J (res M H1) els → R J H1
abbrev IT (X : Cx) (tg iter : Expr) (ρ : DE) (els : List Dc) : Prop := PI X tg iter (tI ρ els)
section
variable {X : Cx} {tg iter l a b : Expr} {ρ : DE} {p pos : Pos} {els : List Dc}
theorem pi_weak {w u : TI} (h : PI X tg iter w) (k : ∀ σ H R, u σ H R → w σ H R) : PI X tg iter u := ⟨fun pins s σ H R I q => h.run pins s σ H R I (k σ H R q)⟩
theorem walkd_seq {K : PySem.W.Frag} {J : It} {F : Hp} {xs : List V} {ds : List PyData} {G : Hp → Prop} (w : Walk J xs.length G (YAt xs)) (g : ∀ H, Same F H → G H) (h : DpAll K F xs ds) : WalkD J F (ds.map (dat K)) := fun H s => by
  have l : (ds.map (dat K)).length = xs.length := by rw [List.length_map, dps_len h]
  rw [l]
  refine ⟨fun i hi => w.goes i H hi (g H s), w.stops H (g H s), fun i x H' d hd y => ?_⟩
  have hi : i < xs.length := by rw [← l]; exact (List.getElem?_eq_some_iff.mp hd).1
  obtain ⟨rfl, hx⟩ := w.yields i H x H' hi (g H s) y
  refine ⟨Same.refl _, fun M' _ s' => ?_⟩
  rw [List.getElem?_map] at hd
  cases e : ds[i]? with
  | none => rw [e] at hd; cases hd
  | some z =>
    rw [e] at hd
    cases hd
    obtain ⟨x', h1, h2⟩ := dps_get h e
    rw [hx] at h1
    cases h1
    exact dp_mono s' _ _ h2
theorem it_list {ds : List PyData} (h : PV X l ρ (Ls X.K ds)) : IT X tg l ρ (ds.map (dat X.K)) := pi_weak (pi_list h) fun σ H R ⟨M, m, hh, q⟩ => ⟨M, m, hh, fun x H1 s1 ⟨a, xs, e1, e2, e3⟩ =>
  ⟨a, e1, ⟨xs, SqL.of (res_le _ _ _ _ e2)⟩, q _ H1 s1 (walkd_seq walk_list (fun H s => SqL.of (s _ _ e2)) e3)⟩⟩
theorem it_tup {ds : List PyData} (h : PV X l ρ (dat X.K (.tuple ds))) : IT X tg l ρ (ds.map (dat X.K)) := pi_weak (pi_tup h) fun σ H R ⟨M, m, hh, q⟩ => ⟨M, m, hh, fun x H1 s1 hx => by
  cases (show Dp X.K _ x (.tuple ds) from hx) with
  | @tup a xs _ h1 h2 => exact ⟨a, rfl, ⟨xs, same_t (res_le M H1) h1⟩, q _ H1 s1 (walkd_seq walk_tup (fun H s => same_t s h1) h2)⟩⟩
theorem walkd_range {K : PySem.W.Frag} {F : Hp} {lo : Int} {n : Nat} : WalkD (Itr lo n) F ((List.range n).map fun (k : Nat) => It' K (lo + (k : Int))) := fun H s => by
  rw [List.length_map, List.length_range]
  refine ⟨fun i hi => hi, Nat.le_refl _, fun i x H' d hd y => ?_⟩
  obtain ⟨rfl, rfl⟩ := y
  refine ⟨Same.refl _, fun M' _ _ => ?_⟩
  have hi : i < n := by
    have := (List.getElem?_eq_some_iff.mp hd).1
    simpa using this
  rw [List.getElem?_map] at hd
  rw [List.getElem?_range hi] at hd
  cases hd
  exact Dp.int _
theorem it_range1 {n : Int} (hg : Gl X "range") (hm : X.mg "range" = none) (h : PV X a ρ (It' X.K n)) (hn : n ≤ 100000000 ∧ -100000000 ≤ n := by omega) (hs : starEach [a] X.env = [(false, eval a X.env)] := by rfl) (hs2 : starEach (a :: []) X.env = (false, eval a X.env) :: starEach [] X.env := by rfl) :
    IT X tg (.Call (.Name "range" p) [a] [] pos) ρ ((List.range n.toNat).map fun (k : Nat) => It' X.K (0 + (k : Int))) := pi_weak (pi_range1 hg hm (pva_cons h pva_nil hs2) hs) fun σ H R ⟨M, m, hh, q⟩ => ⟨M, m, hh, fun vs H1 s1 dvs => by
      cases dvs with
      | cons d t =>
        cases t
        cases d
        exact ⟨n, rfl, by omega, by omega, q _ H1 s1 walkd_range⟩⟩
theorem it_range2 {lo n : Int} (hg : Gl X "range") (hm : X.mg "range" = none) (h : PV X a ρ (It' X.K lo)) (h2 : PV X b ρ (It' X.K n)) (hn : n ≤ 100000000 ∧ -100000000 ≤ n ∧ lo ≤ 100000000 ∧ -100000000 ≤ lo := by omega)
    (hs : starEach [a, b] X.env = [(false, eval a X.env), (false, eval b X.env)] := by rfl) (hs2 : starEach [b] X.env = [(false, eval b X.env)] := by rfl) (hs3 : starEach (a :: [b]) X.env = (false, eval a X.env) :: starEach [b] X.env := by rfl) (hs4 : starEach (b :: []) X.env = (false, eval b X.env) :: starEach [] X.env := by rfl) :
    IT X tg (.Call (.Name "range" p) [a, b] [] pos) ρ ((List.range (n - lo).toNat).map fun (k : Nat) => It' X.K (lo + (k : Int))) := pi_weak (pi_range2 hg hm (pva_cons h (pva_cons h2 pva_nil hs4) hs3) hs hs2) fun σ H R ⟨M, m, hh, q⟩ => ⟨M, m, hh, fun vs H1 s1 dvs => by
      cases dvs with
      | cons d t =>
        cases t with
        | cons d2 t =>
          cases t
          cases d
          cases d2
          exact ⟨lo, n, rfl, by omega, q _ H1 s1 walkd_range⟩⟩
theorem walkd_zip {K : PySem.W.Frag} {F : Hp} {a b : Addr} {xs ys : List V} {ds es : List PyData} (hl : ds.length = es.length) (h1 : SqT K F a xs) (h2 : DpAll K F xs ds) (h3 : SqT K F b ys) (h4 : DpAll K F ys es) :
    WalkD (RZ.ItzT K a b) F ((ds.zip es).map fun z => Tp K (dat K z.1) (dat K z.2)) := fun H s => by
  have l1 := dps_len h2
  have l2 := dps_len h4
  have hn : ((ds.zip es).map fun z => Tp K (dat K z.1) (dat K z.2)).length = ds.length := by simp [hl]
  rw [hn]
  refine ⟨fun i hi => ⟨xs, ys, xs[i]'(by omega), ys[i]'(by omega), same_t s h1, same_t s h3, List.getElem?_eq_getElem _, List.getElem?_eq_getElem _⟩, ⟨xs, ys, same_t s h1, same_t s h3, .inl (by omega)⟩, fun i x H' d hd y => ?_⟩
  obtain ⟨T, u, v, rfl, hT, rfl, y1, y2⟩ := y
  refine ⟨same_upd hT, fun M' m' s' => ?_⟩
  have hi : i < ds.length := by
    have := (List.getElem?_eq_some_iff.mp hd).1
    rwa [hn] at this
  have e1 : ds[i]? = some ds[i] := List.getElem?_eq_getElem hi
  have e2 : es[i]? = some (es[i]'(by omega)) := List.getElem?_eq_getElem (by omega)
  have ez : (ds.zip es)[i]? = some (ds[i], es[i]'(by omega)) := List.getElem?_zip_eq_some.mpr ⟨e1, e2⟩
  rw [List.getElem?_map, ez] at hd
  cases hd
  obtain ⟨u', q1, q2⟩ := dps_get h2 e1
  obtain ⟨v', q3, q4⟩ := dps_get h4 e2
  have eu := (y1 xs (same_t s h1)).symm.trans q1
  have ev := (y2 ys (same_t s h3)).symm.trans q3
  cases eu
  cases ev
  have su : Same (res M' H) (res M' (upd H T (.tup [u, v]))) := res_mono (same_upd hT)
  exact ⟨T, u, v, rfl, .inl (.inl (res_upd_at (m'.new hT))), dp_mono (s'.trans su) _ _ q2, dp_mono (s'.trans su) _ _ q4⟩
theorem it_zip {ds es : List PyData} {elts : List Expr} {kk : _} {tpos : Pos} (hg : Gl X "zip") (hm : X.mg "zip" = none) (h : PV X a ρ (dat X.K (.tuple ds))) (h2 : PV X b ρ (dat X.K (.tuple es))) (hl : ds.length = es.length)
    (hs : starEach [a, b] X.env = (false, eval a X.env) :: starEach [b] X.env := by rfl) (hpl : (backTo pos (starEach [b] X.env)).any (·.1) = false := by rfl) (hs4 : starEach (b :: []) X.env = (false, eval b X.env) :: starEach [] X.env := by rfl) :
    IT X (.Tuple elts kk tpos) (.Call (.Name "zip" p) [a, b] [] pos) ρ ((ds.zip es).map fun z => Tp X.K (dat X.K z.1) (dat X.K z.2)) := pi_weak (RZ.pi_zipA hg hm (pva_cons h (pva_cons h2 pva_nil hs4) hs) hs hpl) fun σ H R ⟨M, m, hh, q⟩ => ⟨M, m, hh, fun vs H1 s1 dvs => by
      cases dvs with
      | @cons _ _ x _ d t =>
        cases t with
        | @cons _ _ y _ d2 t =>
          cases t
          cases (show Dp X.K _ x (.tuple ds) from d) with
          | @tup a' xs _ h1 h3 =>
            cases (show Dp X.K _ y (.tuple es) from d2) with
            | @tup b' ys _ h4 h5 => exact ⟨a', b', xs, ys, rfl, .inr ⟨same_t (res_le M H1) h1, same_t (res_le M H1) h4, q _ H1 s1 (walkd_zip hl h1 h3 h4 h5)⟩⟩⟩
/-! ### enumerate of a tuple -/
section
set_option maxHeartbeats 1000000 in
theorem en_new {v : Value} {o : Obj} {Hq : Heap → Prop} (B : Begins v o Hq) :
    Meets (Builtin.«enumerate.__new__» ⟨[.type "enumerate", v], []⟩) (fun _ R s => Hq s.heap ∧
      R (.ok (.ret (.ref (s.heap.push o).objs.size))) { s with heap := (s.heap.push o).push { cls := .type "enumerate", data := .fields #[.none, .bool false, .ref s.heap.objs.size, rawInt 0, .none, .none] } }) :=
  .of_wp fun prog w A R s h0 => by
    obtain ⟨hp, g, d, tk, os⟩ := s
    obtain ⟨h1, h⟩ := h0
    have hsub := sub_enumerate
    have it1 : ∀ {A2 : Around} {E2 : Value → Shared → Prop} {Q2 : Value → Shared → Prop}, Q2 (.ref hp.objs.size) ⟨hp.push o, g, d, tk, os⟩ → wpAny (model prog w) A2 (pyIter v) Q2 E2 ⟨hp, g, d, tk, os⟩ := fun q => B.iter prog w _ _ ⟨hp, g, d, tk, os⟩ _ h1 q
    wp_walk using it1
    refine wpAny_stack_any fun st => wpAny_pure ?_
    split
    · rename_i c _ _ _ _ _
      cases (c == Value.type "enumerate") <;> (wp_walk using it1; exact ⟨_, rfl, h⟩)
    · wp_walk using it1
      exact ⟨_, rfl, h⟩
end
theorem en_call {prog : Program} {w : World} {A : Around} {E : Value → Shared → Prop} {s : Shared} {v : Value} {o : Obj} {Hq : Heap → Prop} {Q : Value → Shared → Prop} (B : Begins v o Hq) (h1 : Hq s.heap)
    (k : ∀ h', IsEnum h' (s.heap.objs.size + 1) s.heap.objs.size 0 .none → h'.get? s.heap.objs.size = some o → (∀ c u, s.heap.get? c = some u → h'.get? c = some u) → Q (.ref (s.heap.objs.size + 1)) { s with heap := h' }) :
    wpAny (model prog w) A (call (.type "enumerate") [v]) Q E s := by
  refine callType_new F.called_enumerate (by decide) (F.typeCall_enumerate_1 _) (F.newCall_enumerate_1 _) (fun ob => F.args_object_init_2 ob _) F.entry_enumerate_new (en_new B) ⟨h1, ?_⟩
  have sz : (s.heap.push o).objs.size = s.heap.objs.size + 1 := Heap.size_push ..
  show _ ∧ _
  rw [sz]
  generalize eo : ({ cls := .type "enumerate", data := .fields #[.none, .bool false, .ref s.heap.objs.size, rawInt 0, .none, .none] } : Obj) = oe
  have nf : oe.isFreed = false := by rw [← eo]; rfl
  have g1 : ((s.heap.push o).push oe).get? (s.heap.objs.size + 1) = some oe := by
    rw [← sz]
    exact Heap.get?_push_size _ nf
  have he : IsEnum ((s.heap.push o).push oe) (s.heap.objs.size + 1) s.heap.objs.size 0 .none := by rw [← eo] at g1 ⊢; exact g1
  exact ⟨⟨_, he, rfl⟩, k _ he (Heap.get?_push_of_some _ (Heap.get?_push_size _ B.free)) fun c u e => Heap.get?_push_of_some _ (Heap.get?_push_of_some _ e)⟩
/-- the tuple at a, each item in a new pair behind its place -/
def Itet (K : PySem.W.Frag) (a : Addr) : It :=
  ⟨fun i H => ∃ (xs : List V) (x : V), SqT K H a xs ∧ xs[i]? = some x, fun i H v H' => ∃ T x, v = .ref T ∧ H T = none ∧ H' = upd H T (.tup [.int (i : Nat), x]) ∧ ∀ xs, SqT K H a xs → xs[i]? = some x, fun i H => ∃ xs : List V, SqT K H a xs ∧ xs.length = i⟩
theorem turn_et {P : Program} {w : World} {K : PySem.W.Frag} {elts : List Expr} {kk : _} {tpos : Pos} (a e it : Addr) (hae : a ≠ e) (hai : a ≠ it) :
    Turn P w K (.Tuple elts kk tpos) (Itet K a) [e, it] e (fun i h => (∃ old, IsEnum h e it ((i : Nat) : Int) old) ∧ h.IsTupleIter it a i ∧ e ≠ it) where
  mem := by simp
  obj := fun i h ⟨⟨old, he⟩, ⟨o, ho, hc, hd⟩, _⟩ b hb => by
    have z : b = e ∨ b = it := by simpa using hb
    rcases z with rfl | rfl
    · exact ⟨_, he, fun v q => nomatch q⟩
    · exact ⟨o, ho, fun v q => by rw [hd] at q; cases q⟩
  keep := fun i h h' ⟨⟨old, he⟩, hi, hne⟩ k => ⟨⟨old, k e (by simp) _ he⟩, hi.at fun o q => k it (by simp) o q, hne⟩
  item := by
    intro X hP hw hK hc i pins s σ H E I hf st hg
    subst hP hw hK
    obtain ⟨⟨old, he⟩, hit, hne⟩ := st
    obtain ⟨xs, x, hq, hx⟩ := hg
    obtain ⟨its, rv, p, hz⟩ := I.tuple hq
    obtain ⟨u, hu, ru⟩ := rv.get hx
    have hel : e < s.heap.objs.size := Heap.lt_size he
    have hil : it < s.heap.objs.size := by obtain ⟨_, q, _⟩ := hit; exact Heap.lt_size q
    have D : Draws X.prog X.w X.A.in1 it [it, a] its.toArray.size (fun i v => its.toArray[i]? = some v) (fun i h => h.IsTupleIter it a i ∧ h.IsTuple a its.toArray) := Draws.tuple (show X.A.in1.handled = none from I.ok.hd hc) it a hai its.toArray
    have hin : i < its.toArray.size := by
      have := (List.getElem?_eq_some_iff.mp hu).1
      simpa using this
    refine wpAny_pyNext_enum_itemD D he ⟨hit, p⟩ hin hne (by simp; exact ⟨hne, fun z => hae z.symm⟩) fun y h' tk hy ho hst' hT hsz hk => ?_
    have hyu : y = u := by
      have e1 : its.toArray[i]? = some u := by simpa using hu
      rw [e1] at hy
      exact (Option.some.inj hy).symm
    subst hyu
    refine ⟨_, rfl, wpAny_letOwnedTupleGo_enum (s := { s with heap := h', toks := tk + 1 }) ho fun h'' he' sb => ?_⟩
    have hT2 : h''.get? s.heap.objs.size = some { cls := .type "tuple", data := .seq #[.int i tk, y] } := (sb.2 _ (Nat.ne_of_gt hel)).trans hT
    have new : ObjOk X.prog X.w (upd H s.heap.objs.size (.tup [.int (i : Nat), x])) h'' s.heap.objs.size (.tup [.int (i : Nat), x]) := ⟨by show 2 ≤ sizeLine; decide, [.int i tk, y], .cons ⟨_, rfl⟩ (.cons ru .nil), ⟨_, hT2, rfl, _, rfl⟩⟩
    have I1 : Inv X pins σ (upd H s.heap.objs.size (.tup [.int (i : Nat), x])) { s with heap := h'', toks := tk + 1 } :=
      I.turnedNew (ch := [e, it]) (fun b ob hb q => (sb.2 b (fun z => hb (by simp [z]))).trans (hk b ob (fun z => hb (by simp [z])) (fun z => hb (by simp [z])) q)) hf (Nat.le_refl _) new
    refine ⟨.ref s.heap.objs.size, _, I1, rfl, ⟨_, x, rfl, I.hok.fresh (Nat.le_refl _), rfl, fun ys hy => by rw [I.tuple_inj hy hq]; exact hx⟩, ⟨⟨y, ?_⟩, hst'.1.at fun o q => (sb.2 it (Ne.symm hne)).trans q, hne⟩, fun b hb => ?_⟩
    · have e1 : ((i + 1 : Nat) : Int) = (i : Int) + 1 := by omega
      rw [e1]
      exact he'
    · have hlt : b < s.heap.objs.size := by
        have z : b = e ∨ b = it := by simpa using hb
        rcases z with rfl | rfl
        · exact hel
        · exact hil
      rw [upd_ne (Nat.ne_of_lt hlt)]
      exact (hf b hb).1
  done := by
    intro X hP hw hK hc i pins s σ H E I hf st hg
    subst hP hw hK
    obtain ⟨⟨old, he⟩, hit, hne⟩ := st
    obtain ⟨xs, hq, hx⟩ := hg
    obtain ⟨its, rv, p, hz⟩ := I.tuple hq
    obtain ⟨f0, f1, f2, f3, f4, f5⟩ := hf it (by simp)
    have hl := rv.length
    have D : Draws X.prog X.w X.A.in1 it [it, a] its.toArray.size (fun i v => its.toArray[i]? = some v) (fun i h => h.IsTupleIter it a i ∧ h.IsTuple a its.toArray) := Draws.tuple (show X.A.in1.handled = none from I.ok.hd hc) it a hai its.toArray
    have hi : its.toArray.size = i := by
      rw [List.size_toArray]
      omega
    exact wpAny_pyNext_enum_endD D he (by rw [hi]; exact ⟨hit, p⟩) fun h' eb => ⟨rfl, I.turned (t' := s.toks) (fun b o hb q => eb b o hb q) f0 f1 f3 f4 f5⟩
  self := fun A i s Q E ⟨⟨_, he⟩, _⟩ h => wpAny_pyIter_enum he h
def iEnT (K : PySem.W.Frag) (ta : TA) : TI := fun σ H R => ta σ H fun vs H1 => ∃ a xs, vs = [.ref a] ∧ SqT K H1 a xs ∧ R (Itet K a) H1
theorem pi_enT {e : Expr} {ta : TA} {elts : List Expr} {kk : _} {tpos : Pos} (hg : Gl X "enumerate") (hm : X.mg "enumerate" = none) (ha : PA X [e] ta) (hs : starEach [e] X.env = [(false, eval e X.env)] := by rfl) :
    PI X (.Tuple elts kk tpos) (.Call (.Name "enumerate" p) [e] [] pos) (iEnT X.K ta) := by
  refine ⟨fun pins s σ H R I h => ?_⟩
  refine Call_ (ld_blt I hg hm boot_enumerate (PyProof.Rows.callWith_type1 (thn (ha.run pos pins s σ H _ I h) fun us s1 ⟨vs, H1, I1, r1, q1⟩ => ?_) hs rfl))
  obtain ⟨t0, xs, rfl, hq, q⟩ := q1
  cases r1 with
  | cons r rr =>
    cases rr
    cases r
    obtain ⟨its, rv, pt, hz⟩ := I1.tuple hq
    have tl : t0 < s1.heap.objs.size := pt.lt
    refine en_call (begins_tuple t0 its.toArray) (show s1.heap.IsTuple t0 its.toArray from pt) fun h' he hit hk => wpAny_pyIter_enum he ?_
    have I2 : Inv X pins σ H1 { s1 with heap := h' } := I1.kept (t' := s1.toks) hk
    refine ⟨s1.heap.objs.size + 1, [s1.heap.objs.size + 1, s1.heap.objs.size], _, _, H1, rfl, I2, turn_et t0 (s1.heap.objs.size + 1) s1.heap.objs.size (Nat.ne_of_lt (Nat.lt_succ_of_lt tl)) (Nat.ne_of_lt tl), ⟨⟨.none, he⟩, ⟨_, hit, rfl, rfl⟩, Nat.succ_ne_self _⟩, fun b hb => ?_, q⟩
    have hle : s1.heap.objs.size ≤ b := by
      have z : b = s1.heap.objs.size + 1 ∨ b = s1.heap.objs.size := by simpa using hb
      rcases z with rfl | rfl
      · exact Nat.le_succ _
      · exact Nat.le_refl _
    exact I1.fpOk hle (I1.hok.fresh hle)
theorem walkd_en {K : PySem.W.Frag} {F : Hp} {a : Addr} {xs : List V} {ds : List PyData} (h1 : SqT K F a xs) (h2 : DpAll K F xs ds) :
    WalkD (Itet K a) F (ds.zipIdx.map fun z => Tp K (It' K (z.2 : Nat)) (dat K z.1)) := fun H s => by
  have l1 := dps_len h2
  have hn : (ds.zipIdx.map fun z => Tp K (It' K (z.2 : Nat)) (dat K z.1)).length = ds.length := by simp
  rw [hn]
  refine ⟨fun i hi => ⟨xs, xs[i]'(by omega), same_t s h1, List.getElem?_eq_getElem _⟩, ⟨xs, same_t s h1, l1⟩, fun i x H' d hd y => ?_⟩
  obtain ⟨T, u, rfl, hT, rfl, y1⟩ := y
  refine ⟨same_upd hT, fun M' m' s' => ?_⟩
  have hi : i < ds.length := by
    have := (List.getElem?_eq_some_iff.mp hd).1
    rwa [hn] at this
  have e1 : ds[i]? = some ds[i] := List.getElem?_eq_getElem hi
  have ez : ds.zipIdx[i]? = some (ds[i], i) := by simp [e1]
  rw [List.getElem?_map, ez] at hd
  cases hd
  obtain ⟨u', q1, q2⟩ := dps_get h2 e1
  have eu := (y1 xs (same_t s h1)).symm.trans q1
  cases eu
  have su : Same (res M' H) (res M' (upd H T (.tup [.int (i : Nat), u]))) := res_mono (same_upd hT)
  exact ⟨T, .int (i : Nat), u, rfl, .inl (.inl (res_upd_at (m'.new hT))), Dp.int _, dp_mono (s'.trans su) _ _ q2⟩
theorem it_enum {ds : List PyData} {elts : List Expr} {kk : _} {tpos : Pos} (hg : Gl X "enumerate") (hm : X.mg "enumerate" = none) (h : PV X a ρ (dat X.K (.tuple ds))) (hs : starEach [a] X.env = [(false, eval a X.env)] := by rfl) (hs2 : starEach (a :: []) X.env = (false, eval a X.env) :: starEach [] X.env := by rfl) :
    IT X (.Tuple elts kk tpos) (.Call (.Name "enumerate" p) [a] [] pos) ρ (ds.zipIdx.map fun z => Tp X.K (It' X.K (z.2 : Nat)) (dat X.K z.1)) := pi_weak (pi_enT hg hm (pva_cons h pva_nil hs2) hs) fun σ H R ⟨M, m, hh, q⟩ => ⟨M, m, hh, fun vs H1 s1 dvs => by
      cases dvs with
      | @cons _ _ x _ d t =>
        cases t
        cases (show Dp X.K _ x (.tuple ds) from d) with
        | @tup a' xs _ h1 h3 => exact ⟨a', xs, rfl, same_t (res_le M H1) h1, q _ H1 s1 (walkd_en h1 h3)⟩⟩
end
end PX

namespace PX
open PySem PySem.Spec PyProof.Rows L2
/-! ### targets -/
/-- the slots but these are as they were -/
def Agree (js : List Nat) (σ σ' : L2.St) : Prop := σ'.length = σ.length ∧ ∀ j, j ∉ js → σ'[j]? = σ[j]?
theorem Agree.set {j : Nat} {σ : L2.St} {v : Option V} : Agree [j] σ (σ.set j v) := ⟨List.length_set, fun i hi => List.getElem?_set_ne (by simpa [eq_comm] using hi)⟩
theorem Agree.trans {js ks : List Nat} {σ σ1 σ2 : L2.St} (a : Agree js σ σ1) (b : Agree ks σ1 σ2) : Agree (js ++ ks) σ σ2 := ⟨b.1.trans a.1, fun j hj => by
  rw [List.mem_append, not_or] at hj
  exact (b.2 j hj.2).trans (a.2 j hj.1)⟩
theorem Agree.mono {js ks : List Nat} {σ σ1 : L2.St} (a : Agree js σ σ1) (h : ∀ j, j ∈ js → j ∈ ks) : Agree ks σ σ1 := ⟨a.1, fun j hj => a.2 j fun z => hj (h j z)⟩
theorem wipe_at (σ : L2.St) (i : Nat) : ∀ vs : List Nat, (wipe σ vs)[i]? = if i ∈ vs then (if i < σ.length then some none else none) else σ[i]?
  | [] => by simp [wipe]
  | v :: vs => by
    have ih := wipe_at σ i vs
    show ((wipe σ vs).set v none)[i]? = _
    rw [List.getElem?_set, wipe_length]
    by_cases e : v = i
    · subst e
      by_cases l : v < σ.length <;> simp [l]
    · have e2 : ¬ i = v := fun z => e z.symm
      simp [e, e2, ih]
theorem wipe_agree {vs : List Nat} {σ σ' : L2.St} (a : Agree vs σ σ') : wipe σ' vs = wipe σ vs := by
  refine List.ext_getElem? fun i => ?_
  rw [wipe_at, wipe_at, a.1]
  by_cases h : i ∈ vs
  · rw [if_pos h, if_pos h]
  · rw [if_neg h, if_neg h, a.2 i h]
theorem wipe_wipe (vs : List Nat) (σ : L2.St) : wipe (wipe σ vs) vs = wipe σ vs := wipe_agree ⟨wipe_length σ vs, fun j hj => by rw [wipe_at, if_neg hj]⟩
/-- what a target makes of the slots -/
def TGD (g : TG) (js : List Nat) (ρ ρ' : DE) (d : Dc) : Prop := ∀ (M : Addr → Bool) (v : V) (σ : L2.St) (H : Hp) (Q : L2.St → Hp → Prop), MOk M H → Holds ρ σ (res M H) → d.p (res M H) v → (∀ σ', Agree js σ σ' → Holds ρ' σ' (res M H) → Q σ' H) → g v σ H Q
theorem tg_name {ρ : DE} {d : Dc} (j : Nat) : TGD (gName j) [j] ρ (ρ.set j (some d)) d := fun M v σ H Q m hh dv k => k _ Agree.set (hh.set dv)
theorem tg_tup {K : PySem.W.Frag} {ρ : DE} {d e : Dc} (i j : Nat) : TGD (gTup K 2 (gCons (gName i) (gCons (gName j) gNil))) [i, j] ρ ((ρ.set i (some d)).set j (some e)) (Tp K d e) := fun M v σ H Q m hh ⟨a, x, y, e1, e2, e3, e4⟩ k =>
  ⟨a, [x, y], e1, same_t (res_le M H) e2, rfl, x, [y], rfl, y, [], rfl, rfl, k _ (Agree.trans (js := [i]) (ks := [j]) Agree.set Agree.set) ((hh.set e3).set e4)⟩
/-! ### comprehensions -/
section
variable {X : Cx}
abbrev Cx.bl (X : Cx) (s : Shared) (H : Hp) (scope : Scope) (C : Addr) (cl : List (Str × Addr)) (fp : List Addr) : Cx := X.blk s H scope (compEnvC scope cl C X.env) fp
abbrev PVTs (X : Cx) (ifs : List Expr) (ρ : DE) (b : Bool) : Prop := PTs X ifs (tDT ρ b)
theorem pvts_nil {ρ : DE} : PVTs X [] ρ true := ⟨fun pins s σ H Q I ⟨M, m, hh, q⟩ => pts_nil.run pins s σ H Q I (q H (Same.refl H))⟩
theorem pvts_one {ρ : DE} {c : Expr} {b : Bool} (h : PVT X c ρ b) : PVTs X [c] ρ b := pts_one h
theorem pe_ex {α : Type} {e : Expr} {t : α → TE} (h : ∀ x, PE X e (t x)) : PE X e (fun σ H Q => ∃ x, t x σ H Q) := ⟨fun pins s σ H Q I ⟨x, q⟩ => (h x).run pins s σ H Q I q⟩
theorem pts_ex {α : Type} {e : List Expr} {t : α → TT} (h : ∀ x, PTs X e (t x)) : PTs X e (fun σ H Q => ∃ x, t x σ H Q) := ⟨fun pins s σ H Q I ⟨x, q⟩ => (h x).run pins s σ H Q I q⟩
theorem pts_when {φ : Prop} {e : List Expr} {t : TT} (h : φ → PTs X e t) : PTs X e (fun σ H Q => φ ∧ t σ H Q) := ⟨fun pins s σ H Q I q => (h q.1).run pins s σ H Q I q.2⟩
/-- the reading of a comprehension -/
theorem lc_reads {α : Type} {K : PySem.W.Frag} {ρ : DE} {g : TG} {tt : α → TT} {te : α → TE} {vs : List Nat} {xs : List α} {el : α → Dc} {ρ' : α → DE} {b : α → Bool} {f : α → PyData} (hv : ∀ j, j ∈ vs → ∀ d, ρ[j]? ≠ some (some d)) (hl : xs.length ≤ 1000000)
    (hg : ∀ x, x ∈ xs → TGD g vs ρ (ρ' x) (el x)) (σ : L2.St) (H : Hp) (Q : VK) (h : tD ρ (Ls K ((xs.filter b).map f)) σ H Q) :
    tLc (tI ρ (xs.map el)) g (fun σ H Q => ∃ x, x ∈ xs ∧ tDT (ρ' x) (b x) σ H Q) (fun σ H Q => ∃ x, (x ∈ xs ∧ b x = true) ∧ tD (ρ' x) (dat K (f x)) σ H Q) vs σ H Q := by
  obtain ⟨M, m, hh, q⟩ := h
  refine ⟨M, m, hh, fun J H1 s1 wd D hD => ?_⟩
  have mD : M D = false := (m.mono s1).new hD
  have F1 : Same (res M H1) (res M H1) := Same.refl _
  refine ⟨fun i n H2 => n = xs.length - i ∧ i ≤ xs.length ∧ Same H1 H2 ∧ MOk (addM M D) H2 ∧ Same (res M H1) (res (addM M D) H2) ∧ ∃ acc, H2 D = some (.lst acc) ∧ DpAll K (res (addM M D) H2) acc (((xs.take i).filter b).map f), ⟨xs.length, by simp, Nat.zero_le _, same_upd hD, fun a ha => ?_, fun a o ha => ?_, [], upd_same, .nil⟩, ?_⟩
  · by_cases e : a = D
    · rw [e, upd_same]
      simp
    · rw [addM_ne e] at ha
      rw [upd_ne e]
      exact (m.mono s1) a ha
  · have e : a ≠ D := fun z => by
      rw [z, res_in mD, hD] at ha
      cases ha
    unfold res at ha ⊢
    rw [addM_ne e, upd_ne e]
    exact ha
  · rintro i n H2 ⟨rfl, hi, s2, m2, sF, acc, hacc, dacc⟩
    have hF : Same (res M H1) H2 := sF.trans (res_le _ _)
    obtain ⟨wg, ws, wy⟩ := wd H2 hF
    rw [List.length_map] at wg ws
    by_cases hlt : i < xs.length
    · refine .inr ⟨wg i hlt, fun H3 => i + 1 ≤ xs.length ∧ Same H1 H3 ∧ MOk (addM M D) H3 ∧ Same (res M H1) (res (addM M D) H3) ∧ ∃ acc, H3 D = some (.lst acc) ∧ DpAll K (res (addM M D) H3) acc (((xs.take (i + 1)).filter b).map f), fun H3 h3 => ⟨xs.length - (i + 1), by omega, rfl, h3⟩, fun v H3 y => ?_⟩
      have hx : xs[i]? = some xs[i] := List.getElem?_eq_getElem hlt
      have hmem : xs[i] ∈ xs := List.getElem_mem hlt
      obtain ⟨s3, dv⟩ := wy i v H3 (el xs[i]) (by rw [List.getElem?_map, hx]; rfl) y
      have dv := dv (addM M D) m2 sF
      have m3 := m2.mono s3
      have sF3 : Same (res M H1) (res (addM M D) H3) := sF.trans (res_mono s3)
      have hw : Holds ρ (wipe σ vs) (res (addM M D) H3) := by
        refine ⟨by rw [wipe_length]; exact hh.1, fun j d hj => ?_⟩
        have hnj : j ∉ vs := fun z => hv j z d hj
        obtain ⟨u, h1, h2⟩ := hh.2 j d hj
        exact ⟨u, by rw [wipe_at, if_neg hnj]; exact h1, d.mono ((res_mono s1).trans sF3) h2⟩
      have take1 : xs.take (i + 1) = xs.take i ++ [xs[i]] := by rw [List.take_add_one, hx]; rfl
      refine hg xs[i] hmem (addM M D) v (wipe σ vs) H3 _ m3 hw dv fun σ2 ag h2 => ?_
      refine ⟨by rw [wipe_agree ag, wipe_wipe], xs[i], hmem, addM M D, m3, h2, fun H4 s4 => ?_⟩
      have keep : ∀ H5, Same H3 H5 → b xs[i] = false → i + 1 ≤ xs.length ∧ Same H1 H5 ∧ MOk (addM M D) H5 ∧ Same (res M H1) (res (addM M D) H5) ∧ ∃ acc, H5 D = some (.lst acc) ∧ DpAll K (res (addM M D) H5) acc (((xs.take (i + 1)).filter b).map f) := fun H5 s5 hb => by
        refine ⟨hlt, (s2.trans s3).trans s5, m3.mono s5, sF3.trans (res_mono s5), acc, s5 _ _ (s3 _ _ hacc), ?_⟩
        rw [take1, List.filter_append]
        have : List.filter b [xs[i]] = [] := by simp [hb]
        rw [this, List.append_nil]
        exact dps_mono (res_mono (s3.trans s5)) _ _ dacc
      cases hb : b xs[i] with
      | false =>
        exact iteF (keep H4 s4 hb)
      | true =>
        refine iteT ⟨xs[i], ⟨hmem, hb⟩, addM M D, m3.mono s4, h2.mono (res_mono s4), fun w H5 s5 dw => ?_⟩
        have s35 := s4.trans s5
        have hDacc : H5 D = some (.lst acc) := s35 _ _ (s3 _ _ hacc)
        have eres : res (addM M D) (upd H5 D (.lst (acc ++ [w]))) = res (addM M D) H5 := res_upd_mut (addM_self M D)
        refine ⟨acc, hDacc, ?_, hlt, fun a o ha => ?_, fun a ha => ?_, by rw [eres]; exact sF3.trans (res_mono s35), acc ++ [w], upd_same, ?_⟩
        · have l := dps_len dacc
          have l2 : (((xs.take i).filter b).map f).length ≤ xs.length := by
            rw [List.length_map]
            refine Nat.le_trans (List.length_filter_le _ _) ?_
            rw [List.length_take]
            omega
          exact Nat.lt_of_le_of_lt (m := 1000000) (by omega) (by decide)
        · rw [upd_ne (fun z => by rw [z, hD] at ha; cases ha)]
          exact ((s2.trans s3).trans s35) a o ha
        · by_cases e : a = D
          · rw [e, upd_same]
            simp
          · rw [upd_ne e]
            exact (m3.mono s35) a ha
        · rw [eres, take1, List.filter_append]
          have e2 : List.filter b [xs[i]] = [xs[i]] := by simp [hb]
          rw [e2, List.map_append]
          exact dps_app (dps_mono (res_mono (s3.trans s35)) _ _ dacc) (.cons dw .nil)
    · have e : i = xs.length := by omega
      subst e
      refine .inl ⟨ws, q _ H2 (s1.trans s2) ⟨D, acc, rfl, by rw [res_in mD]; exact hacc, ?_⟩⟩
      rw [List.take_length] at dacc
      exact dps_mono (res_add_le M D H2) _ _ dacc
theorem pv_lc {α : Type} {elt tg iter : Expr} {ifs : List Expr} {scope : Scope} {pos : Pos} {ρ : DE} {g : TG} (own : List (Str × Nat)) (xs : List α) (el : α → Dc) (ρ' : α → DE) (b : α → Bool) (f : α → PyData) (hc : X.calm = true) (hN : X.N.Nodup) (hi : IT X tg iter ρ (xs.map el)) (ok : BlkOk X.N X.env.scope scope own)
    (hv : ∀ j, j ∈ own.map (·.2) → ∀ d, ρ[j]? ≠ some (some d)) (hl : xs.length ≤ 1000000)
    (hp : ∀ (s : Shared) (H : Hp) (C : Addr) (cl : List (Str × Addr)) (fp : List Addr), PG (Cx.bl X s H scope C cl fp) tg g) (hg : ∀ x, x ∈ xs → TGD g (own.map (·.2)) ρ (ρ' x) (el x))
    (ht : ∀ x, x ∈ xs → ∀ (s : Shared) (H : Hp) (C : Addr) (cl : List (Str × Addr)) (fp : List Addr), PVTs (Cx.bl X s H scope C cl fp) ifs (ρ' x) (b x))
    (he : ∀ x, x ∈ xs → b x = true → ∀ (s : Shared) (H : Hp) (C : Addr) (cl : List (Str × Addr)) (fp : List Addr), PV (Cx.bl X s H scope C cl fp) elt (ρ' x) (dat X.K (f x)))
    (hs : ∀ x, foldedSetIterable iter X.env x = pure x := by intro _; rfl) :
    PV X (.ListComp elt [⟨tg, iter, ifs, 0⟩] scope pos) ρ (Ls X.K ((xs.filter b).map f)) :=
  pe_weak (pe_lc hc hN hi ok hp (fun s H C cl fp => pts_ex (t := fun x σ H Q => x ∈ xs ∧ tDT (ρ' x) (b x) σ H Q) fun x => pts_when fun hx => ht x hx s H C cl fp)
    (fun s H C cl fp => pe_ex (t := fun x σ H Q => (x ∈ xs ∧ b x = true) ∧ tD (ρ' x) (dat X.K (f x)) σ H Q) fun x => pe_when fun hx => he x hx.1 hx.2 s H C cl fp) hs)
    (lc_reads (tt := fun _ _ _ _ => False) (te := fun _ _ _ _ => False) hv hl hg)
end
end PX

namespace PX
open PySem PySem.Spec PyProof.Rows L2
/-! ### statements -/
/-- what a body stands on: G stays, M is not to be seen by values, E holds of what stands at M -/
structure Gm where
  G : Hp
  M : Addr → Bool
  E : Hp → Prop
  eok : ∀ H H' : Hp, (∀ a, M a = true → H a = H' a) → E H → E H'
theorem Gm.keep (Γ : Gm) {H H' : Hp} (m : MOk Γ.M H) (s : Same H H') (e : Γ.E H) : Γ.E H' := Γ.eok H H' (fun a ha => by
  cases q : H a with
  | none => exact absurd q (m a ha)
  | some o => exact (s a o q).symm) e
abbrev Asr : Type := Gm → L2.St → Hp → Prop
abbrev Rl : Type := Gm → V → Hp → Prop
abbrev Mu : Type := Option (Nat × List PyData)
def A (K : PySem.W.Frag) (ρ : DE) : Mu → Asr
  | none => fun Γ σ H => Same Γ.G H ∧ MOk Γ.M H ∧ Γ.E H ∧ Holds ρ σ (res Γ.M H)
  | some (i, ds) => fun Γ σ H => Same Γ.G H ∧ MOk Γ.M H ∧ Γ.E H ∧ ∃ p xs, Γ.M p = false ∧ Γ.G p = none ∧ σ[i]? = some (some (.ref p)) ∧ H p = some (.lst xs) ∧ Holds ρ σ (res (addM Γ.M p) H) ∧ DpAll K (res (addM Γ.M p) H) xs ds
def slotOf : Mu → List Nat
  | none => []
  | some (i, _) => [i]
theorem A.eval {K : PySem.W.Frag} {ρ : DE} {o : Mu} {Γ : Gm} {σ : L2.St} {H : Hp} (h : A K ρ o Γ σ H) : ∃ M', MOk M' H ∧ Holds ρ σ (res M' H) ∧ ((∀ a o, Γ.G a = some o → M' a = Γ.M a) ∧ (∀ a, Γ.M a = true → M' a = true) ∧ ∀ H', Same H H' → ∀ G', Same G' H' → (∀ a, M' a = true → G' a = Γ.G a) → A K ρ o { Γ with G := G' } σ H') ∧ (∀ H', Same (res M' H') (res Γ.M H')) ∧
    ∀ (ρ' : DE) (σ' : L2.St) (H' : Hp), Same H H' → Holds ρ' σ' (res M' H') → (∀ i, i ∈ slotOf o → σ'[i]? = σ[i]?) → A K ρ' o Γ σ' H' := by
  cases o with
  | none =>
    obtain ⟨h1, h2, h3, h4⟩ := h
    exact ⟨Γ.M, h2, h4, ⟨fun _ _ _ => rfl, fun _ z => z, fun H' s G' sG _ => ⟨sG, h2.mono s, Γ.keep h2 s h3, h4.mono (res_mono s)⟩⟩, fun _ => Same.refl _, fun ρ' σ' H' s hh _ => ⟨h1.trans s, h2.mono s, Γ.keep h2 s h3, hh⟩⟩
  | some z =>
    obtain ⟨i, ds⟩ := z
    obtain ⟨h1, h2, h3, p, xs, h4, h5, h6, h7, h8, h9⟩ := h
    refine ⟨addM Γ.M p, fun a ha => ?_, h8, ⟨fun a u q => addM_ne (fun z => by rw [z, h5] at q; cases q), fun a z => (by simp [addM, z]), fun H' s G' sG hG => ⟨sG, h2.mono s, Γ.keep h2 s h3, p, xs, h4, (hG p (addM_self _ _)).trans h5, h6, s _ _ h7, h8.mono (res_mono s), dps_mono (res_mono s) _ _ h9⟩⟩, fun _ => res_add_le _ _ _, fun ρ' σ' H' s hh hi => ⟨h1.trans s, h2.mono s, Γ.keep h2 s h3, p, xs, h4, h5, (hi i (List.mem_singleton.mpr rfl)).trans h6, s _ _ h7, hh, dps_mono (res_mono s) _ _ h9⟩⟩
    by_cases e : a = p
    · rw [e, h7]
      simp
    · rw [addM_ne e] at ha
      exact h2 a ha
theorem A.lower {K : PySem.W.Frag} {ρ : DE} {o : Mu} {Γ Γ' : Gm} {σ : L2.St} {H : Hp} (hM : Γ'.M = Γ.M) (hE : Γ'.E = Γ.E) (hG : Same Γ.G Γ'.G) (h : A K ρ o Γ' σ H) : A K ρ o Γ σ H := by
  cases o with
  | none =>
    obtain ⟨h1, h2, h3, h4⟩ := h
    rw [hM] at h2 h4
    rw [hE] at h3
    exact ⟨hG.trans h1, h2, h3, h4⟩
  | some z =>
    obtain ⟨i, ds⟩ := z
    obtain ⟨h1, h2, h3, p, xs, h4, h5, h6, h7, h8, h9⟩ := h
    rw [hM] at h2 h4 h8 h9
    rw [hE] at h3
    refine ⟨hG.trans h1, h2, h3, p, xs, h4, ?_, h6, h7, h8, h9⟩
    cases q : Γ.G p with
    | none => rfl
    | some u => rw [hG _ _ q] at h5; cases h5
theorem A.base {K : PySem.W.Frag} {ρ : DE} {o : Mu} {Γ : Gm} {σ : L2.St} {H : Hp} (h : A K ρ o Γ σ H) : Same Γ.G H ∧ MOk Γ.M H ∧ Γ.E H := by
  cases o with
  | none => exact ⟨h.1, h.2.1, h.2.2.1⟩
  | some z => exact ⟨h.1, h.2.1, h.2.2.1⟩
/-- the mutable list is from now on a value -/
theorem A.freeze {K : PySem.W.Frag} {ρ : DE} {i : Nat} {ds : List PyData} {Γ : Gm} {σ : L2.St} {H : Hp} (h : A K ρ (some (i, ds)) Γ σ H) : A K (ρ.set i (some (Ls K ds))) none Γ σ H := by
  obtain ⟨h1, h2, h3, p, xs, h4, h5, h6, h7, h8, h9⟩ := h
  refine ⟨h1, h2, h3, ?_⟩
  have hl : σ.set i (some (V.ref p)) = σ := by
    refine List.ext_getElem? fun j => ?_
    by_cases e : i = j
    · subst e
      have l := (List.getElem?_eq_some_iff.mp h6).1
      rw [List.getElem?_set_self l, h6]
    · rw [List.getElem?_set_ne e]
  have := (h8.mono (res_add_le Γ.M p H)).set (j := i) (d := Ls K ds) (v := .ref p) ⟨p, xs, rfl, by rw [res_in h4]; exact h7, dps_mono (res_add_le _ _ _) _ _ h9⟩
  rwa [hl] at this
theorem A.drop {K : PySem.W.Frag} {ρ : DE} {i : Nat} {o : Mu} {Γ : Gm} {σ : L2.St} {H : Hp} (h : A K ρ o Γ σ H) : A K (ρ.set i none) o Γ σ H := by
  obtain ⟨M', m, hh, _, _, k⟩ := h.eval
  exact k _ _ _ (Same.refl _) hh.drop fun _ _ => rfl
def T1 (X : Cx) (st : Stmt) (P Nx : Asr) (Rt : Rl) : Prop := ∀ Γ : Gm, PS X st (fun D σ H => P Γ σ H ∧ (∀ σ' H', Nx Γ σ' H' → D.nx σ' H') ∧ ∀ v H', Rt Γ v H' → D.rt v H')
def TR (X : Cx) (sts : List Stmt) (P Nx : Asr) (Rt : Rl) : Prop := ∀ Γ : Gm, PSs X sts (fun D σ H => P Γ σ H ∧ (∀ σ' H', Nx Γ σ' H' → D.nx σ' H') ∧ ∀ v H', Rt Γ v H' → D.rt v H')
/-- the value is so, and nothing else has changed -/
def Rd' (d : Dc) : Rl := fun Γ v H => Same Γ.G H ∧ Γ.E H ∧ d.p (res Γ.M H) v
theorem ps_weak {X : Cx} {st : Stmt} {t u : TS} (h : PS X st t) (k : ∀ D σ H, u D σ H → t D σ H) : PS X st u := ⟨fun pins s σ H D I q => h.run pins s σ H D I (k D σ H q)⟩
theorem pss_weak {X : Cx} {st : List Stmt} {t u : TS} (h : PSs X st t) (k : ∀ D σ H, u D σ H → t D σ H) : PSs X st u := ⟨fun pins s σ H D I q => h.run pins s σ H D I (k D σ H q)⟩
theorem pss_ex {X : Cx} {α : Type} {st : List Stmt} {t : α → TS} (h : ∀ x, PSs X st (t x)) : PSs X st (fun D σ H => ∃ x, t x D σ H) := ⟨fun pins s σ H D I ⟨x, q⟩ => (h x).run pins s σ H D I q⟩
theorem pss_when {X : Cx} {φ : Prop} {st : List Stmt} {t : TS} (h : φ → PSs X st t) : PSs X st (fun D σ H => φ ∧ t D σ H) := ⟨fun pins s σ H D I q => (h q.1).run pins s σ H D I q.2⟩
theorem ps_when {X : Cx} {φ : Prop} {st : Stmt} {t : TS} (h : φ → PS X st t) : PS X st (fun D σ H => φ ∧ t D σ H) := ⟨fun pins s σ H D I q => (h q.1).run pins s σ H D I q.2⟩
section
variable {X : Cx} {K : PySem.W.Frag} {P P' Mid Nx Nx' : Asr} {Rt : Rl} {st : Stmt} {rest : List Stmt} {ρ : DE} {o : Mu} {d : Dc} {e : Expr} {pos : Pos}
theorem tr_nil : TR X [] P P Rt := fun Γ => pss_weak pss_nil fun D σ H ⟨p, n, r⟩ => n σ H p
theorem tr_cons (h : T1 X st P Mid Rt) (h2 : TR X rest Mid Nx Rt) : TR X (st :: rest) P Nx Rt := fun Γ => pss_weak (pss_cons (h Γ) (h2 Γ)) fun D σ H ⟨p, n, r⟩ => ⟨p, fun σ' H' q => ⟨q, n, r⟩, r⟩
theorem tr_pre (h : TR X rest P Nx Rt) (k : ∀ Γ σ H, P' Γ σ H → P Γ σ H) : TR X rest P' Nx Rt := fun Γ => pss_weak (h Γ) fun D σ H ⟨p, n, r⟩ => ⟨k Γ σ H p, n, r⟩
theorem tr_post (h : TR X rest P Nx Rt) (k : ∀ Γ σ H, Nx Γ σ H → Nx' Γ σ H) : TR X rest P Nx' Rt := fun Γ => pss_weak (h Γ) fun D σ H ⟨p, n, r⟩ => ⟨p, fun σ' H' q => n σ' H' (k Γ σ' H' q), r⟩
theorem t1_post (h : T1 X st P Nx Rt) (k : ∀ Γ σ H, Nx Γ σ H → Nx' Γ σ H) : T1 X st P Nx' Rt := fun Γ => ps_weak (h Γ) fun D σ H ⟨p, n, r⟩ => ⟨p, fun σ' H' q => n σ' H' (k Γ σ' H' q), r⟩
theorem t1_pre (h : T1 X st P Nx Rt) (k : ∀ Γ σ H, P' Γ σ H → P Γ σ H) : T1 X st P' Nx Rt := fun Γ => ps_weak (h Γ) fun D σ H ⟨p, n, r⟩ => ⟨k Γ σ H p, n, r⟩
/-- a fact that what holds ahead gives -/
theorem tr_ex {α : Type} {Pα : α → Asr} (h : ∀ x, TR X rest (Pα x) Nx Rt) : TR X rest (fun Γ σ H => ∃ x, Pα x Γ σ H) Nx Rt := fun Γ => pss_weak (pss_ex (t := fun x D σ H => Pα x Γ σ H ∧ (∀ σ' H', Nx Γ σ' H' → D.nx σ' H') ∧ ∀ v H', Rt Γ v H' → D.rt v H') fun x => h x Γ) fun D σ H ⟨⟨x, p⟩, n, r⟩ => ⟨x, p, n, r⟩
/-- freeze ahead of the rest -/
theorem tr_freeze {i : Nat} {ds : List PyData} (h : TR X rest (A K (ρ.set i (some (Ls K ds))) none) Nx Rt) : TR X rest (A K ρ (some (i, ds))) Nx Rt := tr_pre h fun Γ σ H p => p.freeze
theorem t_set {i : Nat} {x : Str} {pos' : Pos} (hN : X.N.Nodup) (hi : X.N[i]? = some x) (hx : Loc X.env.scope x) (he : PV X e ρ d) (ho : i ∉ slotOf o) (hs : swapsWith e (some (.Name x pos')) pos.line X.env = pure false := by rfl)
    (hf : X.fn x = true ∨ X.env.scope.names.lookup x = some .local := by first | exact .inl rfl | exact .inr rfl | assumption) : T1 X (.Assign [.Name x pos'] e pos) (A K ρ o) (A K (ρ.set i (some d)) o) Rt := fun Γ =>
  ps_weak (ps_set hN hi hx he hs hf) fun D σ H ⟨p, n, r⟩ => by
    obtain ⟨M', m, hh, _, _, k⟩ := p.eval
    exact ⟨M', m, hh, fun v H' s dv => n _ _ (k _ _ _ s ((hh.mono (res_mono s)).set dv) fun j hj => List.getElem?_set_ne fun z => ho (by rw [z]; exact hj))⟩
theorem t_setLc {α : Type} {i : Nat} {y : Str} {py spos : Pos} {elt tg iter : Expr} {ifs : List Expr} {scope : Scope} {g : TG} (own : List (Str × Nat)) (xs : List α) (el : α → Dc) (ρ' : α → DE) (b : α → Bool) (f : α → PyData) (hc : X.calm = true) (hN : X.N.Nodup) (hy : X.N[i]? = some y) (hyl : X.env.scope.names.lookup y = some .local)
    (hsw : swapsWith (.ListComp elt [⟨tg, iter, ifs, 0⟩] scope pos) (some (.Name y py)) spos.line X.env = pure true) (hi : IT X tg iter ρ (xs.map el)) (ok : BlkOk X.N X.env.scope scope own)
    (hv : ∀ j, j ∈ own.map (·.2) → ∀ d, ρ[j]? ≠ some (some d)) (hl : xs.length ≤ 1000000)
    (hp : ∀ (s : Shared) (H : Hp) (C : Addr) (cl : List (Str × Addr)) (fp : List Addr), PG (Cx.bl X s H scope C cl fp) tg g) (hg : ∀ x, x ∈ xs → TGD g (own.map (·.2)) ρ (ρ' x) (el x))
    (ht : ∀ x, x ∈ xs → ∀ (s : Shared) (H : Hp) (C : Addr) (cl : List (Str × Addr)) (fp : List Addr), PVTs (Cx.bl X s H scope C cl fp) ifs (ρ' x) (b x))
    (he : ∀ x, x ∈ xs → b x = true → ∀ (s : Shared) (H : Hp) (C : Addr) (cl : List (Str × Addr)) (fp : List Addr), PV (Cx.bl X s H scope C cl fp) elt (ρ' x) (dat X.K (f x)))
    (ho : i ∉ slotOf o) (hs : ∀ x, foldedSetIterable iter X.env x = pure x := by intro _; rfl) :
    T1 X (.Assign [.Name y py] (.ListComp elt [⟨tg, iter, ifs, 0⟩] scope pos) spos) (A K ρ o) (A K (ρ.set i (some (Ls X.K ((xs.filter b).map f)))) o) Rt := fun Γ =>
  ps_weak (ps_setLc hc hN hy hyl hsw hi ok hp (fun s H C cl fp => pts_ex (t := fun x σ H Q => x ∈ xs ∧ tDT (ρ' x) (b x) σ H Q) fun x => pts_when fun hx => ht x hx s H C cl fp)
    (fun s H C cl fp => pe_ex (t := fun x σ H Q => (x ∈ xs ∧ b x = true) ∧ tD (ρ' x) (dat X.K (f x)) σ H Q) fun x => pe_when fun hx => he x hx.1 hx.2 s H C cl fp) hs) fun D σ H ⟨p, n, r⟩ => by
    obtain ⟨M', m, hh, _, _, k⟩ := p.eval
    exact lc_reads (tt := fun _ _ _ _ => False) (te := fun _ _ _ _ => False) hv hl hg σ H _ ⟨M', m, hh, fun v H' s dv => n _ _ (k _ _ _ s ((hh.mono (res_mono s)).set dv) fun j hj => List.getElem?_set_ne fun z => ho (by rw [z]; exact hj))⟩
theorem t_expr (he : PV X e ρ d) (hs : swapsWith e none pos.line X.env = pure false := by rfl) : T1 X (.Expr e pos) (A K ρ o) (A K ρ o) Rt := fun Γ => ps_weak (ps_expr he hs) fun D σ H ⟨p, n, r⟩ => by
  obtain ⟨M', m, hh, _, _, k⟩ := p.eval
  exact ⟨M', m, hh, fun v H' s dv => n _ _ (k _ _ _ s (hh.mono (res_mono s)) fun j hj => rfl)⟩
theorem t_ret (he : PV X e ρ d) (hr : ∀ Γ v H', Same Γ.G H' → MOk Γ.M H' → Γ.E H' → d.p (res Γ.M H') v → Rt Γ v H') : T1 X (.Return (some e) pos) (A K ρ o) Nx Rt := fun Γ => ps_weak (ps_ret he) fun D σ H ⟨p, n, r⟩ => by
  obtain ⟨M', m, hh, _, le, k⟩ := p.eval
  refine ⟨M', m, hh, fun v H' s dv => r v H' ?_⟩
  have q := (k ρ σ H' s (hh.mono (res_mono s)) fun j hj => rfl).base
  exact hr Γ v H' q.1 q.2.1 q.2.2 (d.mono (le H') dv)
theorem rd_ok (d : Dc) : ∀ Γ v H', Same Γ.G H' → MOk Γ.M H' → Γ.E H' → d.p (res Γ.M H') v → Rd' d Γ v H' := fun Γ v H' a _ b c => ⟨a, b, c⟩
theorem t_if {c : Expr} {a b : List Stmt} {k : Bool} (hc : PVT X c ρ k) (h1 : k = true → TR X a (A K ρ o) Nx Rt) (h2 : k = false → TR X b (A K ρ o) Nx Rt) : T1 X (.If c a b pos) (A K ρ o) Nx Rt := fun Γ => by
  cases k with
  | true =>
    exact ps_weak (ps_if hc (h1 rfl Γ) pss_never) fun D σ H ⟨p, n, r⟩ => by
      obtain ⟨M', m, hh, _, le, kk⟩ := p.eval
      exact ⟨M', m, hh, fun H' s => iteT ⟨kk _ _ _ s (hh.mono (res_mono s)) fun j hj => rfl, n, r⟩⟩
  | false =>
    exact ps_weak (ps_if hc pss_never (h2 rfl Γ)) fun D σ H ⟨p, n, r⟩ => by
      obtain ⟨M', m, hh, _, le, kk⟩ := p.eval
      exact ⟨M', m, hh, fun H' s => iteF ⟨kk _ _ _ s (hh.mono (res_mono s)) fun j hj => rfl, n, r⟩⟩
/-- if c: raise ..: it does not -/
theorem t_pass {c : Expr} {a : List Stmt} {k : Bool} (hc : PVT X c ρ k) (hk : k = false) : T1 X (.If c a [] pos) (A K ρ o) (A K ρ o) Rt := t_if hc (fun h => absurd (h.symm.trans hk) (by decide)) fun _ => tr_nil
/-- x = [] -/
theorem t_new {i : Nat} {x : Str} {pos' lp : Pos} (hN : X.N.Nodup) (hi : X.N[i]? = some x) (hx : Loc X.env.scope x) (hl : i < X.N.length) (hs : swapsWith (.List [] lp) (some (.Name x pos')) pos.line X.env = pure false := by rfl)
    (hf : X.fn x = true ∨ X.env.scope.names.lookup x = some .local := by first | exact .inl rfl | exact .inr rfl | assumption) (hρ : ρ.length = X.N.length) : T1 X (.Assign [.Name x pos'] (.List [] lp) pos) (A K ρ none) (A K (ρ.set i none) (some (i, []))) Rt := fun Γ =>
  ps_weak (ps_set hN hi hx (pe_lst pa_nil) hs hf) fun D σ H ⟨⟨h1, h2, h3, h4⟩, n, r⟩ => by
    refine ⟨Nat.zero_le _, fun p hp => n _ _ ?_⟩
    have s := same_upd (o := .lst []) hp
    have mp : Γ.M p = false := h2.new hp
    refine ⟨h1.trans s, h2.mono s, Γ.keep h2 s h3, p, [], mp, ?_, by rw [List.getElem?_set_self (by rw [← h4.1, hρ]; exact hl)], upd_same, ?_, .nil⟩
    · cases q : Γ.G p with
      | none => rfl
      | some u => rw [h1 _ _ q] at hp; cases hp
    · have e : res (addM Γ.M p) (upd H p (.lst [])) = res Γ.M H := by
        rw [res_upd_mut (addM_self _ _)]
        funext a
        unfold res
        by_cases z : a = p
        · rw [z, addM_self, mp]
          simp [hp]
        · rw [addM_ne z]
      rw [e]
      exact h4.forget
/-- x.append(e) -/
theorem t_append {i : Nat} {ds : List PyData} {dd : PyData} (he : PE X e (tBM K "list" rAppend (tVar i) (tDA ρ [dat K dd]))) (hz : ds.length ≤ 1000000) (hsw : swapsWith e none pos.line X.env = pure false := by rfl) :
    T1 X (.Expr e pos) (A K ρ (some (i, ds))) (A K ρ (some (i, ds ++ [dd]))) Rt := fun Γ =>
  ps_weak (ps_expr he hsw) fun D σ H ⟨⟨h1, h2, h3, p, xs, h4, h5, h6, h7, h8, h9⟩, n, r⟩ => by
    refine ⟨.ref p, h6, .inl ⟨rfl, _, SqL.of h7⟩, addM Γ.M p, fun a ha => ?_, h8, fun vs H' s dvs => ?_⟩
    · by_cases z : a = p
      · rw [z, h7]
        simp
      · rw [addM_ne z] at ha
        exact h2 a ha
    obtain ⟨v, rfl, dv⟩ : ∃ v, vs = [v] ∧ Dp K (res (addM Γ.M p) H') v dd := by
      cases dvs with
      | cons h t =>
        cases t
        exact ⟨_, rfl, h⟩
    refine ⟨p, xs, v, rfl, rfl, s _ _ h7, ?_, n _ _ ?_⟩
    · have := dps_len h9
      exact Nat.lt_of_le_of_lt (m := 1000000) (by omega) (by decide)
    · have e1 : res (addM Γ.M p) (upd H' p (.lst (xs ++ [v]))) = res (addM Γ.M p) H' := res_upd_mut (addM_self _ _)
      have hne : ∀ a o, Γ.G a = some o → a ≠ p := fun a o q z => by rw [z, h5] at q; cases q
      refine ⟨fun a o q => by rw [upd_ne (hne a o q)]; exact s _ _ (h1 a o q), fun a ha => ?_, ?_, p, xs ++ [v], h4, h5, h6, upd_same, by rw [e1]; exact h8.mono (res_mono s), ?_⟩
      · have z : a ≠ p := fun z => by rw [z, h4] at ha; cases ha
        rw [upd_ne z]
        exact (h2.mono s) a ha
      · refine Γ.eok H' _ (fun a ha => ?_) (Γ.keep h2 s h3)
        have z : a ≠ p := fun z => by rw [z, h4] at ha; cases ha
        rw [upd_ne z]
      · rw [e1]
        exact dps_app (dps_mono (res_mono s) _ _ h9) (.cons dv .nil)
/-- x.extend(e), e a list made then and there -/
theorem t_extend {i : Nat} {ds es : List PyData} (he : PE X e (tBM K "list" rExtend (tVar i) (tDA ρ [Ls K es]))) (hz : ds.length + es.length ≤ 1000000) (hsw : swapsWith e none pos.line X.env = pure false := by rfl) :
    T1 X (.Expr e pos) (A K ρ (some (i, ds))) (A K ρ (some (i, ds ++ es))) Rt := fun Γ =>
  ps_weak (ps_expr he hsw) fun D σ H ⟨⟨h1, h2, h3, p, xs, h4, h5, h6, h7, h8, h9⟩, n, r⟩ => by
    refine ⟨.ref p, h6, .inl ⟨rfl, _, SqL.of h7⟩, addM Γ.M p, fun a ha => ?_, h8, fun vs H' s dvs => ?_⟩
    · by_cases z : a = p
      · rw [z, h7]
        simp
      · rw [addM_ne z] at ha
        exact h2 a ha
    obtain ⟨v, q, ys, rfl, rfl, e2, e3⟩ : ∃ v q ys, vs = [v] ∧ v = .ref q ∧ res (addM Γ.M p) H' q = some (.lst ys) ∧ DpAll K (res (addM Γ.M p) H') ys es := by
      cases dvs with
      | cons h t =>
        cases t
        obtain ⟨q, ys, e1, e2, e3⟩ := h
        exact ⟨_, q, ys, rfl, e1, e2, e3⟩
    refine ⟨p, q, xs, ys, rfl, rfl, s _ _ h7, res_le _ _ _ _ e2, ?_, n _ _ ?_⟩
    · have := dps_len h9
      have := dps_len e3
      exact Nat.le_trans (m := 1000000) (by omega) (by decide)
    · have e4 : res (addM Γ.M p) (upd H' p (.lst (xs ++ ys))) = res (addM Γ.M p) H' := res_upd_mut (addM_self _ _)
      have hne : ∀ a o, Γ.G a = some o → a ≠ p := fun a o q z => by rw [z, h5] at q; cases q
      refine ⟨fun a o q => by rw [upd_ne (hne a o q)]; exact s _ _ (h1 a o q), fun a ha => ?_, ?_, p, xs ++ ys, h4, h5, h6, upd_same, by rw [e4]; exact h8.mono (res_mono s), ?_⟩
      · have z : a ≠ p := fun z => by rw [z, h4] at ha; cases ha
        rw [upd_ne z]
        exact (h2.mono s) a ha
      · refine Γ.eok H' _ (fun a ha => ?_) (Γ.keep h2 s h3)
        have z : a ≠ p := fun z => by rw [z, h4] at ha; cases ha
        rw [upd_ne z]
      · rw [e4]
        exact dps_app (dps_mono (res_mono s) _ _ h9) e3
/-! for -/
def mixG (M : Addr → Bool) (G H : Hp) : Hp := fun a => if M a = true then G a else H a
theorem mix_in {M : Addr → Bool} {G H : Hp} {a : Addr} (h : M a = true) : mixG M G H a = G a := if_pos h
theorem mix_out {M : Addr → Bool} {G H : Hp} {a : Addr} (h : ¬ M a = true) : mixG M G H a = H a := if_neg h
theorem t_for {iter tg : Expr} {body : List Stmt} {g : TG} {els : List Dc} {js : List Nat} (ρs ρt : Nat → DE) (os : Nat → Mu) (hp : PassesOwn (model X.prog X.w) X.A X.env X.xe) (hc : X.calm = true) (hi : IT X tg iter ρ els) (hg : PG X tg g)
    (htg : ∀ i d, els[i]? = some d → TGD g js (ρs i) (ρt i) d) (hj : ∀ i j, j ∈ js → j ∉ slotOf (os i))
    (hb : ∀ i, i < els.length → TR X body (A K (ρt i) (os i)) (A K (ρs (i + 1)) (os (i + 1))) Rt) (h0 : ∀ Γ σ H, A K ρ o Γ σ H → A K (ρs 0) (os 0) Γ σ H)
    (hR : ∀ (Γ Γ' : Gm) v H, Γ'.M = Γ.M → Γ'.E = Γ.E → Same Γ.G Γ'.G → Rt Γ' v H → Rt Γ v H)
    (hs : ∀ x, foldedSetIterable iter X.env x = pure x := by intro _; rfl) : T1 X (.For tg iter body [] pos) (A K ρ o) (A K (ρs els.length) (os els.length)) Rt := fun Γ => by
  refine ps_weak (ps_for (tb := fun D σ H => ∃ z : Nat × Gm, z.1 < els.length ∧ A K (ρt z.1) (os z.1) z.2 σ H ∧ (∀ σ' H', A K (ρs (z.1 + 1)) (os (z.1 + 1)) z.2 σ' H' → D.nx σ' H') ∧ ∀ v H', Rt z.2 v H' → D.rt v H') hp hc hi hg (pss_ex fun z => pss_when fun hz => hb z.1 hz z.2) hs) fun D σ H ⟨p, n, r⟩ => ?_
  obtain ⟨M', m, hh, ⟨z1, z2, z3⟩, le, kk⟩ := p.eval
  refine ⟨M', m, hh, fun J H1 s1 wd => ?_⟩
  have p0 := p.base
  have p1 : A K ρ o Γ σ H1 := kk _ _ _ s1 (hh.mono (res_mono s1)) fun j hj => rfl
  have GH : Same Γ.G H1 := p0.1.trans s1
  have sG1 : Same (mixG M' Γ.G H1) H1 := fun a u q => by
    by_cases z : M' a = true
    · rw [mix_in z] at q
      exact GH a u q
    · rw [mix_out z] at q
      exact q
  have GG : Same Γ.G (mixG M' Γ.G H1) := fun a u q => by
    by_cases z : M' a = true
    · rw [mix_in z]
      exact q
    · rw [mix_out z]
      exact GH a u q
  have p2 : A K ρ o { Γ with G := mixG M' Γ.G H1 } σ H1 := z3 H1 s1 _ sG1 fun a z => mix_in z
  generalize hΓ : ({ Γ with G := mixG M' Γ.G H1 } : Gm) = Γ1 at p2
  have eM : Γ1.M = Γ.M := by rw [← hΓ]
  have eE : Γ1.E = Γ.E := by rw [← hΓ]
  have eG : Γ1.G = mixG M' Γ.G H1 := by rw [← hΓ]
  have low : ∀ {ρ2 : DE} {o2 : Mu} {σ2 : L2.St} {H2 : Hp}, A K ρ2 o2 Γ1 σ2 H2 → A K ρ2 o2 Γ σ2 H2 := fun q => A.lower eM eE (by rw [eG]; exact GG) q
  refine ⟨fun i n σ2 H2 => n = els.length - i ∧ i ≤ els.length ∧ A K (ρs i) (os i) Γ1 σ2 H2, ⟨els.length, by simp, Nat.zero_le _, h0 _ _ _ p2⟩, ?_⟩
  rintro i n2 σ2 H2 ⟨rfl, hi2, w⟩
  obtain ⟨M2, m2, hh2, ⟨y1, y2, y3⟩, le2, k2⟩ := w.eval
  have up : ∀ a u, res M' H1 a = some u → Γ1.G a = some u ∧ Γ.M a = false := fun a u q => by
    unfold res at q
    split at q
    · cases q
    · rename_i z
      refine ⟨by rw [eG, mix_out z]; exact q, ?_⟩
      cases e : Γ.M a with
      | false => rfl
      | true => exact absurd (z2 a e) z
  have sF : Same (res M' H1) H2 := fun a u q => w.base.1 a u (up a u q).1
  have sF2 : Same (res M' H1) (res M2 H2) := fun a u q => by
    obtain ⟨q1, q2⟩ := up a u q
    rw [res_in (by rw [y1 a u q1, eM]; exact q2)]
    exact sF a u q
  obtain ⟨wg, ws, wy⟩ := wd H2 sF
  by_cases hlt : i < els.length
  · refine .inr ⟨wg i hlt, A K (ρs (i + 1)) (os (i + 1)) Γ1, fun σ3 H3 q => ⟨els.length - (i + 1), by omega, rfl, hlt, q⟩, fun x H3 y => ?_⟩
    have hd : els[i]? = some els[i] := List.getElem?_eq_getElem hlt
    obtain ⟨s3, dv⟩ := wy i x H3 els[i] hd y
    refine htg i els[i] hd M2 x σ2 H3 _ (m2.mono s3) (hh2.mono (res_mono s3)) (dv M2 m2 sF2) fun σ3 ag hh3 => ?_
    exact ⟨(i, Γ1), hlt, k2 (ρt i) σ3 H3 s3 hh3 fun j hjs => ag.2 j fun z => hj i j z hjs, fun σ' H' q => q, fun v H' q => r v H' (hR Γ Γ1 v H' eM eE (by rw [eG]; exact GG) q)⟩
  · have e : i = els.length := by omega
    subst e
    exact .inl ⟨ws, n _ _ (low w)⟩
theorem rd_up (d : Dc) : ∀ (Γ Γ' : Gm) v H, Γ'.M = Γ.M → Γ'.E = Γ.E → Same Γ.G Γ'.G → Rd' d Γ' v H → Rd' d Γ v H := fun Γ Γ' v H eM eE s ⟨a, b, c⟩ => ⟨s.trans a, by rw [← eE]; exact b, by rw [← eM]; exact c⟩
end
end PX

namespace PX
open PySem PySem.Spec PyProof.Rows L2
abbrev FnP (K : PySem.W.Frag) (x qual : Str) (st : Stmt) (f : Addr) (fd : FuncData) : Prop := FunD K x qual (defArgs st) (defBody st) (defScope st) [] [] f fd
/-- a def of the module that keeps a promise -/
structure Dn (P : Program) (w : World) (K : PySem.W.Frag) (mg : Str → Option Value) (base : Heap) (x : Str) (k : Nat) (R : List Dc → Dc → Prop) : Prop where
  ex : ∃ f fd ps, FnOk P w K mg base CX0 k f fd ps (spP R) ∧ mg x = some (.ref f) ∧ PySem.W.keepIn K (.ref f) = true ∧ Binds K fd ps []
def ρ0 (N : List Str) (ds : List Dc) : DE := ds.map some ++ List.replicate (N.length - ds.length) none
theorem holds_start {N : List Str} {H : Hp} {ds : List Dc} {vs : List V} (h : DsP H ds vs) : Holds (ρ0 N ds) (L2.start N vs) H := by
  have hl : ds.length = vs.length := by
    induction h with
    | nil => rfl
    | cons _ _ ih => rw [List.length_cons, List.length_cons, ih]
  have at' : ∀ {ds : List Dc} {vs : List V}, DsP H ds vs → ∀ (i : Nat) (d : Dc), ds[i]? = some d → ∃ v, vs[i]? = some v ∧ d.p H v := by
    intro ds vs h
    induction h with
    | nil => intro i d e; simp at e
    | cons h t ih =>
      intro i d e
      cases i with
      | zero =>
        simp at e
        subst e
        exact ⟨_, rfl, h⟩
      | succ i => simpa using ih i d (by simpa using e)
  refine ⟨by unfold ρ0 L2.start; simp [hl], fun i d e => ?_⟩
  unfold ρ0 at e
  unfold L2.start
  by_cases q : i < ds.length
  · rw [List.getElem?_append_left (by simpa using q), List.getElem?_map] at e
    cases z : ds[i]? with
    | none => rw [z] at e; cases e
    | some d' =>
      rw [z] at e
      simp at e
      subst e
      obtain ⟨v, h1, h2⟩ := at' h i d' z
      exact ⟨v, by rw [List.getElem?_append_left (by rw [List.length_map, ← hl]; exact q), List.getElem?_map, h1]; rfl, h2⟩
  · rw [List.getElem?_append_right (by simpa using q)] at e
    have := List.mem_of_getElem? e
    simp at this
abbrev cxf (P : Program) (w : World) (K : PySem.W.Frag) (mg : Str → Option Value) (base : Heap) (N : List Str) (qual : Str) (st : Stmt) (f : Addr) (cdv : Value) (A : Around) (outer : List Env) (s : Shared) (H : Hp) (E : XK) : Cx := (cxOf CX0 P w K mg base N qual (defScope st) f cdv A outer s H E).nox
theorem fnok_of {P : Program} {w : World} {K : PySem.W.Frag} {mg : Str → Option Value} {base : Heap} {x qual : Str} {st : Stmt} {f : Addr} {fd : FuncData} {N ps : List Str} {k : Nat} {R : List Dc → Dc → Prop} (F : FnP K x qual st f fd) (S : FnScope N ps (defScope st)) (hlen : ∀ ds d, R ds d → ds.length = ps.length)
    (body : ∀ (cdv : Value) (A' : Around) (outer : List Env) (s : Shared) (H : Hp) (E : XK), Room k (A'.deeper (envOfC qual (defScope st) s.heap.objs.size f cdv)) → ∀ ds d, R ds d →
      TR (cxf P w K mg base N qual st f cdv A' outer s H E) (defBody st) (A K (ρ0 N ds) none) (fun Γ _ H' => Rd' d Γ .non H') (Rd' d)) : FnOk P w K mg base CX0 (k + 1) f fd ps (spP R) := by
  refine F.ok S (fun vs H Q E h => ?_) (fun cdv A' outer s H vs Q E hr h => ?_)
  · obtain ⟨M, ds, d, m, hR, hd, _⟩ := h
    have : ds.length = vs.length := by
      clear hR
      induction hd with
      | nil => rfl
      | cons _ _ ih => rw [List.length_cons, List.length_cons, ih]
    rw [← this]
    exact hlen ds d hR
  · obtain ⟨M, ds, d, m, hR, hd, q⟩ := h
    refine ⟨_, PSs.nox (body cdv A' outer s H E hr ds d hR ⟨H, M, fun _ => True, fun _ _ _ _ => trivial⟩), ⟨Same.refl _, m, trivial, holds_start hd⟩, fun σ' H' h => q _ H' h.1 h.2.2, fun v H' h => q v H' h.1 h.2.2⟩
theorem dn_of {P : Program} {w : World} {K : PySem.W.Frag} {mg : Str → Option Value} {base : Heap} {x : Str} {st : Stmt} {f : Addr} {fd : FuncData} {N ps : List Str} {k : Nat} {R : List Dc → Dc → Prop} (F : FnP K x x st f fd) (hm : mg x = some (.ref f)) (S : FnScope N ps (defScope st)) (hlen : ∀ ds d, R ds d → ds.length = ps.length)
    (hb : ∀ (kV doc pm : Value) (an : Option Addr) (cdv ct : Value) (us : List Value), us.length = ps.length → bindArgs (PySem.W.fnOf x x (defArgs st) (defBody st) (defScope st) .none kV doc pm an cdv ct) ⟨us, []⟩ = pure (ps.zip us))
    (body : ∀ (cdv : Value) (A' : Around) (outer : List Env) (s : Shared) (H : Hp) (E : XK), Room k (A'.deeper (envOfC x (defScope st) s.heap.objs.size f cdv)) → ∀ ds d, R ds d →
      TR (cxf P w K mg base N x st f cdv A' outer s H E) (defBody st) (A K (ρ0 N ds) none) (fun Γ _ H' => Rd' d Γ .non H') (Rd' d)) : Dn P w K mg base x (k + 1) R :=
  ⟨f, fd, ps, fnok_of F S hlen body, hm, F.kp, F.bindsN hb⟩
theorem pv_dn {X : Cx} {ρ : DE} {d : Dc} {e : Expr} {pos : Pos} {x : Str} {k : Nat} {R : List Dc → Dc → Prop} {es : List Expr} {ds : List Dc} {p : Pos} (D : Dn X.prog X.w X.K X.mg X.base x k R) (hr : Room k X.A) (hg : Gl X x)
    (ha : PVA X (e :: es) ρ ds) (h : R ds d) (hdb : (x == ("__debug__" : Str)) = false := by decide) (he : starEach (e :: es) X.env = (false, eval e X.env) :: starEach es X.env := by rfl) (hpl : (backTo pos (starEach es X.env)).any (·.1) = false := by rfl) :
    PV X (.Call (.Name x p) (e :: es) [] pos) ρ d := by
  obtain ⟨f, fd, ps, F, hm, hk, hb⟩ := D.ex
  exact pv_call F hr hg hm hk hb ha h hdb he hpl
/-! ### the text -/
def top (i : Nat) : Stmt := PySem.Challenge.pw_pitlots_k47_whole_best_profiles.main.body.getD i (.Pass ⟨0, 0, 0, 0⟩)
/-- what the defs read of the module and of the built-ins -/
structure Fx (K : PySem.W.Frag) (mg : Str → Option Value) (cG cT : Addr) : Prop where
  nisinstance : mg "isinstance" = none
  nint : mg "int" = none
  nbool : mg "bool" = none
  ntuple : mg "tuple" = none
  nlist : mg "list" = none
  nstr : mg "str" = none
  nlen : mg "len" = none
  nsum : mg "sum" = none
  nmax : mg "max" = none
  nmin : mg "min" = none
  nall : mg "all" = none
  nsorted : mg "sorted" = none
  nrange : mg "range" = none
  nenumerate : mg "enumerate" = none
  nzip : mg "zip" = none
  mostBlocks : ∃ t, mg "MOST_BLOCKS" = some (.int 10 t)
  mostColumns : ∃ t, mg "MOST_COLUMNS" = some (.int 5 t)
  mostRule : ∃ t, mg "MOST_RULE" = some (.int 9 t)
  mostWorth : ∃ t, mg "MOST_WORTH" = some (.int 50 t)
  gGround : mg "Ground" = some (.ref cG)
  gTable : mg "Table" = some (.ref cT)
  clG : Cls K cG
  clT : Cls K cT
  isG : C8.InsC K cG
  isT : C8.InsC K cT
  naTable : NoAttr K cG "table"
  naSizes : NoAttr K cT "sizes"
  naAngles : NoAttr K cT "angles"
theorem pv_gInt {X : Cx} {ρ : DE} {x : Str} {i : Int} {pos : Pos} (hg : Gl X x) (h : ∃ t, X.mg x = some (.int i t)) (hd : (x == ("__debug__" : Str)) = false := by decide) : PV X (.Name x pos) ρ (It' X.K i) := by
  obtain ⟨t, h⟩ := h
  exact pv_c (pe_glob (v := .int i) hg h ⟨t, rfl⟩ hd) fun _ => .int _
theorem pv_gCls {X : Cx} {ρ : DE} {x : Str} {C : Addr} {pos : Pos} (hg : Gl X x) (h : X.mg x = some (.ref C)) (hd : (x == ("__debug__" : Str)) = false := by decide) : PV X (.Name x pos) ρ (Vl (.ref C)) := pv_c (pe_glob (v := .ref C) hg h rfl hd) fun _ => rfl
theorem pv_bTy {X : Cx} {ρ : DE} {x : Str} {T : String} {pos : Pos} (hg : Gl X x) (h : X.mg x = none) (hv : bootBuiltins x = some (.type T)) (hn : x ≠ "__name__" := by decide) (hd : (x == ("__debug__" : Str)) = false := by decide) : PV X (.Name x pos) ρ (Vl (.ty T)) :=
  pv_c (pe_bltn (v := .ty T) hg h hv rfl hn hd) fun _ => rfl
end PX

namespace PX
open PySem PySem.Spec PyProof.Rows L2
theorem rc_isC {K : PySem.W.Frag} {C : Addr} {fs : List (Str × Dc)} : RC (fun xs H Q => ∃ a dx fs, xs = [.ref a, .ref C] ∧ H a = some (.ins C dx fs) ∧ Q (.bl true) H) [Ob C fs, Vl (.ref C)] (Bo K true) := fun M H vs Q m hv q => by
  cases hv with
  | cons h t =>
    cases t with
    | cons h2 t =>
      cases t
      cases h2
      obtain ⟨a, dx, gs, rfl, h1, h3⟩ := h
      exact ⟨a, dx, gs, rfl, res_le _ _ _ _ h1, q _ H (Same.refl H) (.bl _)⟩
theorem rd_cat {K : PySem.W.Frag} {ds es : List PyData} (hl : ds.length + es.length ≤ 1000000) : RD rCat (Ls K ds) (Ls K es) (Ls K (ds ++ es)) := fun M H x y Q m ⟨a, xs, e1, e2, e3⟩ ⟨b, ys, e4, e5, e6⟩ q => by
  refine ⟨a, b, xs, ys, e1, e4, res_le _ _ _ _ e2, res_le _ _ _ _ e5, ?_, fun p hp => q _ _ (same_upd hp) ⟨p, _, rfl, res_upd_at (m.new hp), dps_mono (res_mono (same_upd hp)) _ _ (dps_app e3 e6)⟩⟩
  have := dps_len e3
  have := dps_len e6
  exact Nat.le_trans (m := 1000000) (by omega) (by decide)
theorem rd_catT {K : PySem.W.Frag} {ds es : List PyData} (hl : ds.length + es.length ≤ 1000000) : RD (rCatA K) (dat K (.tuple ds)) (dat K (.tuple es)) (dat K (.tuple (ds ++ es))) := fun M H x y Q m hx hy q => by
  cases (show Dp K _ x (.tuple ds) from hx) with
  | @tup a xs _ h1 h2 =>
    cases (show Dp K _ y (.tuple es) from hy) with
    | @tup b ys _ h3 h4 =>
      have l1 := dps_len h2
      have l2 := dps_len h4
      refine ⟨a, b, xs, ys, rfl, rfl, same_t (res_le M H) h1, same_t (res_le M H) h3, Nat.le_trans (m := 1000000) (by omega) (by decide), fun e => ?_, fun _ e => ?_, fun _ _ p hp => q _ _ (same_upd hp) (Dp.tup (.inl (.inl (res_upd_at (m.new hp)))) (dps_mono (res_mono (same_upd hp)) _ _ (dps_app h2 h4)))⟩
      · subst e
        cases h2
        exact q _ H (Same.refl H) (Dp.tup h3 h4)
      · subst e
        cases h4
        rw [List.append_nil] at q
        exact q _ H (Same.refl H) (Dp.tup h1 h2)
/-! ### how the program's data stand -/
open PL in
theorem gI {xs : List Int} {i : Int} (h0 : 0 ≤ i) (h : i < xs.length) : (xs.map PyData.int)[i.toNat]? = some (.int (PL.g xs i.toNat)) := by
  have hl : i.toNat < xs.length := by omega
  rw [List.getElem?_map, List.getElem?_eq_getElem hl]
  unfold PL.g
  rw [List.getD_eq_getElem?_getD, List.getElem?_eq_getElem hl]
  rfl
theorem g_get {xs : List Int} {i : Nat} (h : i < xs.length) : xs[i] = PL.g xs i := by
  unfold PL.g
  rw [List.getD_eq_getElem?_getD, List.getElem?_eq_getElem h]
  rfl
abbrev eI (xs : List Int) : PyData := .tuple (xs.map .int)
abbrev eP (x : Int × Int) : PyData := .tuple [.int x.1, .int x.2]
theorem filt_true {α : Type} (l : List α) : (l.filter fun _ => true) = l := List.filter_eq_self.mpr (by simp)
section
variable {X : Cx} {ρ : DE}
/-- all([elt for y in l]), l a tuple of whole numbers, each part true -/
theorem pv_allT {xs : List Int} {elt l tg : Expr} {scope : Scope} {p pos pos2 : Pos} (y : Str) (j : Nat) (hc : X.calm = true) (hN : X.N.Nodup) (hall : X.mg "all" = none) (hga : Gl X "all") (hl : PV X l ρ (dat X.K (eI xs))) (ok : BlkOk X.N X.env.scope scope [(y, j)])
    (hv : ∀ d, ρ[j]? ≠ some (some d)) (hlen : xs.length ≤ 1000000) (hp : ∀ (s : Shared) (H : Hp) (C : Addr) (cl : List (Str × Addr)) (fp : List Addr), PG (Cx.bl X s H scope C cl fp) tg (gName j))
    (he : ∀ x, x ∈ xs → ∀ (s : Shared) (H : Hp) (C : Addr) (cl : List (Str × Addr)) (fp : List Addr), PV (Cx.bl X s H scope C cl fp) elt (ρ.set j (some (It' X.K x))) (Bo X.K true))
    (hs : ∀ x, foldedSetIterable l X.env x = pure x := by intro _; rfl) (h1 : starEach (.ListComp elt [⟨tg, l, [], 0⟩] scope pos2 :: []) X.env = (false, eval (.ListComp elt [⟨tg, l, [], 0⟩] scope pos2) X.env) :: starEach [] X.env := by rfl) :
    PV X (.Call (.Name "all" p) [.ListComp elt [⟨tg, l, [], 0⟩] scope pos2] [] pos) ρ (Bo X.K true) := by
  have e1 : (xs.map PyData.int).map (dat X.K) = xs.map (It' X.K) := by rw [List.map_map]; rfl
  have e2 : (xs.filter fun _ => true).map (fun _ => PyData.bool true) = (xs.map fun _ => true).map PyData.bool := by rw [filt_true, List.map_map]; rfl
  refine pv_is (pv_callB (cr_all hc) hga hall (by decide +kernel) (pva_cons (pv_is (pv_lc [(y, j)] xs (It' X.K) (fun x => ρ.set j (some (It' X.K x))) (fun _ => true) (fun _ => .bool true) hc hN (by rw [← e1]; exact it_tup hl) ok (by intro k hk d; simp at hk; subst hk; exact hv d) hlen
    hp (fun x _ => tg_name j) (fun _ _ _ _ _ _ _ => pvts_nil) (fun x hx _ s H C cl fp => he x hx s H C cl fp) hs) (congrArg (Ls X.K) e2)) pva_nil h1) rc_all) ?_
  have : (xs.map fun _ => true).all id = true := by simp
  rw [this]
end
/-! ### new instances -/
def spI (C : Addr) (R : List Dc → List (Str × Dc) → Prop) : Sp := fun vs H Q _ => ∃ M x dx us ds fs, vs = .ref x :: us ∧ M x = true ∧ MOk M H ∧ H x = some (.ins C dx []) ∧ R ds fs ∧ DsP (res M H) ds us ∧
  ∀ H' gs, (∀ a o, a ≠ x → H a = some o → H' a = some o) → H' x = some (.ins C dx gs) → (∀ f d, (f, d) ∈ fs → ∃ y, gs.lookup f = some y ∧ d.p (res M H') y) → Q .non H'
theorem pv_make {X : Cx} {ρ : DE} {x : Str} {C f : Addr} {fd : FuncData} {ps : List Str} {k : Nat} {R : List Dc → List (Str × Dc) → Prop} {e : Expr} {es : List Expr} {ds : List Dc} {fs : List (Str × Dc)} {p pos : Pos} (Mk' : Mk X.K C f) (F : FnOk X.prog X.w X.K X.mg X.base CX0 k f fd ps (spI C R)) (hr : Room (k + 1) X.A) (hg : Gl X x) (hm : X.mg x = some (.ref C)) (hb : Binds X.K fd ps [])
    (ha : PVA X (e :: es) ρ ds) (h : R ds fs) (hdb : (x == ("__debug__" : Str)) = false := by decide) (he : starEach (e :: es) X.env = (false, eval e X.env) :: starEach es X.env := by rfl) (hpl : (backTo pos (starEach es X.env)).any (·.1) = false := by rfl) :
    PV X (.Call (.Name x p) (e :: es) [] pos) ρ (Ob C fs) := pe_weak (pe_make Mk' F hr hg hm hb .nil pass0 ha hdb he hpl) fun σ H Q ⟨M, m, hh, q⟩ => ⟨M, m, hh, fun vs H1 s1 dvs z dz hz hdz hne => by
      rw [List.append_nil]
      have n1 : upd H1 dz (.own z) z = none := by
        rw [upd_ne (fun q => hne q.symm)]
        exact hz
      have s2 : Same H1 (upd (upd H1 dz (.own z)) z (.ins C dz [])) := (same_upd hdz).trans (same_upd n1)
      have mz : M z = false := (m.mono s1).new hz
      have er : ∀ H2 : Hp, Same (res (addM M z) H2) (res M H2) := fun H2 => res_add_le M z H2
      refine ⟨addM M z, z, dz, vs, ds, fs, rfl, addM_self _ _, fun a ha => ?_, upd_same, h, DsP.mono (fun a o ho => ?_) dvs, fun H' gs k1 k2 k3 => ⟨rfl, q _ H' (s1.trans fun a o ho => ?_) ⟨z, dz, gs, rfl, by rw [res_in mz]; exact k2, fun g d hd => ?_⟩⟩⟩
      · by_cases z1 : a = z
        · rw [z1, upd_same]
          simp
        · rw [addM_ne z1] at ha
          exact ((m.mono s1).mono s2) a ha
      · have z1 : a ≠ z := fun w => by
          rw [w, res_in mz, hz] at ho
          cases ho
        have ho2 := res_mono s2 a o ho
        unfold res at ho2 ⊢
        rw [addM_ne z1]
        exact ho2
      · have z1 : a ≠ z := fun w => by rw [w, hz] at ho; cases ho
        exact k1 a o z1 (s2 a o ho)
      · obtain ⟨y, e1, e2⟩ := k3 g d hd
        exact ⟨y, e1, d.mono (er H') e2⟩⟩
/-- what an __init__ stands on -/
def AI (C x dx : Addr) (fs : List (Str × Dc)) (ρ : DE) : Asr := fun Γ σ H => ∃ gs : List (Str × V), Same Γ.G H ∧ MOk Γ.M H ∧ Γ.M x = true ∧ Γ.G x = none ∧ H x = some (.ins C dx gs) ∧ gs.length = fs.length ∧ (∀ f, f ∉ fs.map (·.1) → gs.lookup f = none) ∧ (∀ f d, (f, d) ∈ fs → ∃ y, gs.lookup f = some y ∧ d.p (res Γ.M H) y) ∧ Holds ρ σ (res Γ.M H)
theorem t_fld {X : Cx} {C x dx : Addr} {fs : List (Str × Dc)} {ρ : DE} {f : Str} {d : Dc} {o v : Expr} {pos' pos : Pos} {Rt : Rl} (ho : PV X o ρ (Vl (.ref x))) (hv : PV X v ρ d) (c : Cls X.K C) (na : NoAttr X.K C f) (hf : f ∉ fs.map (·.1)) (hl : fs.length < 10) (hs : swapsWith v (some (.Attribute o f pos')) pos.line X.env = pure false := by rfl) :
    T1 X (.Assign [.Attribute o f pos'] v pos) (AI C x dx fs ρ) (AI C x dx (fs ++ [(f, d)]) ρ) Rt := fun Γ => ps_weak (ps_fld ho hv hs) fun D σ H ⟨⟨gs, h1, h2, h3, h4, h5, h6, h7, h8, h9⟩, n, r⟩ =>
  ⟨Γ.M, h2, h9, fun y H1 s1 dy => ⟨Γ.M, h2.mono s1, h9.mono (res_mono s1), fun z H2 s2 dz => by
    have s12 := s1.trans s2
    refine ⟨x, C, dx, gs, dz, s12 _ _ h5, c, na, by omega, n _ _ ?_⟩
    have er : res Γ.M (upd H2 x (.ins C dx (putF f y gs))) = res Γ.M H2 := res_upd_mut h3
    have lk := lookup_putF f
    refine ⟨putF f y gs, fun a u q => ?_, fun a ha => ?_, h3, h4, upd_same, ?_, fun g hg => ?_, fun g e hg => ?_, by rw [er]; exact h9.mono (res_mono s12)⟩
    · rw [upd_ne (fun w => by rw [w, h4] at q; cases q)]
      exact s12 _ _ (h1 a u q)
    · by_cases w : a = x
      · rw [w, upd_same]
        simp
      · rw [upd_ne w]
        exact (h2.mono s12) a ha
    · have plen : ∀ gs : List (Str × V), gs.lookup f = none → (putF f y gs).length = gs.length + 1 := fun gs => by
        induction gs with
        | nil => intro _; rfl
        | cons g gs ih =>
          intro hn
          obtain ⟨gf, gv⟩ := g
          rw [List.lookup_cons] at hn
          have gne : ¬ gf = f := fun w => by
            subst w
            simp at hn
          have hn2 : gs.lookup f = none := by
            have : (f == gf) = false := beq_eq_false_iff_ne.mpr fun w => gne w.symm
            rw [this] at hn
            exact hn
          show (if gf = f then (gf, y) :: gs else (gf, gv) :: putF f y gs).length = _
          rw [if_neg gne, List.length_cons, ih hn2, List.length_cons]
      rw [plen gs (h7 f hf), h6, List.length_append]
      rfl
    · rw [lk, if_neg (fun w => hg (by rw [w, List.map_append]; exact List.mem_append_right _ (List.mem_singleton.mpr rfl)))]
      exact h7 g fun w => hg (by rw [List.map_append]; exact List.mem_append_left _ w)
    · rw [lk]
      rcases List.mem_append.mp hg with hg | hg
      · have gne : ¬ g = f := fun w => hf (by rw [← w]; exact List.mem_map.mpr ⟨_, hg, rfl⟩)
        rw [if_neg gne]
        obtain ⟨u, e1, e2⟩ := h8 g e hg
        exact ⟨u, e1, by rw [er]; exact e.mono (res_mono s12) e2⟩
      · cases List.mem_singleton.mp hg
        rw [if_pos rfl]
        exact ⟨y, rfl, by rw [er]; exact d.mono (res_mono s2) dy⟩⟩⟩
def gmI (H : Hp) (M : Addr → Bool) (x : Addr) (o : HO) (hx : M x = true) : Gm := ⟨fun a => if a = x then none else H a, M, fun H' => H' x = some o, fun H1 H2 h e => (h x hx) ▸ e⟩
structure IniOk (C x dx : Addr) (Γ : Gm) : Prop where
  m : Γ.M x = true
  g : Γ.G x = none
  e : ∀ H, Γ.E H → H x = some (.ins C dx [])
theorem t1_phi {X : Cx} {st : Stmt} {P Nx : Asr} {Rt : Rl} {φ : Gm → Prop} (h : T1 X st P Nx Rt) : T1 X st (fun Γ σ H => φ Γ ∧ P Γ σ H) (fun Γ σ H => φ Γ ∧ Nx Γ σ H) Rt := fun Γ => ps_weak (h Γ) fun D σ H ⟨⟨f, p⟩, n, r⟩ => ⟨p, fun σ' H' q => n σ' H' ⟨f, q⟩, r⟩
theorem a_ai {K : PySem.W.Frag} {C x dx : Addr} {ρ : DE} : ∀ Γ σ H, IniOk C x dx Γ ∧ A K ρ none Γ σ H → AI C x dx [] ρ Γ σ H := fun Γ σ H ⟨i, h1, h2, h3, h4⟩ => ⟨[], h1, h2, i.m, i.g, i.e H h3, rfl, fun _ _ => rfl, (fun _ _ h => nomatch h), h4⟩
theorem els_enum {α : Type} {K : PySem.W.Frag} {xs : List α} {enc : α → PyData} {i : Nat} {d : Dc} (h : ((xs.map enc).zipIdx.map fun z => Tp K (It' K (z.2 : Nat)) (dat K z.1))[i]? = some d) : ∃ hi : i < xs.length, d = Tp K (It' K (i : Nat)) (dat K (enc xs[i])) := by
  have hi : i < xs.length := by
    have := (List.getElem?_eq_some_iff.mp h).1
    simpa using this
  refine ⟨hi, ?_⟩
  have e : (xs.map enc).zipIdx[i]? = some (enc xs[i], i) := by simp [hi]
  rw [List.getElem?_map, e] at h
  exact (Option.some.inj h).symm
theorem els_map {α : Type} {xs : List α} {el : α → Dc} {i : Nat} {d : Dc} (h : (xs.map el)[i]? = some d) : ∃ hi : i < xs.length, d = el xs[i] := by
  have hi : i < xs.length := by
    have := (List.getElem?_eq_some_iff.mp h).1
    simpa using this
  refine ⟨hi, ?_⟩
  rw [List.getElem?_map, List.getElem?_eq_getElem hi] at h
  exact (Option.some.inj h).symm
theorem fnok_init {P : Program} {w : World} {K : PySem.W.Frag} {mg : Str → Option Value} {base : Heap} {C : Addr} {qual : Str} {st : Stmt} {f : Addr} {fd : FuncData} {N ps : List Str} {k : Nat} {R : List Dc → List (Str × Dc) → Prop} (F : FnP K "__init__" qual st f fd) (S : FnScope N ps (defScope st)) (hlen : ∀ ds fs, R ds fs → ds.length + 1 = ps.length)
    (body : ∀ (cdv : Value) (A' : Around) (outer : List Env) (s : Shared) (H : Hp) (E : XK), Room k (A'.deeper (envOfC qual (defScope st) s.heap.objs.size f cdv)) → ∀ (x dx : Addr) ds fs, R ds fs →
      TR (cxf P w K mg base N qual st f cdv A' outer s H E) (defBody st) (fun Γ σ H => IniOk C x dx Γ ∧ A K (ρ0 N (Vl (.ref x) :: ds)) none Γ σ H) (AI C x dx fs (ρ0 N (Vl (.ref x) :: ds))) (fun _ _ _ => False)) : FnOk P w K mg base CX0 (k + 1) f fd ps (spI C R) := by
  refine F.ok S (fun vs H Q E h => ?_) (fun cdv A' outer s H vs Q E hr h => ?_)
  · obtain ⟨M, x, dx, us, ds, fs, rfl, _, m, hx, hR, hd, _⟩ := h
    have : ds.length = us.length := by
      clear hR
      induction hd with
      | nil => rfl
      | cons _ _ ih => rw [List.length_cons, List.length_cons, ih]
    rw [List.length_cons, ← this]
    exact hlen ds fs hR
  · obtain ⟨M, x, dx, us, ds, fs, rfl, hM, m, hx, hR, hd, q⟩ := h
    refine ⟨_, PSs.nox (body cdv A' outer s H E hr x dx ds fs hR (gmI H M x (.ins C dx []) hM)), ⟨⟨⟨hM, if_pos rfl, fun _ h => h⟩, fun a o h => ?_, m, hx, holds_start (.cons rfl hd)⟩, fun σ' H' h => ?_, fun v H' h => h.elim⟩⟩
    · have h' : (if a = x then none else H a) = some o := h
      by_cases z : a = x
      · rw [if_pos z] at h'
        cases h'
      · rw [if_neg z] at h'
        exact h'
    · obtain ⟨gs, h1, h2, h3, h4, h5, h6, h7, h8, h9⟩ := h
      exact q H' gs (fun a o z e => h1 a o (by show (if a = x then none else H a) = _; rw [if_neg z]; exact e)) h5 h8
/-! ### len of an own instance -/
theorem call_lenOwn {X : Cx} {C f : Addr} {fd : FuncData} {ps : List Str} {k : Nat} {sp : Sp} (F : FnOk X.prog X.w X.K X.mg X.base CX0 k f fd ps sp) (hr : Room (k + 1) X.A) (m : Meth X.K C "__len__" f) (hb : Binds X.K fd ps []) :
    CallR X (.builtin "len") (fun xs H Q => ∃ a dx fs, xs = [.ref a] ∧ H a = some (.ins C dx fs) ∧ sp [.ref a] H (fun v H' => ∃ n : Int, v = .int n ∧ (0 ≤ n ∧ n < 2 ^ 63) ∧ Q (.int n) H') E0) := by
  intro pins s σ H xs us Q I r h
  obtain ⟨a, dx, fs, rfl, ha, q⟩ := h
  cases r with
  | cons r rr =>
    cases rr
    cases r
    obtain ⟨mA, O, _⟩ := ins_get I.hok ha
    obtain ⟨od, J, _⟩ := O.look
    obtain ⟨mm, fr⟩ := I.fr
    refine PySem.W.len_K fr I.ok.mod.kin J m.at_ m.fn ?_
    have hl : ([Value.ref a] ++ ([] : List Value)).length = ps.length := F.len [.ref a] _ _ _ q
    refine wpAny_call (codeAny_mono (F.run X.A.in1 X.stack s H ⟨[.ref a], []⟩ [.ref a] [.ref a] _ E0 hr.in1 I.env0.in1 (by have := hb s [.ref a] I.kIn hl; rwa [List.append_nil] at this) (.cons rfl .nil) q) fun rs s' hq => ?_)
    cases rs with
    | error e => exact hq.elim
    | ok fl =>
      cases fl with
      | ret u =>
        obtain ⟨v, H', I', rv, n, rfl, hn, q2⟩ := I.after hq
        obtain ⟨t, rfl⟩ := rv
        exact ⟨hn, .int n, H', I'.tok _, ⟨_, rfl⟩, q2⟩
      | next => exact hq.elim
      | brk => exact hq.elim
      | cont => exact hq.elim
end PX

namespace PX
open PySem PySem.Spec PyProof.Rows L2
section
variable {P : Program} {w : World} {K : PySem.W.Frag} {mg : Str → Option Value} {base : Heap} {cG cT f : Addr} {fd : FuncData}
/-! ### is_from -/
abbrev sIsFrom : Stmt := top 14
theorem scIsFrom : FnScope ["value", "low", "high"] ["value", "low", "high"] (defScope sIsFrom) := ⟨rfl, rfl, rfl, by decide +kernel, rfl, by decide +kernel, by decide +kernel⟩
def RisFrom (K : PySem.W.Frag) : List Dc → Dc → Prop := fun ds d => ∃ v lo hi : Int, ds = [It' K v, It' K lo, It' K hi] ∧ d = Bo K (decide (lo ≤ v) && decide (v ≤ hi))
theorem dn_is_from (F : FnP K "is_from" "is_from" sIsFrom f fd) (hm : mg "is_from" = some (.ref f)) (T : Fx K mg cG cT) : Dn P w K mg base "is_from" 1 (RisFrom K) := by
  refine dn_of F hm scIsFrom (fun ds d ⟨_, _, _, h, _⟩ => by rw [h]; rfl) (fun _ _ _ _ _ _ us hl => match us, hl with | [_, _, _], _ => rfl) ?_
  rintro cdv A' outer s H E hr ds d ⟨v, lo, hi, rfl, rfl⟩
  refine tr_cons (t_ret ?_ (rd_ok _)) tr_nil
  exact pv_is (pv_and (pv_callB call_isi (by rfl) T.nisinstance (by decide +kernel) (pva_cons (pv_var (pv 0) rfl) (pva_cons (pv_bTy (by rfl) T.nint (by decide +kernel)) pva_nil)) (rc_isi (b := true) (.ty "int") ty_int (kit_ty (by decide +kernel)))) fun _ => (pv_and (pv_not (pv_callB call_isi (by rfl) T.nisinstance (by decide +kernel) (pva_cons (pv_var (pv 0) rfl) (pva_cons (pv_bTy (by rfl) T.nbool (by decide +kernel)) pva_nil)) (rc_isi (b := false) (.ty "bool") ty_int (kit_ty (by decide +kernel))))) fun _ => (pv_one (pv_chain op_le op_le (pv_var (pv 1) rfl) (pv_var (pv 0) rfl) (pv_var (pv 2) rfl) (rd_I0 fun _ => .bl _) fun _ => rd_I0 fun _ => .bl _)))) rfl
/-! ### rises -/
abbrev sRises : Stmt := top 15
theorem scRises : FnScope ["value", "at"] ["value"] (defScope sRises) := ⟨rfl, rfl, rfl, by decide +kernel, rfl, by decide +kernel, by decide +kernel⟩
def Rrises (K : PySem.W.Frag) : List Dc → Dc → Prop := fun ds d => ∃ xs : List Int, (xs.Pairwise (· < ·) ∧ xs.length ≤ 1000) ∧ ds = [dat K (eI xs)] ∧ d = Bo K true
theorem dn_rises (F : FnP K "rises" "rises" sRises f fd) (hm : mg "rises" = some (.ref f)) (T : Fx K mg cG cT) : Dn P w K mg base "rises" 1 (Rrises K) := by
  refine dn_of F hm scRises (fun ds d ⟨_, _, h, _⟩ => by rw [h]; rfl) (fun _ _ _ _ _ _ us hl => match us, hl with | [_], _ => rfl) ?_
  rintro cdv A' outer s H E hr ds d ⟨xs, ⟨hp, hl⟩, rfl, rfl⟩
  refine tr_cons (t_ret ?_ (rd_ok _)) tr_nil
  have hlen : (xs.map PyData.int).length = xs.length := List.length_map ..
  have hn : ((((xs.map PyData.int).length : Nat) : Int) - 1).toNat = xs.length - 1 := by omega
  have e1 : ((List.range ((((xs.map PyData.int).length : Nat) : Int) - 1).toNat).filter fun _ => true).map (fun _ => PyData.bool true) = ((List.range (xs.length - 1)).map fun _ => true).map PyData.bool := by
    rw [hn, filt_true, List.map_map]
    rfl
  refine pv_is (pv_callB (cr_all rfl) (by rfl) T.nall (by decide +kernel) (pva_cons (pv_is (pv_lc [("at", 1)] (List.range ((((xs.map PyData.int).length : Nat) : Int) - 1).toNat) (fun k => It' K (1 + (k : Int))) (fun k => [some (dat K (eI xs)), some (It' K (1 + (k : Int)))]) (fun _ => true) (fun _ => .bool true) rfl scRises.nd
    (it_range2 (by rfl) T.nrange pv_int (pv_callB call_len_seq (by rfl) T.nlen (by decide +kernel) (pva_cons (pv_var (pv 0) rfl) pva_nil) rc_lenT)) (blkOk_by (N := ["value", "at"]) (sc := defScope sRises) (by decide +kernel)) (by intro j hj d; simp at hj; subst hj; simp [ρ0]) (by simp; omega)
    (fun _ _ _ _ _ => pg_name (i := 1) scRises.nd rfl (Or.inl rfl)) (fun k _ => tg_name 1) (fun _ _ _ _ _ _ _ => pvts_nil) (fun k hk _ _ _ _ _ _ => ?_)) (congrArg (Ls K) e1)) pva_nil) rc_all) ?_
  · rw [List.mem_range, hn] at hk
    have e := List.pairwise_iff_getElem.mp hp k (k + 1) (by omega) (by omega) (by omega)
    rw [g_get, g_get] at e
    have e3 : ((1 + (k : Int)) - 1).toNat = k := by omega
    have e4 : (1 + (k : Int)).toNat = k + 1 := by omega
    exact pv_is (pv_cmp op_lt (pv_ix ix_tup (pv_var (pv 0) rfl) (pv_op op_sub (pv_var (pv 1) rfl) pv_int (rd_I0 fun _ => .int _)) (rd_ixT (by omega) (gI (by omega) (by omega))) (fun _ _ => rfl)) (pv_ix ix_tup (pv_var (pv 0) rfl) (pv_var (pv 1) rfl) (rd_ixT (by omega) (gI (by omega) (by omega))) (fun _ _ => rfl)) (rd_I0 fun _ => .bl _) (nomark _)) (by rw [e3, e4, decide_eq_true e])
  · rw [List.all_map]
    congr 2
    simp
/-! ### is_cover -/
abbrev sIsCover : Stmt := top 16
theorem scIsCover : FnScope ["value", "block", "one"] ["value", "block"] (defScope sIsCover) := ⟨rfl, rfl, rfl, by decide +kernel, rfl, by decide +kernel, by decide +kernel⟩
def RisCover (K : PySem.W.Frag) : List Dc → Dc → Prop := fun ds d => ∃ (xs : List Int) (b : Int), (xs.Pairwise (· < ·) ∧ (∀ x ∈ xs, 0 ≤ x ∧ x < b) ∧ xs.length ≤ 1000) ∧ ds = [dat K (eI xs), It' K b] ∧ d = Bo K true
theorem dn_is_cover (F : FnP K "is_cover" "is_cover" sIsCover f fd) (hm : mg "is_cover" = some (.ref f)) (T : Fx K mg cG cT) (d_is_from : Dn P w K mg base "is_from" 1 (RisFrom K)) (d_rises : Dn P w K mg base "rises" 1 (Rrises K)) : Dn P w K mg base "is_cover" 2 (RisCover K) := by
  refine dn_of F hm scIsCover (fun ds d ⟨_, _, _, h, _⟩ => by rw [h]; rfl) (fun _ _ _ _ _ _ us hl => match us, hl with | [_, _], _ => rfl) ?_
  rintro cdv A' outer s H E hr ds d ⟨xs, b, ⟨hp, hb, hl⟩, rfl, rfl⟩
  refine tr_cons (t_ret ?_ (rd_ok _)) tr_nil
  refine pv_is (pv_and (pv_callB call_isi (by rfl) T.nisinstance (by decide +kernel) (pva_cons (pv_var (pv 0) rfl) (pva_cons (pv_bTy (by rfl) T.ntuple (by decide +kernel)) pva_nil)) (rc_isi (b := true) (.ty "tuple") ty_tup (kit_ty (by decide +kernel)))) fun _ => pv_and (pv_allT "one" 2 rfl scIsCover.nd T.nall (by rfl) (pv_var (pv 0) rfl) (blkOk_by (N := ["value", "block", "one"]) (sc := defScope sIsCover) (by decide +kernel)) (by intro d; simp [ρ0]) (by omega)
    (fun _ _ _ _ _ => pg_name (i := 2) scIsCover.nd rfl (Or.inl rfl)) (fun x hx _ _ _ _ _ => ?_)) fun _ => pv_one (pv_dn d_rises (hr.mono (by decide)) (by rfl) (pva_cons (pv_var (pv 0) rfl) pva_nil) (⟨xs, ⟨hp, hl⟩, rfl, rfl⟩))) rfl
  have h := hb x hx
  exact pv_is (pv_dn d_is_from (hr.mono (by decide)) (by rfl) (pva_cons (pv_var (pv 2) rfl) (pva_cons pv_int (pva_cons (pv_op op_sub (pv_var (pv 1) rfl) pv_int (rd_I0 fun _ => .int _)) pva_nil))) ⟨_, _, _, rfl, rfl⟩) (by rw [decide_eq_true (show (0 : Int) ≤ x by omega), decide_eq_true (show x ≤ b - 1 by omega)]; rfl)
/-! ### Ground -/
abbrev sGround : Stmt := top 17
abbrev sGinit : Stmt := inClass sGround 0
abbrev sGlen : Stmt := inClass sGround 2
theorem scGinit : FnScope ["self", "covers", "index", "value"] ["self", "covers"] (defScope sGinit) := ⟨rfl, rfl, rfl, by decide +kernel, rfl, by decide +kernel, by decide +kernel⟩
theorem scGlen : FnScope ["self"] ["self"] (defScope sGlen) := ⟨rfl, rfl, rfl, by decide +kernel, rfl, by decide +kernel, by decide +kernel⟩
/-- covers that are some -/
def CvOk (cv : List (List Int)) : Prop := (1 ≤ cv.length ∧ cv.length ≤ 10) ∧ ∀ b, b < cv.length → (cv.getD b []).Pairwise (· < ·) ∧ (∀ x ∈ cv.getD b [], 0 ≤ x ∧ x < (b : Int)) ∧ (cv.getD b []).length ≤ 1000
abbrev eC (cv : List (List Int)) : PyData := .tuple (cv.map eI)
def RGinit (K : PySem.W.Frag) : List Dc → List (Str × Dc) → Prop := fun ds fs => ∃ cv, CvOk cv ∧ ds = [dat K (eC cv)] ∧ fs = [(("table" : Str), dat K (eC cv))]
abbrev Gr (K : PySem.W.Frag) (cG : Addr) (cv : List (List Int)) : Dc := Ob cG [(("table" : Str), dat K (eC cv))]
theorem ok_ginit (F : FnP K "__init__" "Ground.__init__" sGinit f fd) (T : Fx K mg cG cT) (d_is_cover : Dn P w K mg base "is_cover" 2 (RisCover K)) : FnOk P w K mg base CX0 3 f fd ["self", "covers"] (spI cG (RGinit K)) := by
  refine fnok_init F scGinit (fun ds fs ⟨_, _, h, _⟩ => by rw [h]; rfl) ?_
  rintro cdv A' outer s H E hr x dx ds fs ⟨cv, hcv, rfl, rfl⟩
  obtain ⟨⟨c1, c2⟩, c3⟩ := hcv
  have e1 : decide ((1 : Int) ≤ ((cv.map eI).length : Nat)) = true := decide_eq_true (by rw [List.length_map]; omega)
  have e2 : decide ((((cv.map eI).length : Nat) : Int) ≤ 10) = true := decide_eq_true (by rw [List.length_map]; omega)
  refine tr_cons (t1_phi (t_pass ((pvw_or (pvt_not (pvt_val (pv_callB call_isi (by rfl) T.nisinstance (by decide +kernel) (pva_cons (pv_var (pv 1) rfl) (pva_cons (pv_bTy (by rfl) T.ntuple (by decide +kernel)) pva_nil)) (rc_isi (b := true) (.ty "tuple") ty_tup (kit_ty (by decide +kernel)))))) (pw_when fun _ => (pvw_or1 (pvt_not (pvt_chain op_le op_le pv_int (pv_callB call_len_seq (by rfl) T.nlen (by decide +kernel) (pva_cons (pv_var (pv 1) rfl) pva_nil) rc_lenT) (pv_gInt (by rfl) T.mostBlocks) (rd_I0 fun _ => .bl _) fun _ => rd_I0 fun _ => .bl _)))))).pt (by rw [e1, e2]; rfl))) ?_
  refine tr_cons (t1_phi (t_for (js := [2, 3]) (fun _ => [some (Vl (.ref x)), some (dat K (eC cv)), none, none]) (fun i => [some (Vl (.ref x)), some (dat K (eC cv)), some (It' K (i : Nat)), some (dat K (eI (cv.getD i [])))]) (fun _ => none) PassesOwn.never rfl (it_enum (by rfl) T.nenumerate (pv_var (pv 1) rfl))
    (pg_tup rfl (pgs_cons (pg_name (i := 2) scGinit.nd rfl (Or.inl rfl)) (pgs_cons (pg_name (i := 3) scGinit.nd rfl (Or.inl rfl)) pgs_nil))) (fun i d hd => ?_) (fun _ _ _ h => nomatch h) (fun i hi => ?_) (fun _ _ _ h => h) (fun _ _ _ _ _ _ _ h => h.elim))) ?_
  · obtain ⟨hi, rfl⟩ := els_enum hd
    rw [List.getD_eq_getElem?_getD, List.getElem?_eq_getElem hi]
    exact tg_tup 2 3
  · have hi' : i < cv.length := by simpa using hi
    have h := c3 i hi'
    refine tr_cons (t_pass (pvt_not (pvt_val (pv_dn d_is_cover (hr.mono (by decide)) (by rfl) (pva_cons (pv_var (pv 3) rfl) (pva_cons (pv_var (pv 2) rfl) pva_nil)) (⟨_, _, h, rfl, rfl⟩)))) rfl) (tr_post tr_nil fun Γ σ H p => (p.drop (i := 2)).drop (i := 3))
  · exact tr_cons (t1_pre (t_fld (fs := []) (pv_var (pv 0) rfl) (pv_var (pv 1) rfl) T.clG T.naTable (by simp) (by decide)) a_ai) tr_nil
theorem ok_glen (F : FnP K "__len__" "Ground.__len__" sGlen f fd) (T : Fx K mg cG cT) : FnOk P w K mg base CX0 1 f fd ["self"] (spP fun ds d => ∃ cv, ds = [Gr K cG cv] ∧ d = It' K (cv.length : Nat)) := by
  refine fnok_of F scGlen (fun ds d ⟨_, h, _⟩ => by rw [h]; rfl) ?_
  rintro cdv A' outer s H E hr ds d ⟨cv, rfl, rfl⟩
  refine tr_cons (t_ret ?_ (rd_ok _)) tr_nil
  exact pv_is (pv_callB call_len_seq (by rfl) T.nlen (by decide +kernel) (pva_cons (pv_fld (pv_var (pv 0) rfl) (.head _) T.clG T.naTable rfl) pva_nil) rc_lenT) (by rw [List.length_map]; rfl)
end
end PX

namespace PX
open PySem PySem.Spec PyProof.Rows L2
/-- what stands of a comprehension's list on the way -/
structure Way (K : PySem.W.Frag) (M : Addr → Bool) (D : Addr) (H1 : Hp) (ds : List PyData) (H : Hp) : Prop where
  s : Same H1 H
  m : MOk (addM M D) H
  f : Same (res M H1) (res (addM M D) H)
  a : ∃ acc, H D = some (.lst acc) ∧ DpAll K (res (addM M D) H) acc ds
section
variable {K : PySem.W.Frag} {M : Addr → Bool} {D : Addr} {H1 H H' : Hp} {ds : List PyData}
theorem Way.start (m : MOk M H1) (hD : H1 D = none) : Way K M D H1 [] (upd H1 D (.lst [])) := by
  have mD : M D = false := m.new hD
  refine ⟨same_upd hD, fun a ha => ?_, fun a o ha => ?_, [], upd_same, .nil⟩
  · by_cases e : a = D
    · rw [e, upd_same]
      simp
    · rw [addM_ne e] at ha
      rw [upd_ne e]
      exact m a ha
  · have e : a ≠ D := fun z => by
      rw [z, res_in mD, hD] at ha
      cases ha
    unfold res at ha ⊢
    rw [addM_ne e, upd_ne e]
    exact ha
theorem Way.on (w : Way K M D H1 ds H) (s : Same H H') : Way K M D H1 ds H' := by
  obtain ⟨acc, h1, h2⟩ := w.a
  exact ⟨w.s.trans s, w.m.mono s, w.f.trans (res_mono s), acc, s _ _ h1, dps_mono (res_mono s) _ _ h2⟩
theorem Way.add {y : V} {d : PyData} (w : Way K M D H1 ds H) (hD : H1 D = none) (hy : Dp K (res (addM M D) H) y d) (hl : ds.length ≤ 1000000) : ∃ acc, H D = some (.lst acc) ∧ acc.length < sizeLine ∧ Way K M D H1 (ds ++ [d]) (upd H D (.lst (acc ++ [y]))) := by
  obtain ⟨acc, h1, h2⟩ := w.a
  have er : res (addM M D) (upd H D (.lst (acc ++ [y]))) = res (addM M D) H := res_upd_mut (addM_self M D)
  refine ⟨acc, h1, Nat.lt_of_le_of_lt (m := 1000000) (by rw [dps_len h2]; exact hl) (by decide), fun a o ha => ?_, fun a ha => ?_, by rw [er]; exact w.f, acc ++ [y], upd_same, by rw [er]; exact dps_app h2 (.cons hy .nil)⟩
  · rw [upd_ne (fun z => by rw [z, hD] at ha; cases ha)]
    exact w.s a o ha
  · by_cases e : a = D
    · rw [e, upd_same]
      simp
    · rw [upd_ne e]
      exact w.m a ha
theorem Way.done (w : Way K M D H1 ds H) (mD : M D = false) : (Ls K ds).p (res M H) (.ref D) := by
  obtain ⟨acc, h1, h2⟩ := w.a
  exact ⟨D, acc, rfl, by rw [res_in mD]; exact h1, dps_mono (res_add_le M D H) _ _ h2⟩
end
theorem flat_take {α : Type} {β : Type} {f : α → List β} {xs : List α} {i : Nat} (h : i < xs.length) : (xs.take (i + 1)).flatMap f = (xs.take i).flatMap f ++ f xs[i] := by
  rw [List.take_add_one, List.getElem?_eq_getElem h, List.flatMap_append]
  simp
/-- [elt for x in .. for y in ..] -/
theorem lc2_reads {α β : Type} {K : PySem.W.Frag} {ρ : DE} {xs : List α} {ys : α → List β} {el : α → Dc} {el1 : α → β → Dc} {f : α → β → PyData} {j k : Nat} (hjk : j ≠ k) (hv : ∀ d, ρ[j]? ≠ some (some d)) (hv1 : ∀ d, ρ[k]? ≠ some (some d)) (hl : (xs.flatMap fun x => (ys x).map (f x)).length ≤ 1000000)
    (σ : L2.St) (H : Hp) (Q : VK) (h : tD ρ (Ls K (xs.flatMap fun x => (ys x).map (f x))) σ H Q) :
    tLc2 (tI ρ (xs.map el)) (gName j) tYes (fun σ H R => ∃ x, x ∈ xs ∧ tI (ρ.set j (some (el x))) ((ys x).map (el1 x)) σ H R) (gName k) tYes
      (fun σ H Q => ∃ z : α × β, (z.1 ∈ xs ∧ z.2 ∈ ys z.1) ∧ tD ((ρ.set j (some (el z.1))).set k (some (el1 z.1 z.2))) (dat K (f z.1 z.2)) σ H Q) [j, k] [k] σ H Q := by
  obtain ⟨M, m, hh, q⟩ := h
  refine ⟨M, m, hh, fun J H1 s1 wd D hD => ?_⟩
  have mD : M D = false := (m.mono s1).new hD
  refine ⟨fun i n H2 => n = xs.length - i ∧ i ≤ xs.length ∧ Way K M D H1 ((xs.take i).flatMap fun x => (ys x).map (f x)) H2, ⟨xs.length, by simp, Nat.zero_le _, Way.start (m.mono s1) hD⟩, ?_⟩
  rintro i n H2 ⟨rfl, hi, w⟩
  obtain ⟨wg, ws, wy⟩ := wd H2 (w.f.trans (res_le _ _))
  rw [List.length_map] at wg ws
  by_cases hlt : i < xs.length
  · refine .inr ⟨wg i hlt, fun H3 => i + 1 ≤ xs.length ∧ Way K M D H1 ((xs.take (i + 1)).flatMap fun x => (ys x).map (f x)) H3, fun H3 h3 => ⟨xs.length - (i + 1), by omega, rfl, h3⟩, fun v H3 y => ?_⟩
    have hx : xs[i]? = some xs[i] := List.getElem?_eq_getElem hlt
    have hmem : xs[i] ∈ xs := List.getElem_mem hlt
    obtain ⟨s3, dv⟩ := wy i v H3 (el xs[i]) (by rw [List.getElem?_map, hx]; rfl) y
    have dv := dv (addM M D) w.m w.f
    have w3 := w.on s3
    have hw : Holds ρ (wipe σ [j, k]) (res (addM M D) H3) := by
      refine ⟨by rw [wipe_length]; exact hh.1, fun t d ht => ?_⟩
      have hnj : t ∉ [j, k] := fun z => by
        rcases List.mem_cons.mp z with z | z
        · exact hv d (by rw [← z]; exact ht)
        · exact hv1 d (by rw [← List.mem_singleton.mp z]; exact ht)
      obtain ⟨u, h1, h2⟩ := hh.2 t d ht
      exact ⟨u, by rw [wipe_at, if_neg hnj]; exact h1, d.mono ((res_mono s1).trans w3.f) h2⟩
    show wipe ((wipe σ [j, k]).set j (some v)) [j, k] = wipe σ [j, k] ∧ _
    refine ⟨by rw [wipe_agree (vs := [j, k]) (σ := wipe σ [j, k]) (Agree.mono Agree.set fun t ht => by rw [List.mem_singleton] at ht; rw [ht]; exact List.mem_cons_self), wipe_wipe], ?_⟩
    have h2 : Holds (ρ.set j (some (el xs[i]))) ((wipe σ [j, k]).set j (some v)) (res (addM M D) H3) := hw.set dv
    generalize (wipe σ [j, k]).set j (some v) = σ2 at h2
    unfold tYes
    dsimp only
    rw [if_pos rfl]
    refine ⟨xs[i], hmem, addM M D, w3.m, h2, fun J1 H4 s4 wd1 => ?_⟩
    have w4 := w3.on s4
    have F4 : Same (res (addM M D) H4) (res (addM M D) H4) := Same.refl _
    refine ⟨fun i1 n1 H5 => n1 = (ys xs[i]).length - i1 ∧ i1 ≤ (ys xs[i]).length ∧ Same (res (addM M D) H4) (res (addM M D) H5) ∧ Way K M D H1 (((xs.take i).flatMap fun x => (ys x).map (f x)) ++ ((ys xs[i]).take i1).map (f xs[i])) H5, ⟨(ys xs[i]).length, by simp, Nat.zero_le _, F4, by simpa using w4⟩, ?_⟩
    rintro i1 n1 H5 ⟨rfl, hi1, sF, w5⟩
    obtain ⟨wg1, ws1, wy1⟩ := wd1 H5 (sF.trans (res_le _ _))
    rw [List.length_map] at wg1 ws1
    have hlen : ∀ t, (((xs.take i).flatMap fun x => (ys x).map (f x)) ++ ((ys xs[i]).take t).map (f xs[i])).length ≤ 1000000 := fun t => by
      have e1 : xs = xs.take (i + 1) ++ xs.drop (i + 1) := (List.take_append_drop _ _).symm
      have e2 : (xs.flatMap fun x => (ys x).map (f x)).length = ((xs.take (i + 1)).flatMap fun x => (ys x).map (f x)).length + ((xs.drop (i + 1)).flatMap fun x => (ys x).map (f x)).length := by
        conv => lhs; rw [e1]
        rw [List.flatMap_append, List.length_append]
      rw [flat_take hlt] at e2
      have e3 : (((ys xs[i]).take t).map (f xs[i])).length ≤ ((ys xs[i]).map (f xs[i])).length := by
        rw [List.length_map, List.length_map, List.length_take]
        omega
      rw [List.length_append] at e2 ⊢
      omega
    by_cases hlt1 : i1 < (ys xs[i]).length
    · refine .inr ⟨wg1 i1 hlt1, fun H6 => i1 + 1 ≤ (ys xs[i]).length ∧ Same (res (addM M D) H4) (res (addM M D) H6) ∧ Way K M D H1 (((xs.take i).flatMap fun x => (ys x).map (f x)) ++ ((ys xs[i]).take (i1 + 1)).map (f xs[i])) H6, fun H6 h6 => ⟨(ys xs[i]).length - (i1 + 1), by omega, rfl, h6⟩, fun v1 H6 y1 => ?_⟩
      have hx1 : (ys xs[i])[i1]? = some (ys xs[i])[i1] := List.getElem?_eq_getElem hlt1
      have hmem1 : (ys xs[i])[i1] ∈ ys xs[i] := List.getElem_mem hlt1
      obtain ⟨s6, dv1⟩ := wy1 i1 v1 H6 (el1 xs[i] (ys xs[i])[i1]) (by rw [List.getElem?_map, hx1]; rfl) y1
      have dv1 := dv1 (addM M D) w5.m sF
      have w6 := w5.on s6
      have sF6 := sF.trans (res_mono s6)
      have hw1 : Holds (ρ.set j (some (el xs[i]))) (wipe σ2 [k]) (res (addM M D) H6) := by
        refine ⟨by rw [wipe_length]; exact h2.1, fun t d ht => ?_⟩
        have hnk : t ∉ [k] := fun z => by
          rw [List.mem_singleton.mp z, List.getElem?_set_ne hjk] at ht
          exact hv1 d ht
        obtain ⟨u, e1, e2⟩ := h2.2 t d ht
        exact ⟨u, by rw [wipe_at, if_neg hnk]; exact e1, d.mono ((res_mono s4).trans sF6) e2⟩
      show wipe ((wipe σ2 [k]).set k (some v1)) [k] = wipe σ2 [k] ∧ _
      refine ⟨by rw [wipe_agree (vs := [k]) (σ := wipe σ2 [k]) Agree.set, wipe_wipe], ?_⟩
      try unfold tYes
      dsimp only
      rw [if_pos rfl]
      refine ⟨(xs[i], (ys xs[i])[i1]), ⟨hmem, hmem1⟩, addM M D, w6.m, hw1.set dv1, fun z H7 s7 dz => ?_⟩
      obtain ⟨acc, a1, a2, a3⟩ := (w6.on s7).add hD dz (hlen i1)
      refine ⟨acc, a1, a2, hlt1, ?_, ?_⟩
      · rw [res_upd_mut (addM_self M D)]
        exact sF6.trans (res_mono s7)
      · rw [List.take_add_one, hx1, List.map_append, ← List.append_assoc]
        exact a3
    · have e : i1 = (ys xs[i]).length := by omega
      subst e
      rw [List.take_length, ← flat_take hlt] at w5
      exact .inl ⟨ws1, hlt, w5⟩
  · have e : i = xs.length := by omega
    subst e
    rw [List.take_length] at w
    exact .inl ⟨ws, q _ H2 (s1.trans w.s) (w.done mD)⟩
section
variable {X : Cx} {ρ : DE}
theorem pv_lc2 {α β : Type} {elt tg iter tg1 iter1 : Expr} {scope : Scope} {pos : Pos} (y1 y2 : Str) (j k : Nat) (xs : List α) (ys : α → List β) (el : α → Dc) (el1 : α → β → Dc) (f : α → β → PyData) (hc : X.calm = true) (hN : X.N.Nodup) (hi : IT X tg iter ρ (xs.map el)) (ok : BlkOk X.N X.env.scope scope [(y1, j), (y2, k)])
    (hjk : j ≠ k) (hv : ∀ d, ρ[j]? ≠ some (some d)) (hv1 : ∀ d, ρ[k]? ≠ some (some d)) (hl : (xs.flatMap fun x => (ys x).map (f x)).length ≤ 1000000)
    (hp : ∀ (s : Shared) (H : Hp) (C : Addr) (cl : List (Str × Addr)) (fp : List Addr), PG (Cx.bl X s H scope C cl fp) tg (gName j)) (hp1 : ∀ (s : Shared) (H : Hp) (C : Addr) (cl : List (Str × Addr)) (fp : List Addr), PG (Cx.bl X s H scope C cl fp) tg1 (gName k))
    (hi1 : ∀ x, x ∈ xs → ∀ (s : Shared) (H : Hp) (C : Addr) (cl : List (Str × Addr)) (fp : List Addr), IT (Cx.bl X s H scope C cl fp) tg1 iter1 (ρ.set j (some (el x))) ((ys x).map (el1 x)))
    (he : ∀ x y, x ∈ xs → y ∈ ys x → ∀ (s : Shared) (H : Hp) (C : Addr) (cl : List (Str × Addr)) (fp : List Addr), PV (Cx.bl X s H scope C cl fp) elt ((ρ.set j (some (el x))).set k (some (el1 x y))) (dat X.K (f x y)))
    (hs : ∀ x, foldedSetIterable iter X.env x = pure x := by intro _; rfl) (hs1 : ∀ env x, foldedSetIterable iter1 env x = pure x := by intro _ _; rfl) :
    PV X (.ListComp elt [⟨tg, iter, [], 0⟩, ⟨tg1, iter1, [], 0⟩] scope pos) ρ (Ls X.K (xs.flatMap fun x => (ys x).map (f x))) :=
  pe_weak (pe_lc2 (vs1 := [k]) hc hN hi ok (fun t ht => by rw [List.mem_singleton.mp ht]; simp) hp (fun _ _ _ _ _ => pts_nil)
    (fun s H C cl fp => ⟨fun pins s' σ H' R I ⟨x, hx, q⟩ => (hi1 x hx s H C cl fp).run pins s' σ H' R I q⟩) hp1 (fun _ _ _ _ _ => pts_nil)
    (fun s H C cl fp => pe_ex (t := fun (z : α × β) σ H Q => (z.1 ∈ xs ∧ z.2 ∈ ys z.1) ∧ tD ((ρ.set j (some (el z.1))).set k (some (el1 z.1 z.2))) (dat X.K (f z.1 z.2)) σ H Q) fun z => pe_when fun hz => he z.1 z.2 hz.1 hz.2 s H C cl fp) hs hs1)
    (lc2_reads hjk hv hv1 hl)
theorem it_tupE {α : Type} {tg l : Expr} {xs : List α} {enc : α → PyData} (h : PV X l ρ (dat X.K (.tuple (xs.map enc)))) : IT X tg l ρ (xs.map fun x => dat X.K (enc x)) := by
  have e : (xs.map enc).map (dat X.K) = xs.map fun x => dat X.K (enc x) := by rw [List.map_map]; rfl
  rw [← e]
  exact it_tup h
theorem it_listE {α : Type} {tg l : Expr} {xs : List α} {enc : α → PyData} (h : PV X l ρ (Ls X.K (xs.map enc))) : IT X tg l ρ (xs.map fun x => dat X.K (enc x)) := by
  have e : (xs.map enc).map (dat X.K) = xs.map fun x => dat X.K (enc x) := by rw [List.map_map]; rfl
  rw [← e]
  exact it_list h
end
end PX

namespace PX
open PySem PySem.Spec PyProof.Rows L2
theorem a_none {K : PySem.W.Frag} {ρ : DE} {o : Mu} : ∀ Γ σ H, A K ρ o Γ σ H → Rd' (dat K .none) Γ .non H := fun Γ σ H p => ⟨p.base.1, p.base.2.2, Dp.non⟩
/-- len of a ground -/
structure LenG (P : Program) (w : World) (K : PySem.W.Frag) (mg : Str → Option Value) (base : Heap) (cG : Addr) : Prop where
  ex : ∃ f fd ps, FnOk P w K mg base CX0 1 f fd ps (spP fun ds d => ∃ cv, ds = [Gr K cG cv] ∧ d = It' K (cv.length : Nat)) ∧ Meth K cG "__len__" f ∧ Binds K fd ps []
theorem pv_lenG {X : Cx} {cG : Addr} {ρ : DE} {cv : List (List Int)} {e : Expr} {p pos : Pos} (L : LenG X.prog X.w X.K X.mg X.base cG) (hr : Room 2 X.A) (hg : Gl X "len") (hm : X.mg "len" = none) (ha : PV X e ρ (Gr X.K cG cv)) (hl : cv.length ≤ 1000000) (hs : starEach (e :: []) X.env = (false, eval e X.env) :: starEach [] X.env := by rfl) :
    PV X (.Call (.Name "len" p) [e] [] pos) ρ (It' X.K (cv.length : Nat)) := by
  obtain ⟨f, fd, ps, F, m, b⟩ := L.ex
  refine pv_callB (call_lenOwn F hr m b) hg hm (by decide +kernel) (pva_cons ha pva_nil hs) (fun M H vs Q mk hv q => ?_) (he := hs)
  cases hv with
  | cons h t =>
    cases t
    have h' := h
    obtain ⟨a, dx, gs, rfl, h1, h3⟩ := h
    refine ⟨a, dx, gs, rfl, res_le _ _ _ _ h1, M, [Gr X.K cG cv], _, mk, ⟨cv, rfl, rfl⟩, .cons h' .nil, fun v H' s hv => ?_⟩
    cases (show Dp X.K _ v (.int (cv.length : Nat)) from hv)
    exact ⟨_, rfl, ⟨by omega, by omega⟩, q _ H' s (.int _)⟩
section
variable {P : Program} {w : World} {K : PySem.W.Frag} {mg : Str → Option Value} {base : Heap} {cG cT f : Addr} {fd : FuncData}
/-! ### need_ground, is_block, is_lot, need_lot -/
abbrev sNeedGround : Stmt := top 18
theorem scNeedGround : FnScope ["ground"] ["ground"] (defScope sNeedGround) := ⟨rfl, rfl, rfl, by decide +kernel, rfl, by decide +kernel, by decide +kernel⟩
def RneedGround (K : PySem.W.Frag) (cG : Addr) : List Dc → Dc → Prop := fun ds d => ∃ cv, ds = [Gr K cG cv] ∧ d = dat K .none
theorem dn_need_ground (F : FnP K "need_ground" "need_ground" sNeedGround f fd) (hm : mg "need_ground" = some (.ref f)) (T : Fx K mg cG cT) : Dn P w K mg base "need_ground" 1 (RneedGround K cG) := by
  refine dn_of F hm scNeedGround (fun ds d ⟨_, h, _⟩ => by rw [h]; rfl) (fun _ _ _ _ _ _ us hl => match us, hl with | [_], _ => rfl) ?_
  rintro cdv A' outer s H E hr ds d ⟨cv, rfl, rfl⟩
  exact tr_cons (t_pass (pvt_not (pvt_val (pv_callB (C8.call_isC T.isG) (by rfl) T.nisinstance (by decide +kernel) (pva_cons (pv_var (pv 0) rfl) (pva_cons (pv_gCls (by rfl) T.gGround) pva_nil)) rc_isC))) rfl) (tr_post tr_nil a_none)
abbrev sIsBlock : Stmt := top 19
theorem scIsBlock : FnScope ["ground", "value"] ["ground", "value"] (defScope sIsBlock) := ⟨rfl, rfl, rfl, by decide +kernel, rfl, by decide +kernel, by decide +kernel⟩
def RisBlock (K : PySem.W.Frag) (cG : Addr) : List Dc → Dc → Prop := fun ds d => ∃ (cv : List (List Int)) (v : Int), cv.length ≤ 10 ∧ ds = [Gr K cG cv, It' K v] ∧ d = Bo K (decide (0 ≤ v) && decide (v ≤ (cv.length : Nat) - 1))
theorem dn_is_block (F : FnP K "is_block" "is_block" sIsBlock f fd) (hm : mg "is_block" = some (.ref f)) (T : Fx K mg cG cT) (L : LenG P w K mg base cG) (d_is_from : Dn P w K mg base "is_from" 1 (RisFrom K)) : Dn P w K mg base "is_block" 3 (RisBlock K cG) := by
  refine dn_of F hm scIsBlock (fun ds d ⟨_, _, _, h, _⟩ => by rw [h]; rfl) (fun _ _ _ _ _ _ us hl => match us, hl with | [_, _], _ => rfl) ?_
  rintro cdv A' outer s H E hr ds d ⟨cv, v, hc, rfl, rfl⟩
  refine tr_cons (t_ret ?_ (rd_ok _)) tr_nil
  exact pv_dn d_is_from (hr.mono (by decide)) (by rfl) (pva_cons (pv_var (pv 1) rfl) (pva_cons pv_int (pva_cons (pv_op op_sub (pv_lenG L hr (by rfl) T.nlen (pv_var (pv 0) rfl) (by omega)) pv_int (rd_I0 fun _ => .int _)) pva_nil))) ⟨_, _, _, rfl, rfl⟩
abbrev sIsLot : Stmt := top 21
theorem scIsLot : FnScope ["ground", "value", "one"] ["ground", "value"] (defScope sIsLot) := ⟨rfl, rfl, rfl, by decide +kernel, rfl, by decide +kernel, by decide +kernel⟩
/-- a lot -/
def LotOk (cv : List (List Int)) (xs : List Int) : Prop := cv.length ≤ 10 ∧ xs.Pairwise (· < ·) ∧ (∀ x ∈ xs, 0 ≤ x ∧ x < cv.length) ∧ xs.length ≤ 1000
def RisLot (K : PySem.W.Frag) (cG : Addr) : List Dc → Dc → Prop := fun ds d => ∃ (cv : List (List Int)) (xs : List Int), LotOk cv xs ∧ ds = [Gr K cG cv, dat K (eI xs)] ∧ d = Bo K true
theorem dn_is_lot (F : FnP K "is_lot" "is_lot" sIsLot f fd) (hm : mg "is_lot" = some (.ref f)) (T : Fx K mg cG cT) (d_is_block : Dn P w K mg base "is_block" 3 (RisBlock K cG)) (d_rises : Dn P w K mg base "rises" 1 (Rrises K)) : Dn P w K mg base "is_lot" 4 (RisLot K cG) := by
  refine dn_of F hm scIsLot (fun ds d ⟨_, _, _, h, _⟩ => by rw [h]; rfl) (fun _ _ _ _ _ _ us hl => match us, hl with | [_, _], _ => rfl) ?_
  rintro cdv A' outer s H E hr ds d ⟨cv, xs, ⟨hc, hp, hb, hl⟩, rfl, rfl⟩
  refine tr_cons (t_ret ?_ (rd_ok _)) tr_nil
  refine pv_is (pv_and (pv_callB call_isi (by rfl) T.nisinstance (by decide +kernel) (pva_cons (pv_var (pv 1) rfl) (pva_cons (pv_bTy (by rfl) T.ntuple (by decide +kernel)) pva_nil)) (rc_isi (b := true) (.ty "tuple") ty_tup (kit_ty (by decide +kernel)))) fun _ => pv_and (pv_allT "one" 2 rfl scIsLot.nd T.nall (by rfl) (pv_var (pv 1) rfl) (blkOk_by (N := ["ground", "value", "one"]) (sc := defScope sIsLot) (by decide +kernel)) (by intro d; simp [ρ0]) (by omega)
    (fun _ _ _ _ _ => pg_name (i := 2) scIsLot.nd rfl (Or.inl rfl)) (fun x hx _ _ _ _ _ => ?_)) fun _ => pv_one (pv_dn d_rises (hr.mono (by decide)) (by rfl) (pva_cons (pv_var (pv 1) rfl) pva_nil) (⟨xs, ⟨hp, hl⟩, rfl, rfl⟩))) rfl
  have h := hb x hx
  exact pv_is (pv_dn d_is_block (hr.mono (by decide)) (by rfl) (pva_cons (pv_var (pv 0) rfl) (pva_cons (pv_var (pv 2) rfl) pva_nil)) (⟨cv, x, hc, rfl, rfl⟩)) (by rw [decide_eq_true (show (0 : Int) ≤ x by omega), decide_eq_true (show x ≤ (cv.length : Nat) - 1 by omega)]; rfl)
abbrev sNeedLot : Stmt := top 22
theorem scNeedLot : FnScope ["ground", "lot"] ["ground", "lot"] (defScope sNeedLot) := ⟨rfl, rfl, rfl, by decide +kernel, rfl, by decide +kernel, by decide +kernel⟩
def RneedLot (K : PySem.W.Frag) (cG : Addr) : List Dc → Dc → Prop := fun ds d => ∃ (cv : List (List Int)) (xs : List Int), LotOk cv xs ∧ ds = [Gr K cG cv, dat K (eI xs)] ∧ d = dat K .none
theorem dn_need_lot (F : FnP K "need_lot" "need_lot" sNeedLot f fd) (hm : mg "need_lot" = some (.ref f)) (T : Fx K mg cG cT) (d_need_ground : Dn P w K mg base "need_ground" 1 (RneedGround K cG)) (d_is_lot : Dn P w K mg base "is_lot" 4 (RisLot K cG)) : Dn P w K mg base "need_lot" 5 (RneedLot K cG) := by
  refine dn_of F hm scNeedLot (fun ds d ⟨_, _, _, h, _⟩ => by rw [h]; rfl) (fun _ _ _ _ _ _ us hl => match us, hl with | [_, _], _ => rfl) ?_
  rintro cdv A' outer s H E hr ds d ⟨cv, xs, h, rfl, rfl⟩
  exact tr_cons (t_expr (pv_dn d_need_ground (hr.mono (by decide)) (by rfl) (pva_cons (pv_var (pv 0) rfl) pva_nil) ⟨_, rfl, rfl⟩)) (tr_cons (t_pass (pvt_not (pvt_val (pv_dn d_is_lot (hr.mono (by decide)) (by rfl) (pva_cons (pv_var (pv 0) rfl) (pva_cons (pv_var (pv 1) rfl) pva_nil)) (⟨cv, xs, h, rfl, rfl⟩)))) rfl) (tr_post tr_nil a_none))
/-! ### is_full, need_pit -/
abbrev sIsFull : Stmt := top 23
theorem scIsFull : FnScope ["ground", "lot", "block", "one"] ["ground", "lot"] (defScope sIsFull) := ⟨rfl, rfl, rfl, by decide +kernel, rfl, by decide +kernel, by decide +kernel⟩
/-- a pit -/
def PitOk (cv : List (List Int)) (xs : List Int) : Prop := LotOk cv xs ∧ (∀ b, (cv.getD b []).length ≤ 10) ∧ ∀ b ∈ xs, ∀ x ∈ cv.getD b.toNat [], x ∈ xs
def RisFull (K : PySem.W.Frag) (cG : Addr) : List Dc → Dc → Prop := fun ds d => ∃ (cv : List (List Int)) (xs : List Int), PitOk cv xs ∧ ds = [Gr K cG cv, dat K (eI xs)] ∧ d = Bo K true
theorem cv_get {cv : List (List Int)} {b : Int} (h0 : 0 ≤ b) (h : b < cv.length) : (cv.map eI)[b.toNat]? = some (eI (cv.getD b.toNat [])) := by
  have hl : b.toNat < cv.length := by omega
  rw [List.getElem?_map, List.getElem?_eq_getElem hl, List.getD_eq_getElem?_getD, List.getElem?_eq_getElem hl]
  rfl
theorem flat_len {α β : Type} {f : α → List β} {n : Nat} : ∀ {l : List α}, (∀ x ∈ l, (f x).length ≤ n) → (l.flatMap f).length ≤ l.length * n
  | [], _ => by simp
  | x :: l, h => by
    have ih := flat_len (f := f) (n := n) (l := l) fun y hy => h y (List.mem_cons_of_mem _ hy)
    have h1 := h x List.mem_cons_self
    rw [List.flatMap_cons, List.length_append, List.length_cons, Nat.add_mul]
    omega
theorem dn_is_full (F : FnP K "is_full" "is_full" sIsFull f fd) (hm : mg "is_full" = some (.ref f)) (T : Fx K mg cG cT) : Dn P w K mg base "is_full" 1 (RisFull K cG) := by
  refine dn_of F hm scIsFull (fun ds d ⟨_, _, _, h, _⟩ => by rw [h]; rfl) (fun _ _ _ _ _ _ us hl => match us, hl with | [_, _], _ => rfl) ?_
  rintro cdv A' outer s H E hr ds d ⟨cv, xs, ⟨⟨hc, hp, hb, hl⟩, hd, hf⟩, rfl, rfl⟩
  refine tr_cons (t_ret ?_ (rd_ok _)) tr_nil
  have e2 : (xs.flatMap fun b => (cv.getD b.toNat []).map fun _ => PyData.bool true) = ((xs.flatMap fun b => (cv.getD b.toNat []).map fun _ => true)).map PyData.bool := by
    rw [List.map_flatMap]
    simp only [List.map_map]
    rfl
  refine pv_is (pv_callB (cr_all rfl) (by rfl) T.nall (by decide +kernel) (pva_cons (pv_is (pv_lc2 "block" "one" 2 3 xs (fun b => cv.getD b.toNat []) (It' K) (fun _ => It' K) (fun _ _ => .bool true) rfl scIsFull.nd (it_tupE (pv_var (pv 1) rfl))
    (blkOk_by (N := ["ground", "lot", "block", "one"]) (sc := defScope sIsFull) (by decide +kernel)) (by decide) (by intro d; simp [ρ0]) (by intro d; simp [ρ0]) ?_ (fun _ _ _ _ _ => pg_name (i := 2) scIsFull.nd rfl (Or.inl rfl)) (fun _ _ _ _ _ => pg_name (i := 3) scIsFull.nd rfl (Or.inl rfl)) (fun b hb' _ _ _ _ _ => ?_) (fun b x hb' hx _ _ _ _ _ => ?_)) (congrArg (Ls K) e2)) pva_nil) rc_all) ?_
  · refine Nat.le_trans (flat_len (n := 10) fun b _ => ?_) (by omega)
    rw [List.length_map]
    exact hd _
  · have h := hb b hb'
    exact it_tupE (pv_ix ix_tup (pv_fld (pv_var (pv 0) rfl) (.head _) T.clG T.naTable rfl) (pv_var (pv 2) rfl) (rd_ixT (h.1) (cv_get h.1 h.2)) (fun _ _ => rfl))
  · have h := hb b hb'
    have hm' : xs.contains x = true := List.contains_iff_mem.mpr (hf b hb' x hx)
    exact pv_is (pv_cmp op_in_seq (pv_var (pv 3) rfl) (pv_var (pv 1) rfl) rd_inT rfl) (by rw [hm'])
  · have : ((xs.flatMap fun b => (cv.getD b.toNat []).map fun _ => true)).all id = true := by simp
    rw [this]
    rfl
abbrev sNeedPit : Stmt := top 24
theorem scNeedPit : FnScope ["ground", "pit"] ["ground", "pit"] (defScope sNeedPit) := ⟨rfl, rfl, rfl, by decide +kernel, rfl, by decide +kernel, by decide +kernel⟩
def RneedPit (K : PySem.W.Frag) (cG : Addr) : List Dc → Dc → Prop := fun ds d => ∃ (cv : List (List Int)) (xs : List Int), PitOk cv xs ∧ ds = [Gr K cG cv, dat K (eI xs)] ∧ d = dat K .none
theorem dn_need_pit (F : FnP K "need_pit" "need_pit" sNeedPit f fd) (hm : mg "need_pit" = some (.ref f)) (T : Fx K mg cG cT) (d_need_lot : Dn P w K mg base "need_lot" 5 (RneedLot K cG)) (d_is_full : Dn P w K mg base "is_full" 1 (RisFull K cG)) : Dn P w K mg base "need_pit" 6 (RneedPit K cG) := by
  refine dn_of F hm scNeedPit (fun ds d ⟨_, _, _, h, _⟩ => by rw [h]; rfl) (fun _ _ _ _ _ _ us hl => match us, hl with | [_, _], _ => rfl) ?_
  rintro cdv A' outer s H E hr ds d ⟨cv, xs, h, rfl, rfl⟩
  exact tr_cons (t_expr (pv_dn d_need_lot (hr.mono (by decide)) (by rfl) (pva_cons (pv_var (pv 0) rfl) (pva_cons (pv_var (pv 1) rfl) pva_nil)) (⟨cv, xs, h.1, rfl, rfl⟩))) (tr_cons (t_pass (pvt_not (pvt_val (pv_dn d_is_full (hr.mono (by decide)) (by rfl) (pva_cons (pv_var (pv 0) rfl) (pva_cons (pv_var (pv 1) rfl) pva_nil)) (⟨cv, xs, h, rfl, rfl⟩)))) rfl) (tr_post tr_nil a_none))
end
end PX

namespace PX
open PySem PySem.Spec PyProof.Rows L2 PySem.W
/-! ### sorted(lots, key=sized) -/
def keyD (L : List Int) : PyData := .tuple [.int (L.length : Nat), eI L]
def sortL (ps : List (List Int)) : List (List Int) := ps.mergeSort (dataLe false keyD)
def Rsized (K : PySem.W.Frag) : List Dc → Dc → Prop := fun ds d => ∃ L : List Int, L.length ≤ 1000 ∧ ds = [dat K (eI L)] ∧ d = dat K (keyD L)
theorem alike_key (L L' : List Int) : alike (keyD L) (keyD L') = true := by
  show alike (.tuple [.int _, .tuple (L.map .int)]) (.tuple [.int _, .tuple (L'.map .int)]) = true
  simp [alike, alikeAll, alike_ints]
theorem keyD_depth (L : List Int) : (keyD L).depth ≤ 2 := by
  show PyData.depth (.tuple [.int _, .tuple (L.map .int)]) ≤ 2
  simp [PyData.depth, PyData.depthAll, depth_ints]
theorem sortL_perm (ps : List (List Int)) : (sortL ps).Perm ps := List.mergeSort_perm _ _
theorem key_le {a b : List Int} (h : dataLe false keyD a b = true) : a.length ≤ b.length := by
  rw [dataLe_eq] at h
  simp only [cond_false, Bool.not_eq_true'] at h
  have e := dataLt_pair (x := .int (b.length : Nat)) (x' := .int (a.length : Nat)) (y := eI b) (y' := eI a) (by simp [alike]) (by simp [alike, alike_ints])
  have h' : dataLt (.tuple [.int (b.length : Nat), eI b]) (.tuple [.int (a.length : Nat), eI a]) = false := h
  rw [e] at h'
  by_cases q : a.length ≤ b.length
  · exact q
  · have n1 : PyData.eqv (.int (b.length : Nat)) (.int (a.length : Nat)) = false := by
      simp only [PyData.eqv]
      exact beq_eq_false_iff_ne.mpr (by omega)
    rw [n1, if_neg Bool.false_ne_true, dataLt_int] at h'
    have := of_decide_eq_false h'
    omega
theorem each_vals {X : Cx} {pins : List (Addr × Obj)} {σ : L2.St} {H : Hp} {s : Shared} (I : Inv X pins σ H s) : ∀ {ds : List PyData} {xs : List V} {us : List Value}, DpAll X.K H xs ds → Vals xs us → EachIs (fun v k => ∃ as, Reads s.heap v k as) us ds
  | [], _, _, h, r => by
    cases h
    cases r
    exact .nil
  | d :: ds, _, _, h, r => by
    cases h with
    | cons h1 h2 =>
      cases r with
      | cons r1 r2 => exact .cons (Dp.reads I d _ _ h1 r1) (each_vals I h2 r2)
theorem each_zip {β : Type} : ∀ {xs : List V} {us : List Value} {ps : List β}, Vals xs us → xs.length = ps.length → EachIs (fun (u : Value) (z : V × β) => RelV z.1 u) us (xs.zip ps)
  | [], _, [], r, _ => by cases r; exact .nil
  | [], _, _ :: _, _, h => by simp at h
  | _ :: _, _, [], _, h => by simp at h
  | x :: xs, _, p :: ps, r, h => by
    cases r with
    | cons r1 r2 => exact .cons r1 (each_zip r2 (by simpa using h))
theorem vals_each {β : Type} : ∀ {us : List Value} {zs : List (V × β)}, EachIs (fun (u : Value) (z : V × β) => RelV z.1 u) us zs → Vals (zs.map (·.1)) us
  | _, _, .nil => .nil
  | _, _, .cons h t => .cons h (vals_each t)
theorem dps_zip {K : PySem.W.Frag} {H : Hp} : ∀ {ps : List (List Int)} {xs : List V}, DpAll K H xs (ps.map eI) → ∀ z ∈ xs.zip ps, Dp K H z.1 (eI z.2)
  | [], _, _, z, hz => by simp at hz
  | p :: ps, _, h, z, hz => by
    have h' : DpAll K H _ (eI p :: ps.map eI) := h
    cases h' with
    | cons h1 h2 =>
      rcases List.mem_cons.mp hz with rfl | hz
      · exact h1
      · exact dps_zip h2 z hz
theorem zip_dps {K : PySem.W.Frag} {H : Hp} : ∀ {zs : List (V × List Int)}, (∀ z ∈ zs, Dp K H z.1 (eI z.2)) → DpAll K H (zs.map (·.1)) ((zs.map (·.2)).map eI)
  | [], _ => .nil
  | z :: zs, h => .cons (h z List.mem_cons_self) (zip_dps fun y hy => h y (List.mem_cons_of_mem _ hy))
/-- an object that stood untracked, tracked from now on; another one changed -/
theorem inv_adopt {X : Cx} {pins : List (Addr × Obj)} {σ : L2.St} {H : Hp} {s : Shared} {a kS : Addr} {o : HO} {h' : Heap} {t' : Nat} (I : Inv X pins σ H s) (na : FpOk X pins H a) (nk : FpOk X pins H kS) (hk : ∀ b u, b ≠ a → b ≠ kS → s.heap.get? b = some u → h'.get? b = some u)
    (new : ObjOk X.prog X.w (upd H a o) h' a o) : Inv X pins σ (upd H a o) { s with heap := h', toks := t' } := by
  obtain ⟨a0, a1, a2, a3, a4, a5⟩ := na
  obtain ⟨k0, k1, k2, k3, k4, k5⟩ := nk
  have ch : ∀ b, b ∉ [a, kS] → b ≠ a ∧ b ≠ kS := fun b hb => by simpa [not_or] using hb
  have tr : ∀ b u, H b = some u → b ≠ a ∧ b ≠ kS := fun b u e => ⟨(fun z => by rw [z, a0] at e; cases e), (fun z => by rw [z, k0] at e; cases e)⟩
  refine I.step (g' := s.gens) (d' := s.drawn) (ch := [a, kS]) (fun b hb => ?_) (fun b o _ _ hc e _ => hk b o (ch b hc).1 (ch b hc).2 e) (fun b o _ _ hc e _ => ⟨o.slots, hk b o (ch b hc).1 (ch b hc).2 e⟩) (fun b o hc _ n => by rw [upd_ne (ch b hc).1]; exact n)
    (fun b o hc e => ⟨o, hk b o (ch b hc).1 (ch b hc).2 e⟩) (fun b xs e => by rw [upd_ne (tr b _ e).1]; exact e) (fun b o u e => by rw [upd_ne (tr b _ e).1]; exact e) (fun b ps e => ⟨#[], by rw [upd_ne (tr b _ e).1, e]; simp⟩) (fun m hm => ?_) (fun b u e => ?_) I.bare
  · have z : b = a ∨ b = kS := by simpa using hb
    rcases z with rfl | rfl
    · exact ⟨a3, a1, a4, a5⟩
    · exact ⟨k3, k1, k4, k5⟩
  · obtain ⟨o, es, ep, ho, r⟩ := hm
    exact ⟨o, es, ep, hk _ o (Ne.symm a1) (Ne.symm k1) ho, r⟩
  · by_cases z : b = a
    · subst z
      rw [upd_same] at e
      cases e
      exact new
    · rw [upd_ne z] at e
      refine (I.hok b u e).stay (fun c v hc q => ?_) (fun c q => by rw [upd_ne (tr c _ q).1]; exact q) fun c xs q => by rw [upd_ne (tr c _ q).1]; exact q
      rcases hc with rfl | hc
      · exact hk _ v (tr _ _ e).1 (tr _ _ e).2 q
      · exact hk c v (tr c _ hc).1 (tr c _ hc).2 q
def rSortK (K : PySem.W.Frag) (f : Addr) : List V → List V → Hp → VK → Prop := fun vs zs H Q => ∃ (M : Addr → Bool) (l : Addr) (xs : List V) (ps : List (List Int)), vs = [.ref l] ∧ zs = [.ref f] ∧ MOk M H ∧ res M H l = some (.lst xs) ∧ DpAll K (res M H) xs (ps.map eI) ∧ (ps.length ≤ 100000 ∧ ∀ p ∈ ps, p.length ≤ 1000) ∧
  ∀ p H' ys, Same H H' → H p = none → H' p = some (.lst ys) → DpAll K (res M H') ys ((sortL ps).map eI) → Q (.ref p) H'
theorem cr_sortK {X : Cx} {f : Addr} {fd : FuncData} {pn : List Str} {k : Nat} (F : FnOk X.prog X.w X.K X.mg X.base CX0 k f fd pn (spP (Rsized X.K))) (hr : Room (k + 2) X.A) (hb : Binds X.K fd pn []) : CallRK X (.builtin "sorted") [Str.ofString "key"] (rSortK X.K f) := by
  intro pins s σ H vs zs us ws Q I r rz h
  obtain ⟨M, l, xs, ps, rfl, rfl, m, hl, dl, ⟨hsz, hsm⟩, q⟩ := h
  obtain rfl := Vals.ref1 r
  obtain ⟨w1, rfl, e1⟩ := vals1 rz
  obtain rfl : w1 = Value.ref f := e1
  obtain ⟨its, rv, hL, hz⟩ := I.list (SqL.of (res_le _ _ _ _ hl))
  have lx : xs.length = ps.length := by rw [dps_len dl, List.length_map]
  have li : its.length = ps.length := by rw [← rv.length, lx]
  have hzi : its.length ≤ sizeLine := by rw [← rv.length]; exact hz
  show wpAny _ _ (call (.builtin "sorted") [.ref l] [(Str.ofString "key", .ref f)]) _ _ _
  refine sorted_of_sort hL.isList hzi (ksk_s1 _ _) (fun _ => ksk_l1 _ _) fun E' => ?_
  rw [ksk_t1]
  have sa := copyHeap_at s.heap its
  have szc : (copyHeap s.heap its).objs.size = s.heap.objs.size + 2 := by
    unfold copyHeap
    rw [size_push', Heap.size_update, size_push']
  generalize ha : s.heap.objs.size + 1 = a at sa ⊢
  have hae : s.heap.objs.size ≤ a := by omega
  obtain ⟨e1, ho1⟩ : ∃ e1, ((copyHeap s.heap its).update a (Obj.mapSeq fun _ => (#[] : Array Value))).get? a = some (seqObj "list" #[] e1) := ⟨_, get?_update_seq sa fun _ => #[]⟩
  unfold ksk_tree
  refine wpAny_bind (listItems_at (s := { s with heap := copyHeap s.heap its }) sa rfl ?_)
  refine wpAny_bind (listUpdate_at (s := { s with heap := copyHeap s.heap its }) sa rfl ?_ (by rw [List.size_toArray]; exact hzi) (Nat.zero_le _))
  refine wpAny_bind (seqEpoch_at ho1 rfl ?_)
  refine wpAny_bind (wpAny_newTuple ?_ (by show its.length ≤ _; exact hzi))
  refine wpAny_bind (wpAny_newList ?_ (Nat.zero_le _))
  refine wpAny_holding ?_
  have szu : ((copyHeap s.heap its).update a (Obj.mapSeq fun _ => (#[] : Array Value))).objs.size = s.heap.objs.size + 2 := by rw [Heap.size_update, szc]
  have szt : (((copyHeap s.heap its).update a (Obj.mapSeq fun _ => (#[] : Array Value))).push (seqObj "tuple" its.toArray 0)).objs.size = s.heap.objs.size + 3 := by rw [size_push', szu]
  have old : ∀ b o, s.heap.get? b = some o → ((((copyHeap s.heap its).update a (Obj.mapSeq fun _ => (#[] : Array Value))).push (seqObj "tuple" its.toArray 0)).push (seqObj "list" #[] 0)).get? b = some o := fun b o e => by
    have hlt := Heap.lt_size e
    refine Heap.get?_push_of_some _ (Heap.get?_push_of_some _ ?_)
    rw [Heap.get?_update_ne _ _ _ _ (Nat.ne_of_lt (Nat.lt_of_lt_of_le hlt hae))]
    exact copyHeap_old e
  have gk : ((((copyHeap s.heap its).update a (Obj.mapSeq fun _ => (#[] : Array Value))).push (seqObj "tuple" its.toArray 0)).push (seqObj "list" #[] 0)).get? (s.heap.objs.size + 3) = some (seqObj "list" #[] 0) := by
    rw [← szt]
    exact Heap.get?_push_size _ rfl
  have ga : ((((copyHeap s.heap its).update a (Obj.mapSeq fun _ => (#[] : Array Value))).push (seqObj "tuple" its.toArray 0)).push (seqObj "list" #[] 0)).get? a = some (seqObj "list" #[] e1) := Heap.get?_push_of_some _ (Heap.get?_push_of_some _ ho1)
  show wpAny _ _ (ksk_rest a (.ref f) false its.toArray e1 (.ref (((copyHeap s.heap its).update a (Obj.mapSeq fun _ => (#[] : Array Value))).push (seqObj "tuple" its.toArray 0)).objs.size)) _ _ { s with heap := (((copyHeap s.heap its).update a (Obj.mapSeq fun _ => (#[] : Array Value))).push (seqObj "tuple" its.toArray 0)).push (seqObj "list" #[] 0) }
  rw [szt]
  generalize hk : s.heap.objs.size + 3 = kS at gk ⊢
  generalize (((copyHeap s.heap its).update a (Obj.mapSeq fun _ => (#[] : Array Value))).push (seqObj "tuple" its.toArray 0)).push (seqObj "list" #[] 0) = h0 at old gk ga ⊢
  have hke : s.heap.objs.size ≤ kS := by omega
  have hka : kS ≠ a := by omega
  have I0 : Inv X pins σ H { s with heap := h0 } := I.kept (t' := s.toks) old
  have fa : ∀ {H' : Hp}, H' a = none → FpOk X pins H' a := fun n => I.fpOk hae n
  have fk : ∀ {H' : Hp}, H' kS = none → FpOk X pins H' kS := fun n => I.fpOk hke n
  have nfs : ∀ b, s.heap.objs.size ≤ b → b ∉ frs X.stack := fun b hb z => by
    rcases List.mem_cons.mp (I.stkSub b z) with e | e
    · rw [e] at hb
      exact absurd I.lt (Nat.not_lt.mpr hb)
    · exact I.nofs hb e
  have hal : AllAlike (ps.map keyD) := AllAlike.of alike_key
  have hsk : Sortable (ps.map keyD) := Sortable.tuples fun L => ⟨_, _, rfl⟩
  have hdep : ∀ d, d ∈ ps.map keyD → X.A.in1.in1.units + d.depth < cLine := fun d hd => by
    obtain ⟨L, _, rfl⟩ := List.mem_map.mp hd
    have := keyD_depth L
    have := hr.un
    show X.A.units + 1 + 1 + _ < cLine
    omega
  unfold ksk_rest
  refine wpAny_bind (wpAny_rule ?_)
  first | rw [List.forIn_toArray] | (rw [← Array.forIn_toList]; simp only [List.toList_toArray]) | rw [← Array.forIn_toList]
  refine wpAny_bind (ksk_fold (fun i s' => ∃ Hi kA e kvs, Inv X pins σ Hi s' ∧ Same H Hi ∧ Hi a = none ∧ Hi kS = none ∧ s'.heap.get? kS = some (seqObj "list" kA e) ∧ s'.heap.get? a = some (seqObj "list" #[] e1) ∧ Vals kvs kA.toList ∧ DpAll X.K (res M Hi) kvs ((ps.take i).map keyD)) its 0 { s with heap := h0 }
    ⟨H, #[], 0, [], I0, Same.refl _, I.hok.fresh hae, I.hok.fresh hke, gk, ga, .nil, by rw [List.take_zero]; exact .nil⟩ ?step ?done)
  case step =>
    rintro j x s' hx ⟨Hi, kA, e, kvs, Ij, sj, aj, kj, gkj, gaj, vk, dk⟩
    simp only [Nat.zero_add] at dk ⊢
    have hj : j < its.length := (List.getElem?_eq_some_iff.mp hx).1
    obtain ⟨v, hv, rx⟩ : ∃ v, xs[j]? = some v ∧ RelV v x := by
      cases ev : xs[j]? with
      | none =>
        have := rv.none_of ev
        rw [this] at hx
        cases hx
      | some v =>
        obtain ⟨u, hu, ru⟩ := rv.get ev
        rw [hx] at hu
        cases hu
        exact ⟨v, rfl, ru⟩
    have hpj : ps[j]? = some (ps[j]'(by omega)) := List.getElem?_eq_getElem (by omega)
    generalize ps[j]'(by omega) = L at hpj
    obtain ⟨v', hv', dv⟩ := dps_get dl (i := j) (d := eI L) (by rw [List.getElem?_map, hpj]; rfl)
    rw [hv] at hv'
    cases hv'
    have hLs : L.length ≤ 1000 := hsm L (List.mem_of_getElem? hpj)
    have mj := m.mono sj
    have hsp : spP (Rsized X.K) [v] Hi (fun z H' => Same Hi H' ∧ Dp X.K (res M H') z (keyD L)) E0 := ⟨M, [dat X.K (eI L)], dat X.K (keyD L), mj, ⟨L, hLs, rfl, rfl⟩, .cons (dp_mono (res_mono sj) _ _ dv) .nil, fun z H' s' d => ⟨s', d⟩⟩
    have hlen : ([x] ++ ([] : List Value)).length = pn.length := F.len [v] _ _ _ hsp
    refine wpAny_bind (wpAny_attempt (wpAny_call (codeAny_mono (F.run X.A.in1.in1 X.stack s' Hi ⟨[x], []⟩ [x] [v] _ E0 hr.in1.in1 Ij.env0.in1.in1 (by have := hb s' [x] Ij.kIn hlen; rwa [List.append_nil] at this) (.cons rx .nil) hsp) fun rs s'' hq => ?_)))
    cases rs with
    | error e => exact hq.elim
    | ok fl =>
      cases fl with
      | next => exact hq.elim
      | brk => exact hq.elim
      | cont => exact hq.elim
      | ret u =>
        obtain ⟨z, H', os, bare, un, hok, rz, sz, dz⟩ := hq
        have I1 : Inv X pins σ H' s'' := Ij.call' (ch := []) os un hok bare fun b hb => absurd hb (by simp)
        have ga1 := un.keep a _ gaj aj (nfs a hae) (by simp)
        have gk1 := un.keep kS _ gkj kj (nfs kS hke) (by simp)
        have na1 := un.free a _ gaj aj (by simp)
        have nk1 := un.free kS _ gkj kj (by simp)
        have hzk : kA.size ≤ ps.length := by
          have h1 := dps_len dk
          have h2 : kvs.length = kA.size := vk.length.trans Array.length_toList
          rw [List.length_map, List.length_take] at h1
          have h3 : kA.size ≤ ps.length := by
            rw [← h2, h1]
            exact Nat.min_le_right _ _
          exact h3
        try dsimp only
        obtain ⟨c2, hc2⟩ : ∃ c2, (s''.heap.update kS (Obj.mapSeq (·.push u))).get? kS = some (seqObj "list" (kA.push u) c2) := ⟨_, get?_update_seq gk1 (·.push u)⟩
        have sb := Heap.SameBut.update s''.heap kS (Obj.mapSeq (·.push u))
        have hk5 : kA.size ≤ sizeLine := Nat.le_trans (m := 100000) (by omega) (by decide)
        refine wpAny_bind (listUpdate_at gk1 rfl ?_ hk5 (Nat.le_trans (Nat.le_of_eq (Array.size_push ..)) (Nat.succ_le_succ hk5)))
        obtain ⟨f0, f1, f2, f3, f4, f5⟩ := fk nk1
        have I2 : Inv X pins σ H' { s'' with heap := s''.heap.update kS (Obj.mapSeq (·.push u)) } := I1.turned (t' := s''.toks) (fun b o hb e => (sb.2 b hb).trans e) f0 f1 f3 f4 f5
        refine wpAny_pure ⟨rfl, H', kA.push u, c2, kvs ++ [z], I2, sj.trans sz, na1, nk1, hc2, (sb.2 a (Ne.symm hka)).trans ga1, ?_, ?_⟩
        · rw [show (kA.push u).toList = kA.toList ++ [u] by simp]
          exact vk.append (.cons rz .nil)
        · rw [show ps.take (j + 1) = ps.take j ++ [L] by rw [List.take_add_one, hpj]; rfl, List.map_append]
          exact dps_app (dps_mono (res_mono sz) _ _ dk) (.cons dz .nil)
  case done =>
    rintro s' ⟨Hn, kA, e, kvs, In, sn, an, kn, gkn, gan, vk, dk⟩
    rw [show 0 + its.length = ps.length by omega, List.take_length] at dk
    have hk' : EachIs (fun v k => ∃ as, Reads s'.heap v k as) kA.toList (ps.map keyD) := each_vals In (dps_mono (res_le _ _) _ _ dk) vk
    have hsz' : kA.size = its.length := by
      have h1 := dps_len dk
      have h2 : kvs.length = kA.size := vk.length.trans Array.length_toList
      rw [List.length_map] at h1
      rw [← h2, h1, li]
    try dsimp only
    refine wpAny_bind (listItems_at gkn rfl ?_)
    have kp : KeepsBut a (hideAll s'.heap [kS]) s'.heap := fun b o _ e => of_hideAll [kS] e
    refine keyH_end (κ := dataKind s'.heap (ps.map keyD)) (h₁ := hideAll s'.heap [kS]) kp (hideAll_none [kS] (by simp)) gkn gan hka (SortsAt.data hk' hal hsk hdep) hsz' hzi fun h3 tk3 c k3 n3 => ⟨rfl, ?_⟩
    have bs1 : (xs.zip ps).map (fun z : V × List Int => keyD z.2) = ps.map keyD := by
      have : (xs.zip ps).map Prod.snd = ps := by rw [List.map_snd_zip]; omega
      rw [show (fun z : V × List Int => keyD z.2) = keyD ∘ Prod.snd from rfl, ← List.map_map, this]
    have eo : EachIs (fun (u : Value) (z : V × List Int) => RelV z.1 u) (sortVals (dataKind s'.heap (ps.map keyD)) false kA.toList its) ((xs.zip ps).mergeSort (dataLe false fun z : V × List Int => keyD z.2)) :=
      keyedOut_each (fun z : V × List Int => keyD z.2) ⟨s'.heap, kA.toList, by rw [bs1]; exact hal, by rw [bs1], by rw [bs1]; exact hk'⟩ (each_zip rv lx)
    have es : ((xs.zip ps).mergeSort (dataLe false fun z : V × List Int => keyD z.2)).map Prod.snd = sortL ps := by
      rw [List.map_mergeSort (r := dataLe false fun z : V × List Int => keyD z.2) (s := dataLe false keyD) (f := Prod.snd) (fun a _ b _ => rfl), List.map_snd_zip]
      · rfl
      · omega
    have dall : ∀ z ∈ (xs.zip ps).mergeSort (dataLe false fun z : V × List Int => keyD z.2), Dp X.K (res M H) z.1 (eI z.2) := fun z hz => dps_zip dl z ((List.mergeSort_perm _ _).mem_iff.mp hz)
    generalize hzs : (xs.zip ps).mergeSort (dataLe false fun z : V × List Int => keyD z.2) = zs at eo es dall
    have lz : zs.length = ps.length := by
      rw [← hzs, (List.mergeSort_perm _ _).length_eq, List.length_zip]
      omega
    have hnew : zs.length ≤ sizeLine := Nat.le_trans (m := 100000) (by omega) (by decide)
    have I3 := inv_adopt (t' := tk3) (h' := h3) (o := .lst (zs.map (·.1))) In (fa an) (fk kn) (fun b u ba bk e => k3 b u ba (hideAll_get [kS] e (by simpa using bk))) ⟨by rw [List.length_map]; exact hnew, _, c, vals_each eo, n3⟩
    have s3 : Same H (upd Hn a (.lst (zs.map (·.1)))) := sn.trans (same_upd an)
    refine ⟨.ref a, _, I3, rfl, q a _ _ s3 (I.hok.fresh hae) upd_same ?_⟩
    have := zip_dps dall
    have e5 : zs.map (fun z => z.2) = sortL ps := es
    rw [e5] at this
    exact dps_mono (res_mono s3) _ _ this
end PX

namespace PX
open PySem PySem.Spec PyProof.Rows L2
/-- all([elt for y in l]), l a tuple of whole numbers -/
theorem pv_allB {X : Cx} {ρ : DE} {xs : List Int} {elt l tg : Expr} {scope : Scope} {p pos pos2 : Pos} (y : Str) (j : Nat) (q : Int → Bool) (hc : X.calm = true) (hN : X.N.Nodup) (hall : X.mg "all" = none) (hga : Gl X "all") (hl : PV X l ρ (dat X.K (eI xs))) (ok : BlkOk X.N X.env.scope scope [(y, j)])
    (hv : ∀ d, ρ[j]? ≠ some (some d)) (hlen : xs.length ≤ 1000000) (hp : ∀ (s : Shared) (H : Hp) (C : Addr) (cl : List (Str × Addr)) (fp : List Addr), PG (Cx.bl X s H scope C cl fp) tg (gName j))
    (he : ∀ x, x ∈ xs → ∀ (s : Shared) (H : Hp) (C : Addr) (cl : List (Str × Addr)) (fp : List Addr), PV (Cx.bl X s H scope C cl fp) elt (ρ.set j (some (It' X.K x))) (Bo X.K (q x)))
    (hs : ∀ x, foldedSetIterable l X.env x = pure x := by intro _; rfl) (h1 : starEach (.ListComp elt [⟨tg, l, [], 0⟩] scope pos2 :: []) X.env = (false, eval (.ListComp elt [⟨tg, l, [], 0⟩] scope pos2) X.env) :: starEach [] X.env := by rfl) :
    PV X (.Call (.Name "all" p) [.ListComp elt [⟨tg, l, [], 0⟩] scope pos2] [] pos) ρ (Bo X.K (xs.all q)) := by
  have e2 : (xs.filter fun _ => true).map (fun x => PyData.bool (q x)) = (xs.map q).map PyData.bool := by rw [filt_true, List.map_map]; rfl
  refine pv_is (pv_callB (cr_all hc) hga hall (by decide +kernel) (pva_cons (pv_is (pv_lc [(y, j)] xs (It' X.K) (fun x => ρ.set j (some (It' X.K x))) (fun _ => true) (fun x => .bool (q x)) hc hN (it_tupE hl) ok (by intro k hk d; simp at hk; subst hk; exact hv d) hlen
    hp (fun x _ => tg_name j) (fun _ _ _ _ _ _ _ => pvts_nil) (fun x hx _ s H C cl fp => he x hx s H C cl fp) hs) (congrArg (Ls X.K) e2)) pva_nil h1) rc_all) ?_
  rw [List.all_map]
  rfl
theorem blk2 {X : Cx} {s : Shared} {H : Hp} {scope scope1 sc : Scope} {C : Addr} {cl : List (Str × Addr)} {fp : List Addr} {N : List Str} {own : List (Str × Nat)} (h : BlkOk N (relS scope sc) scope1 own) (hN : X.N = N) (hs : X.env.scope = sc) : BlkOk (Cx.bl X s H scope C cl fp).N (Cx.bl X s H scope C cl fp).env.scope scope1 own := by
  subst hN hs
  exact h
theorem pv_sortK {X : Cx} {ρ : DE} {e : Expr} {p p2 kpos pos : Pos} {x : Str} {f : Addr} {fd : FuncData} {pn : List Str} {k : Nat} {ps : List (List Int)} (F : FnOk X.prog X.w X.K X.mg X.base CX0 k f fd pn (spP (Rsized X.K))) (hr : Room (k + 2) X.A) (hb : Binds X.K fd pn []) (hg : Gl X "sorted") (hm : X.mg "sorted" = none) (hgx : Gl X x) (hmx : X.mg x = some (.ref f))
    (ha : PV X e ρ (Ls X.K (ps.map eI))) (h1 : ps.length ≤ 100000 ∧ ∀ p ∈ ps, p.length ≤ 1000) (hd : (x == ("__debug__" : Str)) = false := by decide) (he0 : starEach (e :: []) X.env = (false, eval e X.env) :: starEach [] X.env := by rfl) (hs1 : backTo pos (starEach [e] X.env) = (false, eval e X.env) :: backTo pos (starEach [] X.env) := by rfl) (hpl : (backTo pos (starEach [e] X.env)).any (·.1) = false := by rfl)
    (hall : (backToKw pos (keywordEach [⟨some "key", .Name x p2, kpos⟩] X.env)).all (·.1.isSome) = true := by rfl) (hnone : (backToKw pos (keywordEach [⟨some "key", .Name x p2, kpos⟩] X.env)).any (·.1.isNone) = false := by rfl) (hks : (backToKw pos (keywordEach [⟨some "key", .Name x p2, kpos⟩] X.env)).filterMap (·.1) = [Str.ofString "key"] := by rfl) :
    PV X (.Call (.Name "sorted" p) [e] [⟨some "key", .Name x p2, kpos⟩] pos) ρ (Ls X.K ((sortL ps).map eI)) :=
  pe_weak (pe_callBK (cr_sortK F hr hb) hg hm (by decide +kernel) (pva_cons ha pva_nil he0) (pk_cons (pe_glob (v := .ref f) hgx hmx rfl hd) pk_nil) (he := hs1) (hpl := hpl) (hall := hall) (hnone := hnone) (hks := hks)) fun σ H Q ⟨M, m, hh, q⟩ => ⟨M, m, hh, fun vs H1 s1 dvs => by
    cases dvs with
    | cons d t =>
      cases t
      obtain ⟨l, xs, rfl, e2, e3⟩ := d
      exact ⟨M, l, xs, ps, rfl, rfl, m.mono s1, e2, e3, h1, fun p H' ys s2 hp hy dy => q _ H' (s1.trans s2) ⟨p, ys, rfl, by rw [res_in ((m.mono s1).new hp)]; exact hy, dy⟩⟩⟩
theorem raw_len (cv : List (List Int)) : ∀ k : Nat, (PL.raw cv k).length ≤ 2 ^ k
  | 0 => Nat.le_refl _
  | k + 1 => by
    have ih := raw_len cv k
    show (PL.raw cv k ++ ((PL.raw cv k).filter _).map _).length ≤ _
    rw [List.length_append, List.length_map, Nat.pow_succ]
    have := List.length_filter_le (fun L => (cv.getD k []).all fun x => L.contains x) (PL.raw cv k)
    omega
theorem raw_el (cv : List (List Int)) : ∀ (k : Nat) (L : List Int), L ∈ PL.raw cv k → L.length ≤ k ∧ ∀ b ∈ L, 0 ≤ b ∧ b < (k : Int)
  | 0, L, h => by
    have : L = [] := List.mem_singleton.mp h
    subst this
    exact ⟨Nat.le_refl _, fun b hb => by simp at hb⟩
  | k + 1, L, h => by
    rcases List.mem_append.mp h with h | h
    · have := raw_el cv k L h
      exact ⟨by omega, fun b hb => by have := this.2 b hb; omega⟩
    · obtain ⟨L', h', rfl⟩ := List.mem_map.mp h
      have := raw_el cv k L' (List.mem_filter.mp h').1
      refine ⟨by rw [List.length_append]; simp; omega, fun b hb => ?_⟩
      rcases List.mem_append.mp hb with hb | hb
      · have := this.2 b hb
        omega
      · rw [List.mem_singleton.mp hb]
        omega
def pitsL (cv : List (List Int)) : List (List Int) := sortL (PL.raw cv cv.length)
theorem pitsL_len {cv : List (List Int)} (h : cv.length ≤ 10) : (pitsL cv).length ≤ 1024 := by
  unfold pitsL
  rw [(sortL_perm _).length_eq]
  exact Nat.le_trans (raw_len cv cv.length) (Nat.pow_le_pow_right (by decide) h)
theorem pitsL_el {cv : List (List Int)} (L : List Int) (h : L ∈ pitsL cv) : L.length ≤ cv.length ∧ ∀ b ∈ L, 0 ≤ b ∧ b < (cv.length : Int) := raw_el cv _ L ((sortL_perm _).mem_iff.mp h)
section
variable {P : Program} {w : World} {K : PySem.W.Frag} {mg : Str → Option Value} {base : Heap} {cG cT f : Addr} {fd : FuncData}
abbrev sSized : Stmt := top 25
theorem scSized : FnScope ["lot"] ["lot"] (defScope sSized) := ⟨rfl, rfl, rfl, by decide +kernel, rfl, by decide +kernel, by decide +kernel⟩
theorem dn_sized (F : FnP K "sized" "sized" sSized f fd) (hm : mg "sized" = some (.ref f)) (T : Fx K mg cG cT) : Dn P w K mg base "sized" 1 (Rsized K) := by
  refine dn_of F hm scSized (fun ds d ⟨_, _, h, _⟩ => by rw [h]; rfl) (fun _ _ _ _ _ _ us hl => match us, hl with | [_], _ => rfl) ?_
  rintro cdv A' outer s H E hr ds d ⟨L, hL, rfl, rfl⟩
  refine tr_cons (t_ret ?_ (rd_ok _)) tr_nil
  exact pv_tup (ds := [.int (L.length : Nat), eI L]) (pva_cons (pv_is (pv_callB call_len_seq (by rfl) T.nlen (by decide +kernel) (pva_cons (pv_var (pv 0) rfl) pva_nil) rc_lenT) (by rw [List.length_map])) (pva_cons (pv_var (pv 0) rfl) pva_nil))
/-! ### pits_of -/
abbrev sPitsOf : Stmt := top 26
theorem scPitsOf : FnScope ["ground", "found", "block", "firsts", "lot", "one"] ["ground"] (defScope sPitsOf) := ⟨rfl, rfl, rfl, by decide +kernel, rfl, by decide +kernel, by decide +kernel⟩
def RpitsOf (K : PySem.W.Frag) (cG : Addr) : List Dc → Dc → Prop := fun ds d => ∃ cv : List (List Int), CvOk cv ∧ ds = [Gr K cG cv] ∧ d = Ls K ((pitsL cv).map eI)
theorem dn_pits_of (F : FnP K "pits_of" "pits_of" sPitsOf f fd) (hm : mg "pits_of" = some (.ref f)) (T : Fx K mg cG cT) (L : LenG P w K mg base cG) (D : Dn P w K mg base "sized" 1 (Rsized K)) : Dn P w K mg base "pits_of" 4 (RpitsOf K cG) := by
  refine dn_of F hm scPitsOf (fun ds d ⟨_, _, h, _⟩ => by rw [h]; rfl) (fun _ _ _ _ _ _ us hl => match us, hl with | [_], _ => rfl) ?_
  rintro cdv A' outer s H E hr ds d ⟨cv, ⟨⟨c1, c2⟩, c3⟩, rfl, rfl⟩
  have pw : ∀ k, k ≤ 10 → (PL.raw cv k).length ≤ 1024 := fun k hk => Nat.le_trans (raw_len cv k) (Nat.pow_le_pow_right (by decide) hk)
  have elsl : ∀ K', (((List.range ((cv.length : Nat) : Int).toNat).map fun (k : Nat) => It' K' (0 + (k : Int))).length) = cv.length := fun _ => by simp
  refine tr_cons (t_set (i := 1) (d := Ls K ((PL.raw cv 0).map eI)) scPitsOf.nd rfl (Or.inl rfl) (pv_lst (ds := [.tuple []]) (pva_cons (pv_tup (ds := []) pva_nil) pva_nil)) (by simp [slotOf])) ?_
  refine tr_cons (t_for (js := [2]) (fun i => [some (Gr K cG cv), some (Ls K ((PL.raw cv i).map eI)), none, none, none, none]) (fun i => [some (Gr K cG cv), some (Ls K ((PL.raw cv i).map eI)), some (It' K (0 + (i : Int))), none, none, none]) (fun _ => none) PassesOwn.never rfl
    (it_range1 (by rfl) T.nrange (pv_lenG L (hr.mono (by decide)) (by rfl) T.nlen (pv_var (pv 0) rfl) (by omega))) (pg_name (i := 2) scPitsOf.nd rfl (Or.inr rfl)) (fun i d hd => ?_) (fun _ _ _ h => nomatch h) (fun i hi => ?_) (fun _ _ _ h => h) (rd_up _)) ?_
  · obtain ⟨hi, rfl⟩ := els_map hd
    simp only [List.getElem_range]
    exact tg_name 2
  · have hi' : i < cv.length := by simpa using hi
    have z : (0 + (i : Int)).toNat = i := by omega
    have hci := (c3 i hi').2.2
    refine tr_cons (t_set (i := 3) (d := dat K (eI (cv.getD i []))) scPitsOf.nd rfl (Or.inr rfl) (pv_ix ix_tup (pv_fld (pv_var (pv 0) rfl) (.head _) T.clG T.naTable rfl) (pv_var (pv 2) rfl) (rd_ixT (by omega) ((by have h := cv_get (cv := cv) (b := 0 + (i : Int)) (by omega) (by omega); rw [z] at h ⊢; exact h))) (fun _ _ => rfl)) (by simp [slotOf])) ?_
    have e1 : ((PL.raw cv i).map eI) ++ (((PL.raw cv i).filter fun L => (cv.getD i []).all fun x => L.contains x).map fun L => eI (L ++ [(i : Int)])) = (PL.raw cv (i + 1)).map eI := by
      show _ = (PL.raw cv i ++ ((PL.raw cv i).filter _).map _).map eI
      rw [List.map_append, List.map_map]
      rfl
    refine tr_cons (t_set (i := 1) (d := Ls K ((PL.raw cv (i + 1)).map eI)) scPitsOf.nd rfl (Or.inl rfl) (pv_is (pv_op op_cat (pv_var (pv 1) rfl) (pv_lc [("lot", 4)] (PL.raw cv i) (fun L => dat K (eI L)) (fun L => [some (Gr K cG cv), some (Ls K ((PL.raw cv i).map eI)), some (It' K (0 + (i : Int))), some (dat K (eI (cv.getD i []))), some (dat K (eI L)), none]) (fun L => (cv.getD i []).all fun x => L.contains x) (fun L => eI (L ++ [(i : Int)])) rfl scPitsOf.nd
      (it_listE (pv_var (pv 1) rfl)) (blkOk_by (N := ["ground", "found", "block", "firsts", "lot", "one"]) (sc := defScope sPitsOf) (by decide +kernel)) (by intro j hj d; simp at hj; subst hj; simp) (by have := pw i (by omega); omega)
      (fun _ _ _ _ _ => pg_name (i := 4) scPitsOf.nd rfl (Or.inr rfl)) (fun L _ => tg_name 4) (fun L hL _ _ _ _ _ => pvts_one (pvt_val (pv_allB "one" 5 (fun x => L.contains x) rfl scPitsOf.nd T.nall (by rfl) (pv_var (pv 3) rfl)
        (blk2 (N := ["ground", "found", "block", "firsts", "lot", "one"]) (sc := defScope sPitsOf) (blkOk_by (by decide +kernel)) rfl rfl) (by intro d; simp) (by omega) (fun _ _ _ _ _ => pg_name (i := 5) scPitsOf.nd rfl (Or.inl rfl)) (fun x hx _ _ _ _ _ => (pv_cmp op_in_seq (pv_var (pv 5) rfl) (pv_var (pv 4) rfl) rd_inT rfl))))) (fun L hL _ _ _ _ _ _ => pv_is (pv_tupS (pv_var (pv 4) rfl) (pv_var (pv 2) rfl) (by have := raw_el cv i L hL; rw [List.length_map]; omega)) (by rw [Int.zero_add]; show dat K (.tuple (L.map PyData.int ++ [PyData.int (i : Int)])) = dat K (.tuple ((L ++ [(i : Int)]).map PyData.int)); rw [List.map_append]; rfl))) (rd_cat ?_)) (congrArg (Ls K) e1)) (by simp [slotOf])) ?_
    · have h1 := pw i (by omega)
      have h2 := pw (i + 1) (by omega)
      have h3 := congrArg List.length e1
      simp only [List.length_append, List.length_map] at h3
      rw [List.length_map, List.length_map]
      omega
    · exact tr_post tr_nil fun Γ σ H p => (p.drop (i := 2)).drop (i := 3)
  · rw [elsl]
    obtain ⟨f', fd', pn, F', hm', hk', hb'⟩ := D.ex
    refine tr_cons (t_ret ?_ (rd_ok _)) tr_nil
    exact pv_sortK F' (hr.mono (by decide)) hb' (by rfl) T.nsorted (by rfl) hm' (pv_var (pv 1) rfl) ⟨by have := pw cv.length c2; omega, fun p hp => by have := (raw_el cv _ p hp).1; omega⟩
end
end PX

namespace PX
open PySem PySem.Spec PyProof.Rows L2
section
variable {P : Program} {w : World} {K : PySem.W.Frag} {mg : Str → Option Value} {base : Heap} {cG cT f : Addr} {fd : FuncData}
/-- worths of a ground's blocks -/
def WoOk (cv : List (List Int)) (ws : List Int) : Prop := CvOk cv ∧ ws.length = cv.length ∧ ∀ x ∈ ws, -50 ≤ x ∧ x ≤ 50
abbrev sNeedWorths : Stmt := top 43
theorem scNeedWorths : FnScope ["ground", "worths", "worth"] ["ground", "worths"] (defScope sNeedWorths) := ⟨rfl, rfl, rfl, by decide +kernel, rfl, by decide +kernel, by decide +kernel⟩
def RneedWorths (K : PySem.W.Frag) (cG : Addr) : List Dc → Dc → Prop := fun ds d => ∃ (cv : List (List Int)) (ws : List Int), WoOk cv ws ∧ ds = [Gr K cG cv, dat K (eI ws)] ∧ d = dat K .none
theorem dn_need_worths (F : FnP K "need_worths" "need_worths" sNeedWorths f fd) (hm : mg "need_worths" = some (.ref f)) (T : Fx K mg cG cT) (L : LenG P w K mg base cG) (d_need_ground : Dn P w K mg base "need_ground" 1 (RneedGround K cG)) (d_is_from : Dn P w K mg base "is_from" 1 (RisFrom K)) : Dn P w K mg base "need_worths" 3 (RneedWorths K cG) := by
  refine dn_of F hm scNeedWorths (fun ds d ⟨_, _, _, h, _⟩ => by rw [h]; rfl) (fun _ _ _ _ _ _ us hl => match us, hl with | [_, _], _ => rfl) ?_
  rintro cdv A' outer s H E hr ds d ⟨cv, ws, ⟨⟨⟨c1, c2⟩, c3⟩, hl, hb⟩, rfl, rfl⟩
  refine tr_cons (t_expr (pv_dn d_need_ground (hr.mono (by decide)) (by rfl) (pva_cons (pv_var (pv 0) rfl) pva_nil) ⟨_, rfl, rfl⟩)) ?_
  refine tr_cons (t_pass (pvw_or (pvt_not (pvt_val (pv_callB call_isi (by rfl) T.nisinstance (by decide +kernel) (pva_cons (pv_var (pv 1) rfl) (pva_cons (pv_bTy (by rfl) T.ntuple (by decide +kernel)) pva_nil)) (rc_isi (b := true) (.ty "tuple") ty_tup (kit_ty (by decide +kernel)))))) (pw_when fun _ => pvw_or1 (pvt_cmp op_ne (pv_callB call_len_seq (by rfl) T.nlen (by decide +kernel) (pva_cons (pv_var (pv 1) rfl) pva_nil) rc_lenT) (pv_lenG L (hr.mono (by decide)) (by rfl) T.nlen (pv_var (pv 0) rfl) (by omega)) rd_neI (nomark _)))).pt ?_) ?_
  · rw [List.length_map, hl]
    simp
  refine tr_cons (t_pass (pvt_not (pvt_val (pv_allT "worth" 2 rfl scNeedWorths.nd T.nall (by rfl) (pv_var (pv 1) rfl) (blkOk_by (N := ["ground", "worths", "worth"]) (sc := defScope sNeedWorths) (by decide +kernel)) (by intro d; simp [ρ0]) (by omega)
    (fun _ _ _ _ _ => pg_name (i := 2) scNeedWorths.nd rfl (Or.inl rfl)) (fun x hx _ _ _ _ _ => ?_)))) rfl) (tr_post tr_nil a_none)
  have h := hb x hx
  exact pv_is (pv_dn d_is_from (hr.mono (by decide)) (by rfl) (pva_cons (pv_var (pv 2) rfl) (pva_cons (pv_un un_neg (pv_gInt (by rfl) T.mostWorth) ru_neg) (pva_cons (pv_gInt (by rfl) T.mostWorth) pva_nil))) ⟨_, _, _, rfl, rfl⟩) (by rw [decide_eq_true (show (-50 : Int) ≤ x by omega), decide_eq_true (show x ≤ (50 : Int) by omega)]; rfl)
/-! ### sum_of, greatest_of -/
def LotIn (ws : List Int) (L : List Int) : Prop := (∀ b ∈ L, 0 ≤ b ∧ b < ws.length) ∧ L.length ≤ 1000
abbrev sSumOf : Stmt := top 44
theorem scSumOf : FnScope ["worths", "lot", "block"] ["worths", "lot"] (defScope sSumOf) := ⟨rfl, rfl, rfl, by decide +kernel, rfl, by decide +kernel, by decide +kernel⟩
def RsumOf (K : PySem.W.Frag) : List Dc → Dc → Prop := fun ds d => ∃ (ws L : List Int), LotIn ws L ∧ ds = [dat K (eI ws), dat K (eI L)] ∧ d = It' K (PL.sumOf ws L)
theorem dn_sum_of (F : FnP K "sum_of" "sum_of" sSumOf f fd) (hm : mg "sum_of" = some (.ref f)) (T : Fx K mg cG cT) : Dn P w K mg base "sum_of" 1 (RsumOf K) := by
  refine dn_of F hm scSumOf (fun ds d ⟨_, _, _, h, _⟩ => by rw [h]; rfl) (fun _ _ _ _ _ _ us hl => match us, hl with | [_, _], _ => rfl) ?_
  rintro cdv A' outer s H E hr ds d ⟨ws, L, ⟨hb, hl⟩, rfl, rfl⟩
  refine tr_cons (t_ret ?_ (rd_ok _)) tr_nil
  have e1 : (L.filter fun _ => true).map (fun b => PyData.int (PL.g ws b.toNat)) = (L.map fun b => PL.g ws b.toNat).map PyData.int := by rw [filt_true, List.map_map]; rfl
  refine pv_callB (cr_sum rfl) (by rfl) T.nsum (by decide +kernel) (pva_cons (pv_is (pv_lc [("block", 2)] L (It' K) (fun b => [some (dat K (eI ws)), some (dat K (eI L)), some (It' K b)]) (fun _ => true) (fun b => .int (PL.g ws b.toNat)) rfl scSumOf.nd
    (it_tupE (pv_var (pv 1) rfl)) (blkOk_by (N := ["worths", "lot", "block"]) (sc := defScope sSumOf) (by decide +kernel)) (by intro j hj d; simp at hj; subst hj; simp [ρ0]) (by omega)
    (fun _ _ _ _ _ => pg_name (i := 2) scSumOf.nd rfl (Or.inl rfl)) (fun b _ => tg_name 2) (fun _ _ _ _ _ _ _ => pvts_nil) (fun b hb' _ _ _ _ _ _ => ?_)) (congrArg (Ls K) e1)) pva_nil) rc_sum
  have h := hb b hb'
  exact (pv_ix ix_tup (pv_var (pv 0) rfl) (pv_var (pv 2) rfl) (rd_ixT (h.1) (gI h.1 h.2)) (fun _ _ => rfl))
abbrev sGreatestOf : Stmt := top 45
theorem scGreatestOf : FnScope ["worths", "some", "pit"] ["worths", "some"] (defScope sGreatestOf) := ⟨rfl, rfl, rfl, by decide +kernel, rfl, by decide +kernel, by decide +kernel⟩
def LotsIn (ws : List Int) (ps : List (List Int)) : Prop := (∀ L ∈ ps, LotIn ws L) ∧ ps ≠ [] ∧ ps.length ≤ 100000
def RgreatestOf (K : PySem.W.Frag) : List Dc → Dc → Prop := fun ds d => ∃ (ws : List Int) (ps : List (List Int)), LotsIn ws ps ∧ ds = [dat K (eI ws), Ls K (ps.map eI)] ∧ d = It' K (PL.maxL (ps.map (PL.sumOf ws)))
theorem dn_greatest_of (F : FnP K "greatest_of" "greatest_of" sGreatestOf f fd) (hm : mg "greatest_of" = some (.ref f)) (T : Fx K mg cG cT) (d_sum_of : Dn P w K mg base "sum_of" 1 (RsumOf K)) : Dn P w K mg base "greatest_of" 2 (RgreatestOf K) := by
  refine dn_of F hm scGreatestOf (fun ds d ⟨_, _, _, h, _⟩ => by rw [h]; rfl) (fun _ _ _ _ _ _ us hl => match us, hl with | [_, _], _ => rfl) ?_
  rintro cdv A' outer s H E hr ds d ⟨ws, ps, ⟨hb, hne, hl⟩, rfl, rfl⟩
  refine tr_cons (t_ret ?_ (rd_ok _)) tr_nil
  have e1 : (ps.filter fun _ => true).map (fun L => PyData.int (PL.sumOf ws L)) = (ps.map (PL.sumOf ws)).map PyData.int := by rw [filt_true, List.map_map]; rfl
  refine pv_callB (cr_max rfl) (by rfl) T.nmax (by decide +kernel) (pva_cons (pv_is (pv_lc [("pit", 2)] ps (fun L => dat K (eI L)) (fun L => [some (dat K (eI ws)), some (Ls K (ps.map eI)), some (dat K (eI L))]) (fun _ => true) (fun L => .int (PL.sumOf ws L)) rfl scGreatestOf.nd
    (it_listE (pv_var (pv 1) rfl)) (blkOk_by (N := ["worths", "some", "pit"]) (sc := defScope sGreatestOf) (by decide +kernel)) (by intro j hj d; simp at hj; subst hj; simp [ρ0]) (by omega)
    (fun _ _ _ _ _ => pg_name (i := 2) scGreatestOf.nd rfl (Or.inl rfl)) (fun b _ => tg_name 2) (fun _ _ _ _ _ _ _ => pvts_nil) (fun L hL _ _ _ _ _ _ => (pv_dn d_sum_of (hr.mono (by decide)) (by rfl) (pva_cons (pv_var (pv 0) rfl) (pva_cons (pv_var (pv 2) rfl) pva_nil)) (⟨ws, L, hb L hL, rfl, rfl⟩)))) (congrArg (Ls K) e1)) pva_nil) (rc_max (by simpa using hne))
/-! ### the best pits -/
theorem lots_in {cv : List (List Int)} {ws : List Int} (h : WoOk cv ws) : LotsIn ws (pitsL cv) := by
  have c2 := h.1.1.2
  refine ⟨fun L hL => ?_, ?_, ?_⟩
  · have := pitsL_el L hL
    rw [LotIn, h.2.1]
    exact ⟨this.2, by omega⟩
  · have : ([] : List Int) ∈ pitsL cv := by
      unfold pitsL
      rw [(sortL_perm _).mem_iff]
      have : ∀ k, ([] : List Int) ∈ PL.raw cv k := fun k => by
        induction k with
        | zero => exact List.mem_singleton.mpr rfl
        | succ k ih => exact List.mem_append_left _ ih
      exact this _
    exact List.ne_nil_of_mem this
  · have := pitsL_len c2
    omega
abbrev sBestPits : Stmt := top 46
theorem scBestPits : FnScope ["ground", "worths", "some", "most", "pit"] ["ground", "worths"] (defScope sBestPits) := ⟨rfl, rfl, rfl, by decide +kernel, rfl, by decide +kernel, by decide +kernel⟩
def RbestPits (K : PySem.W.Frag) (cG : Addr) : List Dc → Dc → Prop := fun ds d => ∃ (cv : List (List Int)) (ws : List Int), WoOk cv ws ∧ ds = [Gr K cG cv, dat K (eI ws)] ∧ d = Ls K ((PL.bestP ws (pitsL cv)).map eI)
theorem dn_best_pits (F : FnP K "best_pits" "best_pits" sBestPits f fd) (hm : mg "best_pits" = some (.ref f)) (T : Fx K mg cG cT) (d_pits_of : Dn P w K mg base "pits_of" 4 (RpitsOf K cG)) (d_greatest_of : Dn P w K mg base "greatest_of" 2 (RgreatestOf K)) (d_sum_of : Dn P w K mg base "sum_of" 1 (RsumOf K)) : Dn P w K mg base "best_pits" 5 (RbestPits K cG) := by
  refine dn_of F hm scBestPits (fun ds d ⟨_, _, _, h, _⟩ => by rw [h]; rfl) (fun _ _ _ _ _ _ us hl => match us, hl with | [_, _], _ => rfl) ?_
  rintro cdv A' outer s H E hr ds d ⟨cv, ws, h, rfl, rfl⟩
  have li := lots_in h
  refine tr_cons (t_set (i := 2) scBestPits.nd rfl (Or.inl rfl) (pv_dn d_pits_of (hr.mono (by decide)) (by rfl) (pva_cons (pv_var (pv 0) rfl) pva_nil) (⟨cv, h.1, rfl, rfl⟩)) (by simp [slotOf])) ?_
  refine tr_cons (t_set (i := 3) scBestPits.nd rfl (Or.inr rfl) (pv_dn d_greatest_of (hr.mono (by decide)) (by rfl) (pva_cons (pv_var (pv 1) rfl) (pva_cons (pv_var (pv 2) rfl) pva_nil)) (⟨ws, pitsL cv, li, rfl, rfl⟩)) (by simp [slotOf])) ?_
  refine tr_cons (t_ret ?_ (rd_ok _)) tr_nil
  exact pv_lc [("pit", 4)] (pitsL cv) (fun L => dat K (eI L)) (fun L => [some (Gr K cG cv), some (dat K (eI ws)), some (Ls K ((pitsL cv).map eI)), some (It' K (PL.maxL ((pitsL cv).map (PL.sumOf ws)))), some (dat K (eI L))]) (fun L => decide (PL.sumOf ws L = PL.maxL ((pitsL cv).map (PL.sumOf ws)))) eI rfl scBestPits.nd
    (it_listE (pv_var (pv 2) rfl)) (blkOk_by (N := ["ground", "worths", "some", "most", "pit"]) (sc := defScope sBestPits) (by decide +kernel)) (by intro j hj d; simp at hj; subst hj; simp [ρ0]) (by have := li.2.2; omega)
    (fun _ _ _ _ _ => pg_name (i := 4) scBestPits.nd rfl (Or.inl rfl)) (fun b _ => tg_name 4) (fun L hL _ _ _ _ _ => pvts_one (pvt_cmp op_eq (pv_dn d_sum_of (hr.mono (by decide)) (by rfl) (pva_cons (pv_var (pv 1) rfl) (pva_cons (pv_var (pv 4) rfl) pva_nil)) (⟨ws, L, li.1 L hL, rfl, rfl⟩)) (pv_var (pv 3) rfl) rd_eqI (nomark _))) (fun L hL _ _ _ _ _ _ => (pv_var (pv 4) rfl))
abbrev sBestWorth : Stmt := top 47
theorem scBestWorth : FnScope ["ground", "worths"] ["ground", "worths"] (defScope sBestWorth) := ⟨rfl, rfl, rfl, by decide +kernel, rfl, by decide +kernel, by decide +kernel⟩
def RbestWorth (K : PySem.W.Frag) (cG : Addr) : List Dc → Dc → Prop := fun ds d => ∃ (cv : List (List Int)) (ws : List Int), WoOk cv ws ∧ ds = [Gr K cG cv, dat K (eI ws)] ∧ d = It' K (PL.maxL ((pitsL cv).map (PL.sumOf ws)))
theorem dn_best_worth (F : FnP K "best_worth" "best_worth" sBestWorth f fd) (hm : mg "best_worth" = some (.ref f)) (T : Fx K mg cG cT) (d_need_worths : Dn P w K mg base "need_worths" 3 (RneedWorths K cG)) (d_pits_of : Dn P w K mg base "pits_of" 4 (RpitsOf K cG)) (d_greatest_of : Dn P w K mg base "greatest_of" 2 (RgreatestOf K)) : Dn P w K mg base "best_worth" 5 (RbestWorth K cG) := by
  refine dn_of F hm scBestWorth (fun ds d ⟨_, _, _, h, _⟩ => by rw [h]; rfl) (fun _ _ _ _ _ _ us hl => match us, hl with | [_, _], _ => rfl) ?_
  rintro cdv A' outer s H E hr ds d ⟨cv, ws, h, rfl, rfl⟩
  refine tr_cons (t_expr (pv_dn d_need_worths (hr.mono (by decide)) (by rfl) (pva_cons (pv_var (pv 0) rfl) (pva_cons (pv_var (pv 1) rfl) pva_nil)) (⟨cv, ws, h, rfl, rfl⟩))) ?_
  refine tr_cons (t_ret ?_ (rd_ok _)) tr_nil
  exact (pv_dn d_greatest_of (hr.mono (by decide)) (by rfl) (pva_cons (pv_var (pv 1) rfl) (pva_cons (pv_dn d_pits_of (hr.mono (by decide)) (by rfl) (pva_cons (pv_var (pv 0) rfl) pva_nil) (⟨cv, h.1, rfl, rfl⟩)) pva_nil)) (⟨ws, pitsL cv, lots_in h, rfl, rfl⟩))
abbrev sLeastBest : Stmt := top 48
theorem scLeastBest : FnScope ["ground", "worths"] ["ground", "worths"] (defScope sLeastBest) := ⟨rfl, rfl, rfl, by decide +kernel, rfl, by decide +kernel, by decide +kernel⟩
def RleastBest (K : PySem.W.Frag) (cG : Addr) : List Dc → Dc → Prop := fun ds d => ∃ (cv : List (List Int)) (ws L : List Int), (WoOk cv ws ∧ (PL.bestP ws (pitsL cv))[0]? = some L) ∧ ds = [Gr K cG cv, dat K (eI ws)] ∧ d = dat K (eI L)
theorem dn_least_best (F : FnP K "least_best" "least_best" sLeastBest f fd) (hm : mg "least_best" = some (.ref f)) (T : Fx K mg cG cT) (d_need_worths : Dn P w K mg base "need_worths" 3 (RneedWorths K cG)) (d_best_pits : Dn P w K mg base "best_pits" 5 (RbestPits K cG)) : Dn P w K mg base "least_best" 6 (RleastBest K cG) := by
  refine dn_of F hm scLeastBest (fun ds d ⟨_, _, _, _, h, _⟩ => by rw [h]; rfl) (fun _ _ _ _ _ _ us hl => match us, hl with | [_, _], _ => rfl) ?_
  rintro cdv A' outer s H E hr ds d ⟨cv, ws, L, ⟨h, hL⟩, rfl, rfl⟩
  refine tr_cons (t_expr (pv_dn d_need_worths (hr.mono (by decide)) (by rfl) (pva_cons (pv_var (pv 0) rfl) (pva_cons (pv_var (pv 1) rfl) pva_nil)) (⟨cv, ws, h, rfl, rfl⟩))) ?_
  refine tr_cons (t_ret ?_ (rd_ok _)) tr_nil
  exact (pv_ix ix_list (pv_dn d_best_pits (hr.mono (by decide)) (by rfl) (pva_cons (pv_var (pv 0) rfl) (pva_cons (pv_var (pv 1) rfl) pva_nil)) (⟨cv, ws, h, rfl, rfl⟩)) pv_int (rd_ixL (by decide) ((by show _ = some (eI L); rw [List.getElem?_map]; show ((PL.bestP ws (pitsL cv))[0]?).map eI = _; rw [hL]; rfl))) (fun _ _ => rfl))
abbrev sGreatestBest : Stmt := top 49
theorem scGreatestBest : FnScope ["ground", "worths"] ["ground", "worths"] (defScope sGreatestBest) := ⟨rfl, rfl, rfl, by decide +kernel, rfl, by decide +kernel, by decide +kernel⟩
def RgreatestBest (K : PySem.W.Frag) (cG : Addr) : List Dc → Dc → Prop := fun ds d => ∃ (cv : List (List Int)) (ws L : List Int), (WoOk cv ws ∧ (PL.bestP ws (pitsL cv))[(PL.bestP ws (pitsL cv)).length - 1]? = some L) ∧ ds = [Gr K cG cv, dat K (eI ws)] ∧ d = dat K (eI L)
theorem dn_greatest_best (F : FnP K "greatest_best" "greatest_best" sGreatestBest f fd) (hm : mg "greatest_best" = some (.ref f)) (T : Fx K mg cG cT) (d_need_worths : Dn P w K mg base "need_worths" 3 (RneedWorths K cG)) (d_best_pits : Dn P w K mg base "best_pits" 5 (RbestPits K cG)) : Dn P w K mg base "greatest_best" 6 (RgreatestBest K cG) := by
  refine dn_of F hm scGreatestBest (fun ds d ⟨_, _, _, _, h, _⟩ => by rw [h]; rfl) (fun _ _ _ _ _ _ us hl => match us, hl with | [_, _], _ => rfl) ?_
  rintro cdv A' outer s H E hr ds d ⟨cv, ws, L, ⟨h, hL⟩, rfl, rfl⟩
  have hlt := (List.getElem?_eq_some_iff.mp hL).1
  have hlm : ((PL.bestP ws (pitsL cv)).map eI).length = (PL.bestP ws (pitsL cv)).length := List.length_map ..
  have z : ((-1 : Int) + (((PL.bestP ws (pitsL cv)).map eI).length : Nat)).toNat = (PL.bestP ws (pitsL cv)).length - 1 := by omega
  refine tr_cons (t_expr (pv_dn d_need_worths (hr.mono (by decide)) (by rfl) (pva_cons (pv_var (pv 0) rfl) (pva_cons (pv_var (pv 1) rfl) pva_nil)) (⟨cv, ws, h, rfl, rfl⟩))) ?_
  refine tr_cons (t_ret ?_ (rd_ok _)) tr_nil
  exact (pv_ix ix_list (pv_dn d_best_pits (hr.mono (by decide)) (by rfl) (pva_cons (pv_var (pv 0) rfl) (pva_cons (pv_var (pv 1) rfl) pva_nil)) (⟨cv, ws, h, rfl, rfl⟩)) (pv_un un_neg pv_int ru_neg) (rd_ixLneg (by decide) (by omega) ((by show _ = some (eI L); rw [z, List.getElem?_map, hL]; rfl))) (fun _ _ => rfl))
end
end PX

namespace PX
open PySem PySem.Spec PyProof.Rows L2
/-- a description with a fact beside it -/
def Wf (φ : Prop) (d : Dc) : Dc := ⟨fun H v => φ ∧ d.p H v, fun s h => ⟨h.1, d.mono s h.2⟩⟩
theorem A.put {K : PySem.W.Frag} {ρ : DE} {o : Mu} {Γ : Gm} {σ : L2.St} {H : Hp} {j : Nat} {d : Dc} {φ : Prop} (hφ : φ) (hj : ρ[j]? = some (some d)) (h : A K ρ o Γ σ H) : A K (ρ.set j (some (Wf φ d))) o Γ σ H := by
  obtain ⟨M', m, hh, _, _, k⟩ := h.eval
  refine k _ _ _ (Same.refl _) ⟨by rw [List.length_set]; exact hh.1, fun i e q => ?_⟩ fun _ _ => rfl
  by_cases z : j = i
  · subst z
    have l := (List.getElem?_eq_some_iff.mp hj).1
    rw [List.getElem?_set_self l] at q
    simp only [Option.some.injEq] at q
    subst q
    obtain ⟨v, h1, h2⟩ := hh.2 j d hj
    exact ⟨v, h1, hφ, h2⟩
  · rw [List.getElem?_set_ne z] at q
    exact hh.2 i e q
theorem A.get {K : PySem.W.Frag} {ρ : DE} {o : Mu} {Γ : Gm} {σ : L2.St} {H : Hp} {j : Nat} {d : Dc} {φ : Prop} (hj : ρ[j]? = some (some (Wf φ d))) (h : A K ρ o Γ σ H) : φ ∧ A K (ρ.set j (some d)) o Γ σ H := by
  obtain ⟨M', m, hh, _, _, k⟩ := h.eval
  obtain ⟨v, h1, h2⟩ := hh.2 j _ hj
  refine ⟨h2.1, k _ _ _ (Same.refl _) ⟨by rw [List.length_set]; exact hh.1, fun i e q => ?_⟩ fun _ _ => rfl⟩
  by_cases z : j = i
  · subst z
    have l := (List.getElem?_eq_some_iff.mp hj).1
    rw [List.getElem?_set_self l] at q
    simp only [Option.some.injEq] at q
    subst q
    exact ⟨v, h1, h2.2⟩
  · rw [List.getElem?_set_ne z] at q
    exact hh.2 i e q
theorem tr_get {X : Cx} {K : PySem.W.Frag} {rest : List Stmt} {ρ : DE} {o : Mu} {Nx : Asr} {Rt : Rl} {d : Dc} {φ : Prop} (j : Nat) (hj : ρ[j]? = some (some (Wf φ d))) (h : φ → TR X rest (A K (ρ.set j (some d)) o) Nx Rt) : TR X rest (A K ρ o) Nx Rt := fun Γ =>
  pss_weak (pss_when (t := fun D σ H => A K (ρ.set j (some d)) o Γ σ H ∧ (∀ σ' H', Nx Γ σ' H' → D.nx σ' H') ∧ ∀ v H', Rt Γ v H' → D.rt v H') (φ := φ) fun f => h f Γ) fun D σ H ⟨p, n, r⟩ => ⟨(A.get hj p).1, (A.get hj p).2, n, r⟩
theorem it_conv {X : Cx} {tg iter : Expr} {ρ : DE} {α : Type} {xs : List α} {el el' : α → Dc} (h : IT X tg iter ρ (xs.map el)) (k : ∀ x, Le (el x) (el' x)) : IT X tg iter ρ (xs.map el') := pi_weak h fun σ H R ⟨M, m, hh, q⟩ => ⟨M, m, hh, fun J H1 s1 wd => q J H1 s1 fun H2 s2 => by
  obtain ⟨w1, w2, w3⟩ := wd H2 s2
  rw [List.length_map] at w1 w2 ⊢
  refine ⟨w1, w2, fun i x H' d hd y => ?_⟩
  obtain ⟨hi, rfl⟩ := els_map hd
  obtain ⟨e1, e2⟩ := w3 i x H' (el xs[i]) (by rw [List.getElem?_map, List.getElem?_eq_getElem hi]; rfl) y
  exact ⟨e1, fun M' m' s' => k _ _ _ (e2 M' m' s')⟩⟩
theorem it_eq {X : Cx} {tg iter : Expr} {ρ : DE} {els els' : List Dc} (h : IT X tg iter ρ els) (e : els = els') : IT X tg iter ρ els' := e ▸ h
theorem enum_ints {K : PySem.W.Frag} {cs : List Int} : ((cs.map PyData.int).zipIdx.map fun z => Tp K (It' K (z.2 : Nat)) (dat K z.1)) = (List.range cs.length).map fun c => Tp K (It' K (c : Nat)) (It' K (PL.g cs c)) := by
  refine List.ext_getElem (by simp) fun i h1 h2 => ?_
  have hi : i < cs.length := by simpa using h2
  simp only [List.getElem_map, List.getElem_range, List.getElem_zipIdx, Nat.zero_add]
  rw [g_get hi]
abbrev eRs (rs : List (Int × Int)) : PyData := .tuple (rs.map eP)
theorem rs_get {rs : List (Int × Int)} {i : Int} (h0 : 0 ≤ i) (h : i < rs.length) : (rs.map eP)[i.toNat]? = some (eP (PL.r2 rs i.toNat)) := by
  have hl : i.toNat < rs.length := by omega
  rw [List.getElem?_map, List.getElem?_eq_getElem hl]
  unfold PL.r2
  rw [List.getD_eq_getElem?_getD, List.getElem?_eq_getElem hl]
  rfl
section
variable {P : Program} {w : World} {K : PySem.W.Frag} {mg : Str → Option Value} {base : Heap} {cG cT f : Addr} {fd : FuncData}
/-! ### is_rule -/
abbrev sIsRule : Stmt := top 30
theorem scIsRule : FnScope ["value", "one"] ["value"] (defScope sIsRule) := ⟨rfl, rfl, rfl, by decide +kernel, rfl, by decide +kernel, by decide +kernel⟩
def RisRule (K : PySem.W.Frag) : List Dc → Dc → Prop := fun ds d => ∃ r : Int × Int, (1 ≤ r.1 ∧ r.1 ≤ 9 ∧ 1 ≤ r.2 ∧ r.2 ≤ 9) ∧ ds = [dat K (eP r)] ∧ d = Bo K true
theorem dn_is_rule (F : FnP K "is_rule" "is_rule" sIsRule f fd) (hm : mg "is_rule" = some (.ref f)) (T : Fx K mg cG cT) (d_is_from : Dn P w K mg base "is_from" 1 (RisFrom K)) : Dn P w K mg base "is_rule" 2 (RisRule K) := by
  refine dn_of F hm scIsRule (fun ds d ⟨_, _, h, _⟩ => by rw [h]; rfl) (fun _ _ _ _ _ _ us hl => match us, hl with | [_], _ => rfl) ?_
  rintro cdv A' outer s H E hr ds d ⟨r, hrr, rfl, rfl⟩
  refine tr_cons (t_ret ?_ (rd_ok _)) tr_nil
  refine pv_is (pv_and (pv_callB call_isi (by rfl) T.nisinstance (by decide +kernel) (pva_cons (pv_var (pv 0) rfl) (pva_cons (pv_bTy (by rfl) T.ntuple (by decide +kernel)) pva_nil)) (rc_isi (b := true) (.ty "tuple") ty_tup (kit_ty (by decide +kernel)))) fun _ => pv_and (pv_cmp op_eq (pv_callB call_len_seq (by rfl) T.nlen (by decide +kernel) (pva_cons (pv_var (pv 0) rfl) pva_nil) rc_lenT) pv_int rd_eqI (nomark _)) fun _ => pv_one (pv_allT (xs := [r.1, r.2]) "one" 1 rfl scIsRule.nd T.nall (by rfl) (pv_var (pv 0) rfl) (blkOk_by (N := ["value", "one"]) (sc := defScope sIsRule) (by decide +kernel)) (by intro d; simp [ρ0]) (by simp)
    (fun _ _ _ _ _ => pg_name (i := 1) scIsRule.nd rfl (Or.inl rfl)) (fun x hx _ _ _ _ _ => ?_))) rfl
  have h : 1 ≤ x ∧ x ≤ 9 := by
    have : x = r.1 ∨ x = r.2 := by simpa using hx
    omega
  exact pv_is (pv_dn d_is_from (hr.mono (by decide)) (by rfl) (pva_cons (pv_var (pv 1) rfl) (pva_cons pv_int (pva_cons (pv_gInt (by rfl) T.mostRule) pva_nil))) ⟨_, _, _, rfl, rfl⟩) (by rw [decide_eq_true (show (1 : Int) ≤ x by omega), decide_eq_true (show x ≤ (9 : Int) by omega)]; rfl)
/-! ### first_steep -/
abbrev sFirstSteep : Stmt := top 31
theorem scFirstSteep : FnScope ["columns", "rules", "index", "rule", "more"] ["columns", "rules"] (defScope sFirstSteep) := ⟨rfl, rfl, rfl, by decide +kernel, rfl, by decide +kernel, by decide +kernel⟩
/-- None, or some index -/
def FS (p : List Int) (rs : List (Int × Int)) : Dc := ⟨fun _ v => (PL.lets p rs = true ∧ v = .non) ∨ (PL.lets p rs = false ∧ ∃ i : Int, v = .int i), fun _ h => h⟩
theorem fs_none {p : List Int} {rs : List (Int × Int)} : ∀ H v, (FS p rs).p H v → decide (v = .non) = PL.lets p rs := fun H v h => by
  rcases h with ⟨h1, rfl⟩ | ⟨h1, i, rfl⟩
  · rw [h1]
    rfl
  · rw [h1]
    rfl
def RfirstSteep (K : PySem.W.Frag) : List Dc → Dc → Prop := fun ds d => ∃ (p : List Int) (rs : List (Int × Int)), rs.length + 1 ≤ p.length ∧ ds = [dat K (eI p), dat K (eRs rs)] ∧ d = FS p rs
abbrev stepAt (p : List Int) (rs : List (Int × Int)) (i : Nat) : Bool := PL.step (PL.g p i) (PL.g p (i + 1)) (PL.r2 rs i)
theorem dn_first_steep (F : FnP K "first_steep" "first_steep" sFirstSteep f fd) (hm : mg "first_steep" = some (.ref f)) (T : Fx K mg cG cT) : Dn P w K mg base "first_steep" 1 (RfirstSteep K) := by
  refine dn_of F hm scFirstSteep (fun ds d ⟨_, _, _, h, _⟩ => by rw [h]; rfl) (fun _ _ _ _ _ _ us hl => match us, hl with | [_, _], _ => rfl) ?_
  rintro cdv A' outer s H E hr ds d ⟨p, rs, hl, rfl, rfl⟩
  have elsl : ∀ K', (((rs.map eP).zipIdx.map fun z => Tp K' (It' K' (z.2 : Nat)) (dat K' z.1)).length) = rs.length := fun _ => by simp
  refine tr_cons (t1_pre (t_for (o := none) (ρ := [some (Wf (∀ j, j < 0 → stepAt p rs j = true) (dat K (eI p))), some (dat K (eRs rs)), none, none, none]) (js := [2, 3]) (fun i => [some (Wf (∀ j, j < i → stepAt p rs j = true) (dat K (eI p))), some (dat K (eRs rs)), none, none, none]) (fun i => [some (Wf (∀ j, j < i → stepAt p rs j = true) (dat K (eI p))), some (dat K (eRs rs)), some (It' K (i : Nat)), some (dat K (eP (PL.r2 rs i))), none]) (fun _ => none) PassesOwn.never rfl
    (it_enum (by rfl) T.nenumerate (pv_var (pv 1) rfl)) (pg_tup rfl (pgs_cons (pg_name (i := 2) scFirstSteep.nd rfl (Or.inl rfl)) (pgs_cons (pg_name (i := 3) scFirstSteep.nd rfl (Or.inl rfl)) pgs_nil))) (fun i d hd => ?_) (fun _ _ _ h => nomatch h) (fun i hi => ?_) (fun _ _ _ h => h) (rd_up _)) fun Γ σ H q => A.put (j := 0) (fun j hj => absurd hj (Nat.not_lt_zero _)) rfl q) ?_
  · obtain ⟨hi, rfl⟩ := els_enum hd
    have e : rs[i] = PL.r2 rs i := by
      unfold PL.r2
      rw [List.getD_eq_getElem?_getD, List.getElem?_eq_getElem hi]
      rfl
    rw [e]
    exact tg_tup 2 3
  · rw [elsl] at hi
    refine tr_get 0 rfl fun hok => ?_
    have z1 : (((i : Nat) : Int)).toNat = i := by omega
    have z2 : (((i : Nat) : Int) + 1).toNat = i + 1 := by omega
    refine tr_cons (t_set (i := 4) (d := It' K (PL.g p i - PL.g p (i + 1))) scFirstSteep.nd rfl (Or.inl rfl) (pv_is (pv_op op_sub (pv_ix ix_tup (pv_var (pv 0) rfl) (pv_var (pv 2) rfl) (rd_ixT (by omega) (gI (by omega) (by omega))) (fun _ _ => rfl)) (pv_ix ix_tup (pv_var (pv 0) rfl) (pv_op op_add (pv_var (pv 2) rfl) pv_int (rd_I0 fun _ => .int _)) (rd_ixT (by omega) (gI (by omega) (by omega))) (fun _ _ => rfl)) (rd_I0 fun _ => .int _)) (by rw [z1, z2]; rfl)) (by simp [slotOf])) ?_
    refine tr_cons (t_if (k := decide ((PL.r2 rs i).1 < PL.g p i - PL.g p (i + 1)) || decide ((PL.r2 rs i).2 < -(PL.g p i - PL.g p (i + 1)))) ((pvw_or (pvt_cmp op_gt (pv_var (pv 4) rfl) (pv_ix ix_tup (pv_var (pv 3) rfl) pv_int (rd_ixT (by decide) (rfl)) (fun _ _ => rfl)) (rd_I0 fun _ => .bl _) (nomark _)) (pw_when fun _ => (pvw_or1 (pvt_cmp op_gt (pv_un un_neg (pv_var (pv 4) rfl) ru_neg) (pv_ix ix_tup (pv_var (pv 3) rfl) pv_int (rd_ixT (by decide) (rfl)) (fun _ _ => rfl)) (rd_I0 fun _ => .bl _) (nomark _)))))).pt (fun hk => ?_) fun hk => ?_) tr_nil
    · have hs : stepAt p rs i = false := by
        show (decide _ && decide _) = false
        rw [Bool.or_eq_true, decide_eq_true_eq, decide_eq_true_eq] at hk
        rw [Bool.and_eq_false_iff, decide_eq_false_iff_not, decide_eq_false_iff_not]
        omega
      have hF : PL.lets p rs = false := by
        cases e : PL.lets p rs with
        | false => rfl
        | true =>
          unfold PL.lets PL.letsK at e
          rw [List.all_eq_true] at e
          have : stepAt p rs i = true := e i (List.mem_range.mpr hi)
          rw [hs] at this
          cases this
      exact tr_cons (t_ret (pv_conv (pv_var (pv 2) rfl) fun H v h => by
        cases (show Dp K H v (.int (i : Nat)) from h)
        exact .inr ⟨hF, _, rfl⟩) (rd_ok _)) tr_nil
    · refine tr_post tr_nil fun Γ σ H q => ?_
      have hs : stepAt p rs i = true := by
        show (decide _ && decide _) = true
        rw [Bool.or_eq_false_iff, decide_eq_false_iff_not, decide_eq_false_iff_not] at hk
        rw [Bool.and_eq_true, decide_eq_true_eq, decide_eq_true_eq]
        omega
      exact A.put (j := 0) (fun j hj => by
        rcases Nat.lt_succ_iff_lt_or_eq.mp hj with h | h
        · exact hok j h
        · rw [h]
          exact hs) rfl (((q.drop (i := 2)).drop (i := 3)).drop (i := 4))
  · refine tr_get 0 rfl fun hok => ?_
    have hT : PL.lets p rs = true := by
      unfold PL.lets PL.letsK
      rw [List.all_eq_true]
      intro j hj
      exact hok j (by rw [elsl]; exact List.mem_range.mp hj)
    exact tr_cons (t_ret (pv_conv pv_non fun H v h => by
      cases (show Dp K H v .none from h)
      exact .inl ⟨hT, rfl⟩) (rd_ok _)) tr_nil
end
end PX

namespace PX
open PySem PySem.Spec PyProof.Rows L2
theorem fs_true {p : List Int} {rs : List (Int × Int)} (h : PL.lets p rs = true) : ∀ H v, (FS p rs).p H v → decide (v = .non) = true := fun H v k => (fs_none H v k).trans h
theorem val_lets {cs : List Int} {rs : List (Int × Int)} (V : PL.Val cs rs) : PL.lets cs rs = true := PL.lets_iff.mpr V.fit
theorem r2_get {rs : List (Int × Int)} {i : Nat} (h : i < rs.length) : rs[i] = PL.r2 rs i := by
  unfold PL.r2
  rw [List.getD_eq_getElem?_getD, List.getElem?_eq_getElem h]
  rfl
abbrev Tb (K : PySem.W.Frag) (cT : Addr) (cs : List Int) (rs : List (Int × Int)) : Dc := Ob cT [(("sizes" : Str), dat K (eI cs)), (("angles" : Str), dat K (eRs rs))]
section
variable {P : Program} {w : World} {K : PySem.W.Frag} {mg : Str → Option Value} {base : Heap} {cG cT f : Addr} {fd : FuncData}
/-! ### Table -/
abbrev sTable : Stmt := top 32
abbrev sTinit : Stmt := inClass sTable 0
theorem scTinit : FnScope ["self", "columns", "rules", "one", "index", "rule"] ["self", "columns", "rules"] (defScope sTinit) := ⟨rfl, rfl, rfl, by decide +kernel, rfl, by decide +kernel, by decide +kernel⟩
def RTinit (K : PySem.W.Frag) : List Dc → List (Str × Dc) → Prop := fun ds fs => ∃ cs rs, PL.Val cs rs ∧ ds = [dat K (eI cs), dat K (eRs rs)] ∧ fs = [(("sizes" : Str), dat K (eI cs)), (("angles" : Str), dat K (eRs rs))]
theorem ok_tinit (F : FnP K "__init__" "Table.__init__" sTinit f fd) (T : Fx K mg cG cT) (d_is_from : Dn P w K mg base "is_from" 1 (RisFrom K)) (d_is_rule : Dn P w K mg base "is_rule" 2 (RisRule K)) (d_first_steep : Dn P w K mg base "first_steep" 1 (RfirstSteep K)) : FnOk P w K mg base CX0 3 f fd ["self", "columns", "rules"] (spI cT (RTinit K)) := by
  refine fnok_init F scTinit (fun ds fs ⟨_, _, _, h, _⟩ => by rw [h]; rfl) ?_
  rintro cdv A' outer s H E hr x dx ds fs ⟨cs, rs, V, rfl, rfl⟩
  have v1 := V.pos
  have v2 := V.few
  have v3 := V.hr
  have e1 : decide ((1 : Int) ≤ ((cs.map PyData.int).length : Nat)) = true := decide_eq_true (by rw [List.length_map]; omega)
  have e2 : decide ((((cs.map PyData.int).length : Nat) : Int) ≤ 5) = true := decide_eq_true (by rw [List.length_map]; omega)
  refine tr_cons (t1_phi (t_pass ((pvw_or (pvt_not (pvt_val (pv_callB call_isi (by rfl) T.nisinstance (by decide +kernel) (pva_cons (pv_var (pv 1) rfl) (pva_cons (pv_bTy (by rfl) T.ntuple (by decide +kernel)) pva_nil)) (rc_isi (b := true) (.ty "tuple") ty_tup (kit_ty (by decide +kernel)))))) (pw_when fun _ => (pvw_or1 (pvt_not (pvt_chain op_le op_le pv_int (pv_callB call_len_seq (by rfl) T.nlen (by decide +kernel) (pva_cons (pv_var (pv 1) rfl) pva_nil) rc_lenT) (pv_gInt (by rfl) T.mostColumns) (rd_I0 fun _ => .bl _) fun _ => rd_I0 fun _ => .bl _)))))).pt (by rw [e1, e2]; rfl))) ?_
  refine tr_cons (t1_phi (t_pass (pvw_or (pvt_not (pvt_val (pv_allT "one" 3 rfl scTinit.nd T.nall (by rfl) (pv_var (pv 1) rfl) (blkOk_by (N := ["self", "columns", "rules", "one", "index", "rule"]) (sc := defScope sTinit) (by decide +kernel)) (by intro d; simp [ρ0]) (by omega)
    (fun _ _ _ _ _ => pg_name (i := 3) scTinit.nd rfl (Or.inl rfl)) (fun x hx _ _ _ _ _ => ?_)))) (pw_when fun _ => pvw_or1 (pvt_cmp op_gt (pv_callB (cr_sum rfl) (by rfl) T.nsum (by decide +kernel) (pva_cons (pv_callTy call_list_of (by rfl) T.nlist (by decide +kernel) (pva_cons (pv_var (pv 1) rfl) pva_nil) rc_list) pva_nil) rc_sum) (pv_gInt (by rfl) T.mostBlocks) (rd_I0 fun _ => .bl _) (nomark _)))).pt (by have := V.sum; rw [decide_eq_false (show ¬ (10 < cs.sum) by omega)]; rfl))) ?_
  · obtain ⟨i, hi, rfl⟩ := List.mem_iff_getElem.mp hx
    have h := V.sz i hi
    rw [← g_get hi] at h
    exact pv_is (pv_dn d_is_from (hr.mono (by decide)) (by rfl) (pva_cons (pv_var (pv 3) rfl) (pva_cons pv_int (pva_cons (pv_gInt (by rfl) T.mostBlocks) pva_nil))) ⟨_, _, _, rfl, rfl⟩) (by rw [decide_eq_true h.1, decide_eq_true h.2]; rfl)
  refine tr_cons (t1_phi (t_pass ((pvw_or (pvt_not (pvt_val (pv_callB call_isi (by rfl) T.nisinstance (by decide +kernel) (pva_cons (pv_var (pv 2) rfl) (pva_cons (pv_bTy (by rfl) T.ntuple (by decide +kernel)) pva_nil)) (rc_isi (b := true) (.ty "tuple") ty_tup (kit_ty (by decide +kernel)))))) (pw_when fun _ => (pvw_or1 (pvt_cmp op_ne (pv_callB call_len_seq (by rfl) T.nlen (by decide +kernel) (pva_cons (pv_var (pv 2) rfl) pva_nil) rc_lenT) (pv_op op_sub (pv_callB call_len_seq (by rfl) T.nlen (by decide +kernel) (pva_cons (pv_var (pv 1) rfl) pva_nil) rc_lenT) pv_int (rd_I0 fun _ => .int _)) rd_neI (nomark _)))))).pt (by
    have : ((rs.map eP).length : Int) = (((cs.map PyData.int).length : Nat) : Int) - 1 := by
      rw [List.length_map, List.length_map]
      omega
    rw [this]
    simp))) ?_
  refine tr_cons (t1_phi (t_for (js := [4, 5]) (fun _ => [some (Vl (.ref x)), some (dat K (eI cs)), some (dat K (eRs rs)), none, none, none]) (fun i => [some (Vl (.ref x)), some (dat K (eI cs)), some (dat K (eRs rs)), none, some (It' K (i : Nat)), some (dat K (eP (PL.r2 rs i)))]) (fun _ => none) PassesOwn.never rfl (it_enum (by rfl) T.nenumerate (pv_var (pv 2) rfl))
    (pg_tup rfl (pgs_cons (pg_name (i := 4) scTinit.nd rfl (Or.inl rfl)) (pgs_cons (pg_name (i := 5) scTinit.nd rfl (Or.inl rfl)) pgs_nil))) (fun i d hd => ?_) (fun _ _ _ h => nomatch h) (fun i hi => ?_) (fun _ _ _ h => h) (fun _ _ _ _ _ _ _ h => h.elim))) ?_
  · obtain ⟨hi, rfl⟩ := els_enum hd
    rw [r2_get hi]
    exact tg_tup 4 5
  · have hi' : i < rs.length := by simpa using hi
    have h := V.rl i hi'
    refine tr_cons (t_pass (pvt_not (pvt_val (pv_dn d_is_rule (hr.mono (by decide)) (by rfl) (pva_cons (pv_var (pv 5) rfl) pva_nil) (⟨_, h, rfl, rfl⟩)))) rfl) (tr_post tr_nil fun Γ σ H p => (p.drop (i := 4)).drop (i := 5))
  · refine tr_cons (t1_phi (t_pass (pvt_cmp op_notN (pv_dn d_first_steep (hr.mono (by decide)) (by rfl) (pva_cons (pv_var (pv 1) rfl) (pva_cons (pv_var (pv 2) rfl) pva_nil)) (⟨cs, rs, by omega, rfl, rfl⟩)) pv_non (rd_notN (fs_true (val_lets V))) (nomark _)) rfl)) ?_
    refine tr_cons (t1_pre (t_fld (fs := []) (pv_var (pv 0) rfl) (pv_var (pv 1) rfl) T.clT T.naSizes (by simp) (by decide)) a_ai) ?_
    exact tr_cons (t_fld (fs := [(("sizes" : Str), dat K (eI cs))]) (pv_var (pv 0) rfl) (pv_var (pv 2) rfl) T.clT T.naAngles (by show ("angles" : Str) ∉ [("sizes" : Str)]; decide) (by show 1 < 10; decide)) tr_nil
abbrev sNeedTable : Stmt := top 33
theorem scNeedTable : FnScope ["table"] ["table"] (defScope sNeedTable) := ⟨rfl, rfl, rfl, by decide +kernel, rfl, by decide +kernel, by decide +kernel⟩
def RneedTable (K : PySem.W.Frag) (cT : Addr) : List Dc → Dc → Prop := fun ds d => ∃ cs rs, ds = [Tb K cT cs rs] ∧ d = dat K .none
theorem dn_need_table (F : FnP K "need_table" "need_table" sNeedTable f fd) (hm : mg "need_table" = some (.ref f)) (T : Fx K mg cG cT) : Dn P w K mg base "need_table" 1 (RneedTable K cT) := by
  refine dn_of F hm scNeedTable (fun ds d ⟨_, _, h, _⟩ => by rw [h]; rfl) (fun _ _ _ _ _ _ us hl => match us, hl with | [_], _ => rfl) ?_
  rintro cdv A' outer s H E hr ds d ⟨cs, rs, rfl, rfl⟩
  exact tr_cons (t_pass (pvt_not (pvt_val (pv_callB (C8.call_isC T.isT) (by rfl) T.nisinstance (by decide +kernel) (pva_cons (pv_var (pv 0) rfl) (pva_cons (pv_gCls (by rfl) T.gTable) pva_nil)) rc_isC))) rfl) (tr_post tr_nil a_none)
/-! ### cells_of -/
abbrev sCellsOf : Stmt := top 34
theorem scCellsOf : FnScope ["table", "found", "depth", "column", "size"] ["table"] (defScope sCellsOf) := ⟨rfl, rfl, rfl, by decide +kernel, rfl, by decide +kernel, by decide +kernel⟩
theorem cellsN_len (cs : List Int) (m : Nat) : (PL.cellsN cs m).length ≤ m * cs.length := by
  unfold PL.cellsN
  induction m with
  | zero => exact Nat.zero_le _
  | succ m ih =>
    rw [List.range_succ, List.flatMap_append, List.length_append, List.flatMap_singleton]
    have : (PL.rowC cs (m + 1)).length ≤ cs.length := by
      unfold PL.rowC
      rw [List.length_map]
      exact Nat.le_trans (List.length_filter_le _ _) (by simp)
    rw [Nat.succ_mul]
    omega
theorem cellsN_succ (cs : List Int) (m : Nat) : PL.cellsN cs (m + 1) = PL.cellsN cs m ++ PL.rowC cs (m + 1) := by
  unfold PL.cellsN
  rw [List.range_succ, List.flatMap_append, List.flatMap_singleton]
def RcellsOf (K : PySem.W.Frag) (cT : Addr) : List Dc → Dc → Prop := fun ds d => ∃ cs rs, PL.Val cs rs ∧ ds = [Tb K cT cs rs] ∧ d = Ls K ((PL.cells cs).map eP)
theorem dn_cells_of (F : FnP K "cells_of" "cells_of" sCellsOf f fd) (hm : mg "cells_of" = some (.ref f)) (T : Fx K mg cG cT) : Dn P w K mg base "cells_of" 1 (RcellsOf K cT) := by
  refine dn_of F hm scCellsOf (fun ds d ⟨_, _, _, h, _⟩ => by rw [h]; rfl) (fun _ _ _ _ _ _ us hl => match us, hl with | [_], _ => rfl) ?_
  rintro cdv A' outer s H E hr ds d ⟨cs, rs, V, rfl, rfl⟩
  have v2 := V.few
  have hq : ((10 : Int) + 1 - 1).toNat = 10 := rfl
  refine tr_cons (t_new (i := 1) scCellsOf.nd rfl (Or.inl rfl) (by show 1 < 5; decide) (hρ := rfl)) ?_
  refine tr_cons (t_for (js := [2]) (fun i => [some (Tb K cT cs rs), none, none, none, none]) (fun i => [some (Tb K cT cs rs), none, some (It' K (1 + (i : Int))), none, none]) (fun i => some (1, (PL.cellsN cs i).map eP)) PassesOwn.never rfl
    (it_range2 (by rfl) T.nrange pv_int (pv_op op_add (pv_gInt (by rfl) T.mostBlocks) pv_int (rd_I0 fun _ => .int _))) (pg_name (i := 2) scCellsOf.nd rfl (Or.inr rfl)) (fun i d hd => ?_) (fun i j hj => ?_) (fun i hi => ?_) (fun _ _ _ h => h) (rd_up _)) ?_
  · obtain ⟨hi, rfl⟩ := els_map hd
    simp only [List.getElem_range]
    exact tg_name 2
  · simp at hj
    subst hj
    simp [slotOf]
  · have hi' : i < 10 := by simpa [hq] using hi
    have hz : (1 + (i : Int)) = ((i + 1 : Nat) : Int) := by omega
    have hl := cellsN_len cs i
    have hrl : (PL.rowC cs (i + 1)).length ≤ cs.length := by
      unfold PL.rowC
      rw [List.length_map]
      exact Nat.le_trans (List.length_filter_le _ _) (by simp)
    have hm10 : i * cs.length ≤ 50 := Nat.le_trans (Nat.mul_le_mul (Nat.le_of_lt hi') v2) (by decide)
    refine tr_cons (t_extend (es := (PL.rowC cs (i + 1)).map eP) (pe_bm PySem.F.plainAttrs_list PySem.F.slot_list_extend PySem.F.type_list_extend mt_extend (pv 1) (pva_cons (pv_is (pv_lc [("column", 3), ("size", 4)] (List.range cs.length) (fun c => Tp K (It' K (c : Nat)) (It' K (PL.g cs c))) (fun c => [some (Tb K cT cs rs), none, some (It' K (1 + (i : Int))), some (It' K (c : Nat)), some (It' K (PL.g cs c))])
      (fun c => decide (1 + (i : Int) ≤ PL.g cs c)) (fun c => eP ((c : Int), 1 + (i : Int))) rfl scCellsOf.nd (it_eq (it_enum (by rfl) T.nenumerate (pv_fld (pv_var (pv 0) rfl) (.head _) T.clT T.naSizes rfl)) enum_ints) (blkOk_by (N := ["table", "found", "depth", "column", "size"]) (sc := defScope sCellsOf) (by decide +kernel)) (by intro j hj d; simp at hj; rcases hj with rfl | rfl <;> simp) (by simp; omega)
      (fun _ _ _ _ _ => pg_tup rfl (pgs_cons (pg_name (i := 3) scCellsOf.nd rfl (Or.inl rfl)) (pgs_cons (pg_name (i := 4) scCellsOf.nd rfl (Or.inl rfl)) pgs_nil))) (fun c _ => tg_tup 3 4) (fun c _ _ _ _ _ _ => pvts_one (pvt_cmp op_le (pv_var (pv 2) rfl) (pv_var (pv 4) rfl) (rd_I0 fun _ => .bl _) (nomark _))) (fun c _ _ _ _ _ _ _ => pv_tup (ds := [.int (c : Nat), .int (1 + (i : Int))]) (pva_cons (pv_var (pv 3) rfl) (pva_cons (pv_var (pv 2) rfl) pva_nil)))) (by
        rw [hz]
        unfold PL.rowC
        rw [List.map_map]
        rfl)) pva_nil)) (by rw [List.length_map, List.length_map]; omega)) ?_
    refine tr_post tr_nil fun Γ σ H p => ?_
    rw [cellsN_succ, List.map_append]
    exact p.drop (i := 2)
  · refine tr_freeze ?_
    exact tr_cons (t_ret (pv_is (pv_var (pv 1) rfl) (by simp [hq]; rfl)) (rd_ok _)) tr_nil
/-! ### beside, needed_cells -/
abbrev sBeside : Stmt := top 35
theorem scBeside : FnScope ["table", "column", "found"] ["table", "column"] (defScope sBeside) := ⟨rfl, rfl, rfl, by decide +kernel, rfl, by decide +kernel, by decide +kernel⟩
def Rbeside (K : PySem.W.Frag) (cT : Addr) : List Dc → Dc → Prop := fun ds d => ∃ cs rs c, PL.Val cs rs ∧ (0 ≤ c ∧ c < (cs.length : Int)) ∧ ds = [Tb K cT cs rs, It' K c] ∧ d = Ls K ((PL.besideL cs rs c).map eP)
theorem dn_beside (F : FnP K "beside" "beside" sBeside f fd) (hm : mg "beside" = some (.ref f)) (T : Fx K mg cG cT) : Dn P w K mg base "beside" 1 (Rbeside K cT) := by
  refine dn_of F hm scBeside (fun ds d ⟨_, _, _, _, _, h, _⟩ => by rw [h]; rfl) (fun _ _ _ _ _ _ us hl => match us, hl with | [_, _], _ => rfl) ?_
  rintro cdv A' outer s H E hr ds d ⟨cs, rs, c, V, ⟨h0, h1⟩, rfl, rfl⟩
  have v3 := V.hr
  refine tr_cons (t_new (i := 2) scBeside.nd rfl (Or.inl rfl) (by show 2 < 3; decide) (hρ := rfl)) ?_
  refine tr_cons (Mid := A K [some (Tb K cT cs rs), some (It' K c), none] (some (2, (if c > 0 then [(c - 1, (PL.r2 rs (c - 1).toNat).2)] else []).map eP))) (t_if (pvt_cmp op_gt (pv_var (pv 1) rfl) pv_int (rd_I0 fun _ => .bl _) (nomark _)) (fun hk => ?_) fun hk => ?_) ?_
  · have hc : 0 < c := of_decide_eq_true hk
    refine tr_cons (t_append (dd := eP (c - 1, (PL.r2 rs (c - 1).toNat).2)) (pe_bm PySem.F.plainAttrs_list PySem.F.slot_list_append PySem.F.type_list_append mt_append (pv 2) (pva_cons (pv_tup (ds := [.int (c - 1), .int (PL.r2 rs (c - 1).toNat).2]) (pva_cons (pv_op op_sub (pv_var (pv 1) rfl) pv_int (rd_I0 fun _ => .int _)) (pva_cons (pv_ix ix_tup (pv_ix ix_tup (pv_fld (pv_var (pv 0) rfl) (.tail _ (.head _)) T.clT T.naAngles rfl) (pv_op op_sub (pv_var (pv 1) rfl) pv_int (rd_I0 fun _ => .int _)) (rd_ixT (by omega) (rs_get (by omega) (by omega))) (fun _ _ => rfl)) pv_int (rd_ixT (by decide) (rfl)) (fun _ _ => rfl)) pva_nil))) pva_nil)) (by decide)) ?_
    exact tr_post tr_nil fun Γ σ H p => by rw [if_pos hc]; exact p
  · have hc : ¬ 0 < c := of_decide_eq_false hk
    exact tr_post tr_nil fun Γ σ H p => by rw [if_neg hc]; exact p
  refine tr_cons (Mid := A K [some (Tb K cT cs rs), some (It' K c), none] (some (2, (PL.besideL cs rs c).map eP))) (t_if (pvt_cmp op_lt (pv_var (pv 1) rfl) (pv_op op_sub (pv_callB call_len_seq (by rfl) T.nlen (by decide +kernel) (pva_cons (pv_fld (pv_var (pv 0) rfl) (.head _) T.clT T.naSizes rfl) pva_nil) rc_lenT) pv_int (rd_I0 fun _ => .int _)) (rd_I0 fun _ => .bl _) (nomark _)) (fun hk => ?_) fun hk => ?_) ?_
  · have hc : c < (cs.length : Int) - 1 := by
      have := of_decide_eq_true hk
      rwa [List.length_map] at this
    refine tr_cons (t_append (dd := eP (c + 1, (PL.r2 rs c.toNat).1)) (pe_bm PySem.F.plainAttrs_list PySem.F.slot_list_append PySem.F.type_list_append mt_append (pv 2) (pva_cons (pv_tup (ds := [.int (c + 1), .int (PL.r2 rs c.toNat).1]) (pva_cons (pv_op op_add (pv_var (pv 1) rfl) pv_int (rd_I0 fun _ => .int _)) (pva_cons (pv_ix ix_tup (pv_ix ix_tup (pv_fld (pv_var (pv 0) rfl) (.tail _ (.head _)) T.clT T.naAngles rfl) (pv_var (pv 1) rfl) (rd_ixT (by omega) (rs_get (by omega) (by omega))) (fun _ _ => rfl)) pv_int (rd_ixT (by decide) (rfl)) (fun _ _ => rfl)) pva_nil))) pva_nil)) (by split <;> simp)) ?_
    refine tr_post tr_nil fun Γ σ H p => ?_
    unfold PL.besideL
    rw [if_pos hc, List.map_append]
    exact p
  · have hc : ¬ c < (cs.length : Int) - 1 := by
      have := of_decide_eq_false hk
      rwa [List.length_map] at this
    refine tr_post tr_nil fun Γ σ H p => ?_
    unfold PL.besideL
    rw [if_neg hc, List.append_nil]
    exact p
  · exact tr_freeze (tr_cons (t_ret (pv_var (pv 2) rfl) (rd_ok _)) tr_nil)
abbrev sNeededCells : Stmt := top 36
theorem scNeededCells : FnScope ["table", "column", "depth", "found", "other", "more", "cell"] ["table", "column", "depth"] (defScope sNeededCells) := ⟨rfl, rfl, rfl, by decide +kernel, rfl, by decide +kernel, by decide +kernel⟩
theorem beside_len {cs : List Int} {rs : List (Int × Int)} {c : Int} : (PL.besideL cs rs c).length ≤ 2 := by
  unfold PL.besideL
  split <;> split <;> simp
def RneededCells (K : PySem.W.Frag) (cT : Addr) : List Dc → Dc → Prop := fun ds d => ∃ cs rs x, PL.Val cs rs ∧ (0 ≤ x.1 ∧ x.1 < (cs.length : Int)) ∧ ds = [Tb K cT cs rs, It' K x.1, It' K x.2] ∧ d = Ls K ((PL.need cs rs x).map eP)
theorem dn_needed_cells (F : FnP K "needed_cells" "needed_cells" sNeededCells f fd) (hm : mg "needed_cells" = some (.ref f)) (T : Fx K mg cG cT) (d_beside : Dn P w K mg base "beside" 1 (Rbeside K cT)) : Dn P w K mg base "needed_cells" 2 (RneededCells K cT) := by
  refine dn_of F hm scNeededCells (fun ds d ⟨_, _, _, _, _, h, _⟩ => by rw [h]; rfl) (fun _ _ _ _ _ _ us hl => match us, hl with | [_, _, _], _ => rfl) ?_
  rintro cdv A' outer s H E hr ds d ⟨cs, rs, x, V, h01, rfl, rfl⟩
  have bl : (PL.besideL cs rs x.1).length ≤ 2 := beside_len
  refine tr_cons (t_set (i := 3) (d := Ls K (([(x.1, x.2 - 1)] ++ (PL.besideL cs rs x.1).map fun o => (o.1, x.2 - o.2)).map eP)) scNeededCells.nd rfl (Or.inl rfl) (pv_is (pv_op op_cat (pv_lst (ds := [eP (x.1, x.2 - 1)]) (pva_cons (pv_tup (ds := [.int x.1, .int (x.2 - 1)]) (pva_cons (pv_var (pv 1) rfl) (pva_cons (pv_op op_sub (pv_var (pv 2) rfl) pv_int (rd_I0 fun _ => .int _)) pva_nil))) pva_nil))
    (pv_lc [("other", 4), ("more", 5)] (PL.besideL cs rs x.1) (fun o => Tp K (It' K o.1) (It' K o.2)) (fun o => [some (Tb K cT cs rs), some (It' K x.1), some (It' K x.2), none, some (It' K o.1), some (It' K o.2), none]) (fun _ => true) (fun o => eP (o.1, x.2 - o.2)) rfl scNeededCells.nd
      (it_conv (it_listE (pv_dn d_beside (hr.mono (by decide)) (by rfl) (pva_cons (pv_var (pv 0) rfl) (pva_cons (pv_var (pv 1) rfl) pva_nil)) (⟨cs, rs, x.1, V, h01, rfl, rfl⟩))) fun o => tp_dat _ _) (blkOk_by (N := ["table", "column", "depth", "found", "other", "more", "cell"]) (sc := defScope sNeededCells) (by decide +kernel)) (by intro j hj d; simp at hj; rcases hj with rfl | rfl <;> simp [ρ0]) (by omega)
      (fun _ _ _ _ _ => pg_tup rfl (pgs_cons (pg_name (i := 4) scNeededCells.nd rfl (Or.inl rfl)) (pgs_cons (pg_name (i := 5) scNeededCells.nd rfl (Or.inl rfl)) pgs_nil))) (fun c _ => tg_tup 4 5) (fun c _ _ _ _ _ _ => pvts_nil) (fun o _ _ _ _ _ _ _ => pv_tup (ds := [.int o.1, .int (x.2 - o.2)]) (pva_cons (pv_var (pv 4) rfl) (pva_cons (pv_op op_sub (pv_var (pv 2) rfl) (pv_var (pv 5) rfl) (rd_I0 fun _ => .int _)) pva_nil))))
    (rd_cat (by rw [filt_true, List.length_map]; simp only [List.length_cons, List.length_nil]; omega))) (by rw [filt_true, List.map_append, List.map_map]; rfl)) (by simp [slotOf])) ?_
  refine tr_cons (t_ret ?_ (rd_ok _)) tr_nil
  exact pv_lc [("cell", 6)] ([(x.1, x.2 - 1)] ++ (PL.besideL cs rs x.1).map fun o => (o.1, x.2 - o.2)) (fun y => dat K (eP y)) (fun y => [some (Tb K cT cs rs), some (It' K x.1), some (It' K x.2), some (Ls K (([(x.1, x.2 - 1)] ++ (PL.besideL cs rs x.1).map fun o => (o.1, x.2 - o.2)).map eP)), none, none, some (dat K (eP y))]) (fun y => decide (y.2 > 0)) eP rfl scNeededCells.nd
    (it_listE (pv_var (pv 3) rfl)) (blkOk_by (N := ["table", "column", "depth", "found", "other", "more", "cell"]) (sc := defScope sNeededCells) (by decide +kernel)) (by intro j hj d; simp at hj; subst hj; simp [ρ0]) (by rw [List.length_append, List.length_map]; simp only [List.length_cons, List.length_nil]; omega)
    (fun _ _ _ _ _ => pg_name (i := 6) scNeededCells.nd rfl (Or.inl rfl)) (fun b _ => tg_name 6) (fun y _ _ _ _ _ _ => pvts_one (pvt_cmp op_gt (pv_ix ix_tup (pv_var (pv 6) rfl) pv_int (rd_ixT (by decide) (rfl)) (fun _ _ => rfl)) pv_int (rd_I0 fun _ => .bl _) (nomark _))) (fun L hL _ _ _ _ _ _ => (pv_var (pv 6) rfl))
end
end PX

namespace PX
open PySem PySem.Spec PyProof.Rows L2
/-! ### slices -/
def cutA {α : Type} (xs : List α) (lo hi : Option Int) : List α := (xs.drop (HT.sIx xs.length 0 lo)).take (HT.sIx xs.length xs.length hi - HT.sIx xs.length 0 lo)
theorem cutA_map {α β : Type} (f : α → β) (xs : List α) (lo hi : Option Int) : cutA (xs.map f) lo hi = (cutA xs lo hi).map f := by
  unfold cutA
  rw [List.length_map, List.map_take, List.map_drop]
theorem dps_cut {K : PySem.W.Frag} {H : Hp} {xs : List V} {ds : List PyData} {lo hi : Option Int} (h : DpAll K H xs ds) : DpAll K H (cutV xs lo hi) (cutA ds lo hi) := by
  unfold cutV cutA
  rw [dps_len h]
  exact dps_take _ (dps_drop _ h)
theorem cut_whole {α : Type} {xs : List α} {lo hi : Option Int} (h : HT.sIx xs.length 0 lo = 0 ∧ HT.sIx xs.length xs.length hi = xs.length) : cutA xs lo hi = xs := by
  unfold cutA
  rw [h.1, h.2, List.drop_zero, Nat.sub_zero, List.take_length]
section
variable {X : Cx} {ρ : DE} {pos : Pos}
def tB (ρ : DE) (o : Option Int) : TO := fun σ H Q => ∃ M, MOk M H ∧ Holds ρ σ (res M H) ∧ ∀ H', Same H H' → Q o H'
theorem po_weak {e : Option Expr} {t u : TO} (h : PO X e t) (k : ∀ σ H Q, u σ H Q → t σ H Q) : PO X e u := ⟨fun pins s σ H Q I q => h.run pins s σ H Q I (k σ H Q q)⟩
theorem pb_none : PO X none (tB ρ none) := po_weak po_none fun σ H Q ⟨M, m, hh, q⟩ => q H (Same.refl H)
theorem pb_some {e : Expr} {i : Int} (h : PV X e ρ (It' X.K i)) : PO X (some e) (tB ρ (some i)) := po_weak (po_some h) fun σ H Q ⟨M, m, hh, q⟩ => ⟨M, m, hh, fun v H' s dv => by
  cases (show Dp X.K _ v (.int i) from dv)
  exact ⟨i, rfl, q H' s⟩⟩
theorem pv_sl {e : Expr} {lo hi : Option Expr} {p2 : Pos} {l u : Option Int} {ds : List PyData} (h : PV X e ρ (dat X.K (.tuple ds))) (hl : PO X lo (tB ρ l)) (hu : PO X hi (tB ρ u)) : PV X (.Subscript e (.Slice lo hi none p2) pos) ρ (dat X.K (.tuple (cutA ds l u))) :=
  pe_weak (pe_slice sl_tupA h hl hu) fun σ H Q ⟨M, m, hh, q⟩ => ⟨M, m, hh, fun v H1 s1 dv => ⟨M, m.mono s1, hh.mono (res_mono s1), fun H2 s2 => ⟨M, (m.mono s1).mono s2, (hh.mono (res_mono s1)).mono (res_mono s2), fun H3 s3 => by
    have s23 := s2.trans s3
    have m3 := (m.mono s1).mono s23
    cases (show Dp X.K _ v (.tuple ds) from dv) with
    | @tup a xs _ h1 h2 =>
      have h1' := same_t (res_mono s23) h1
      have h2' := dps_mono (res_mono s23) _ _ h2
      have hl := dps_len h2
      refine ⟨a, xs, rfl, same_t (res_le M H3) h1', fun hw => q _ H3 (s1.trans s23) ?_, fun hw p hp => q _ _ ((s1.trans s23).trans (same_upd hp)) (Dp.tup (.inl (.inl (res_upd_at (m3.new hp)))) (dps_cut (dps_mono (res_mono (same_upd hp)) _ _ h2')))⟩
      rw [hl] at hw
      rw [cut_whole hw]
      exact Dp.tup h1' h2'⟩⟩⟩
end
/-! ### pairs of whole numbers -/
theorem pair_eqv (a b : Int × Int) : PyData.eqv (eP a) (eP b) = decide (a = b) := by
  obtain ⟨a1, a2⟩ := a
  obtain ⟨b1, b2⟩ := b
  have e : PyData.eqv (eP (a1, a2)) (eP (b1, b2)) = ((a1 == b1) && ((a2 == b2) && true)) := by simp only [PyData.eqv, PyData.eqvAll]
  rw [e, Bool.and_true, Bool.eq_iff_iff, Bool.and_eq_true, beq_iff_eq, beq_iff_eq, decide_eq_true_eq, Prod.mk.injEq]
theorem pairs_lay : ∀ l : List (Int × Int), PyData.canLayAll0 (l.map eP) = true
  | [] => rfl
  | x :: l => by
    rw [List.map_cons]
    simp only [PyData.canLayAll0, PyData.canLay0, Bool.and_true, Bool.true_and, Bool.and_self]
    exact pairs_lay l
theorem pairs_depth : ∀ l : List (Int × Int), PyData.depthAll (l.map eP) ≤ 1
  | [] => Nat.zero_le _
  | x :: l => by
    rw [List.map_cons]
    have := pairs_depth l
    simp only [PyData.depthAll, PyData.depth]
    omega
theorem pair_shaped (a : Int × Int) : SeqAt.shaped (eP a) = true := by
  show (PyData.canLay0 (eP a) && decide (PyData.depth (eP a) ≤ 64)) = true
  simp only [PyData.canLay0, PyData.canLayAll0, PyData.depth, PyData.depthAll]
  rfl
theorem pairs_shaped (l : List (Int × Int)) : SeqAt.shaped (.list (l.map eP)) = true := by
  have h1 := pairs_depth l
  show (PyData.canLay0 (.list (l.map eP)) && decide (PyData.depth (.list (l.map eP)) ≤ 64)) = true
  rw [Bool.and_eq_true]
  refine ⟨by simp only [PyData.canLay0]; exact pairs_lay l, decide_eq_true ?_⟩
  simp only [PyData.depth]
  omega
section
variable {X : Cx} {ρ : DE}
theorem pv_idx {cl : List (Int × Int)} {y : Int × Int} {o e : Expr} {apos cpos : Pos} (hu : X.A.units + 65 < cLine) (ho : PV X o ρ (Ls X.K (cl.map eP))) (he : PV X e ρ (dat X.K (eP y))) (hy : y ∈ cl)
    (hbase : attributeBase o "index" X.env (eval o X.env) = eval o X.env := by rfl)
    (hfew : ((backTo cpos (starEach (e :: []) X.env)).all (fun x => !x.1) && (backToKw cpos (keywordEach [] X.env)).all (fun x => x.1.isSome)
      && decide ((e :: ([] : List Expr)).length + ([] : List Keyword).length + (if ([] : List Keyword).isEmpty then 0 else 1) < 30)) = true := by rfl)
    (hline : (apos.endLine == cpos.line) = true := by rfl) (hs : starEach (e :: []) X.env = (false, eval e X.env) :: starEach [] X.env := by rfl) (hplain : (backTo cpos (starEach [] X.env)).any (·.1) = false := by rfl) :
    PV X (.Call (.Attribute o "index" apos) [e] [] cpos) ρ (It' X.K (PL.ix cl y : Nat)) :=
  pe_weak (pe_bm PySem.F.plainAttrs_list PySem.F.slot_list_index PySem.F.type_list_index (mt_indexD hu) ho (pva_cons he pva_nil hs) hbase hfew hline hs hplain) fun σ H Q ⟨M, m, hh, q⟩ => ⟨M, m, hh, fun v H1 s1 dv => by
    have dv' := ls_dat _ _ _ dv
    obtain ⟨a, xs, rfl, e2, e3⟩ := dv
    refine ⟨.inl ⟨rfl, _, SqL.of (res_le _ _ _ _ e2)⟩, M, m.mono s1, hh.mono (res_mono s1), fun vs H2 s2 dvs => ?_⟩
    cases dvs with
    | cons d t =>
      cases t
      refine ⟨a, _, eP y, cl.map eP, PL.ix cl y, eP y, rfl, rfl, dp_le (dp_mono (res_mono s2) _ _ dv'), dp_le d, pairs_shaped cl, pair_shaped y, ?_, by rw [pair_eqv, decide_eq_true rfl], fun mm z' hm hz => ?_, q _ H2 (s1.trans s2) (.int _)⟩
      · have h1 := PL.ix_lt hy
        have h2 := PL.cat_ix hy
        rw [PL.cat_get h1] at h2
        rw [List.getElem?_map, List.getElem?_eq_getElem h1, h2]
        rfl
      · have hlt : mm < cl.length := by
          have := PL.ix_lt hy
          omega
        rw [List.getElem?_map, List.getElem?_eq_getElem hlt] at hz
        have hz' : eP cl[mm] = z' := Option.some.inj hz
        have h3 := PL.ix_first hm
        rw [PL.cat_get hlt] at h3
        rw [← hz', pair_eqv, decide_eq_false h3]⟩
/-! ### lists that are written -/
theorem get_list : PGet X (rIxL X.K) := by
  intro pins s σ H x y v u Q I rx ry h
  obtain ⟨p, xs, i, z, rfl, rfl, hq, he, q⟩ := h
  cases rx
  obtain ⟨t, rfl⟩ := ry
  obtain ⟨its, r, pl, hz⟩ := I.list hq
  obtain ⟨j, h1, h2, h3, h4, h5⟩ := atI_get he
  obtain ⟨w, ew, rw'⟩ := r.get h2
  have hl := r.length
  have hn := line63
  by_cases h0 : 0 ≤ i
  · have hj : i.toNat = j := by
      rw [seqIndex_of h0 h5] at h1
      exact Option.some.inj h1
    exact wpAny_getItem_list pl.isList h0 (by omega) (by rw [hj]; simpa using ew) ⟨z, H, I, rw', q⟩
  · have hj : (i + (its.toArray.size : Int)).toNat = j := by
      rw [seqIndex_neg (by omega) h4] at h1
      rw [List.size_toArray, ← hl]
      exact Option.some.inj h1
    exact wpAny_getItem_list_neg pl.isList (by omega) (by rw [List.size_toArray] <;> omega) (by omega) (by rw [hj]; simpa using ew) ⟨z, H, I, rw', q⟩
/-- found[i] += e -/
theorem t_augL {K : PySem.W.Frag} {j : Nat} {ds : List PyData} {o ie e : Expr} {pos tpos : Pos} {Rt : Rl} {c k n : Int} (ho : PE X o (tVar j)) (hi : PV X ie ρ (It' X.K c)) (he : PV X e ρ (It' X.K k)) (h0 : 0 ≤ c) (hd : ds[c.toNat]? = some (.int n)) (hK : K = X.K)
    (ha : ∀ ov iv new, augStore ie ov iv new = (do holding [new, ov, iv] (setItem ov iv new); release [new, ov, iv] []; pure .next) := by intros; rfl) :
    T1 X (.AugAssign (.Subscript o ie tpos) .Add e pos) (A K ρ (some (j, ds))) (A K ρ (some (j, ds.set c.toNat (.int (n + k))))) Rt := fun Γ =>
  ps_weak (ps_augS ho hi get_list he ip_add set_list ha) fun D σ H ⟨⟨h1, h2, h3, p, xs, h4, h5, h6, h7, h8, h9⟩, nx, r⟩ => by
    subst hK
    have mp : MOk (addM Γ.M p) H := fun a ha => by
      by_cases z : a = p
      · rw [z, h7]
        simp
      · rw [addM_ne z] at ha
        exact h2 a ha
    refine ⟨.ref p, h6, addM Γ.M p, mp, h8, fun v1 H1 s1 d1 => ?_⟩
    cases (show Dp X.K _ v1 (.int c) from d1)
    have g9 := dps_mono (res_mono (M := addM Γ.M p) s1) _ _ h9
    obtain ⟨x, hx, dx⟩ := dps_get g9 hd
    cases (show Dp X.K _ x (.int n) from dx)
    refine ⟨p, xs, c, .int n, rfl, rfl, SqL.of (s1 _ _ h7), atI_of h0 hx, addM Γ.M p, mp.mono s1, h8.mono (res_mono s1), fun v2 H2 s2 d2 => ?_⟩
    cases (show Dp X.K _ v2 (.int k) from d2)
    have s12 := s1.trans s2
    refine ⟨n, k, rfl, rfl, p, xs, c, c.toNat, rfl, rfl, s12 _ _ h7, ?_, nx _ _ ?_⟩
    · have hl := (List.getElem?_eq_some_iff.mp hx).1
      unfold ixN
      rw [if_pos h0, if_pos (by omega)]
    · have e1 : res (addM Γ.M p) (upd H2 p (.lst (xs.set c.toNat (.int (n + k))))) = res (addM Γ.M p) H2 := res_upd_mut (addM_self _ _)
      have hne : ∀ a o, Γ.G a = some o → a ≠ p := fun a o q z => by rw [z, h5] at q; cases q
      refine ⟨fun a o q => by rw [upd_ne (hne a o q)]; exact s12 _ _ (h1 a o q), fun a ha => ?_, ?_, p, _, h4, h5, h6, upd_same, by rw [e1]; exact h8.mono (res_mono s12), ?_⟩
      · have z : a ≠ p := fun z => by rw [z, h4] at ha; cases ha
        rw [upd_ne z]
        exact (h2.mono s12) a ha
      · refine Γ.eok H2 _ (fun a ha => ?_) (Γ.keep h2 s12 h3)
        have z : a ≠ p := fun z => by rw [z, h4] at ha; cases ha
        rw [upd_ne z]
      · rw [e1]
        exact dps_set c.toNat (dps_mono (res_mono s12) _ _ h9) (.int _)
/-- a list made then and there -/
def tFr (K : PySem.W.Frag) (ρ : DE) (ds : List PyData) : TE := fun σ H Q => ∃ M, MOk M H ∧ Holds ρ σ (res M H) ∧ ∀ H1 p xs, Same H H1 → H1 p = none → DpAll K (res M H1) xs ds → Q (.ref p) (upd H1 p (.lst xs))
theorem pe_rep0 {e : Expr} {n : Int} {kk : Nat} {p1 p2 pos : Pos} (h : PV X e ρ (It' X.K n)) (hn : 0 ≤ n ∧ n ≤ 1000) (hs : starEach (.Constant (.int 0) kk p1 :: []) X.env = (false, eval (.Constant (.int 0) kk p1) X.env) :: starEach [] X.env := by rfl) :
    PE X (.BinOp (.List [.Constant (.int 0) kk p1] p2) .Mult e pos) (tFr X.K ρ (List.replicate n.toNat (.int 0))) :=
  pe_weak (pe_op op_rep (pe_lst (pva_cons pv_int pva_nil hs)) h) fun σ H Q ⟨M, m, hh, q⟩ => ⟨M, m, hh, fun vs H1 s1 dvs => by
    cases dvs with
    | cons d t =>
      cases t
      rename_i v
      cases (show Dp X.K _ v (.int 0) from d)
      refine ⟨by decide, fun p hp => ⟨M, (m.mono s1).mono (same_upd hp), (hh.mono (res_mono s1)).mono (res_mono (same_upd hp)), fun w H2 s2 dw => ?_⟩⟩
      cases (show Dp X.K _ w (.int n) from dw)
      refine ⟨p, n, [.int 0], rfl, rfl, s2 _ _ upd_same, by omega, by omega, ?_, fun p' hp' => q H2 p' _ ((s1.trans (same_upd hp)).trans s2) hp' ?_⟩
      · show 1 * n.toNat ≤ sizeLine
        exact Nat.le_trans (m := 1000) (by omega) (by decide)
      · generalize n.toNat = k
        induction k with
        | zero => exact .nil
        | succ k ih => exact .cons (.int 0) ih⟩
theorem a_fresh {K : PySem.W.Frag} {j : Nat} {ds : List PyData} {Γ : Gm} {σ : L2.St} {H : Hp} {p : Addr} {xs : List V} (h : A K ρ none Γ σ H) (hj : j < ρ.length) (hp : H p = none) (hd : DpAll K (res Γ.M H) xs ds) : A K (ρ.set j none) (some (j, ds)) Γ (σ.set j (some (.ref p))) (upd H p (.lst xs)) := by
  obtain ⟨h1, h2, h3, h4⟩ := h
  have s := same_upd (o := .lst xs) hp
  have mp : Γ.M p = false := h2.new hp
  have e : res (addM Γ.M p) (upd H p (.lst xs)) = res Γ.M H := by
    rw [res_upd_mut (addM_self _ _)]
    funext a
    unfold res
    by_cases z : a = p
    · rw [z, addM_self, mp]
      simp [hp]
    · rw [addM_ne z]
  refine ⟨h1.trans s, h2.mono s, Γ.keep h2 s h3, p, xs, mp, ?_, by rw [List.getElem?_set_self (by rw [← h4.1]; exact hj)], upd_same, ?_, by rw [e]; exact hd⟩
  · cases q : Γ.G p with
    | none => rfl
    | some u => rw [h1 _ _ q] at hp; cases hp
  · rw [e]
    exact h4.forget
/-- x, y = (a, a new list) -/
theorem t_parR {K : PySem.W.Frag} {i j : Nat} {x y : Str} {a b : Expr} {px py pt pos : Pos} {kt k2 pt2} {d : Dc} {ds : List PyData} {Rt : Rl} (hK : K = X.K) (hc : X.calm = true) (hN : X.N.Nodup) (hi : X.N[i]? = some x) (hj : X.N[j]? = some y) (hij : i ≠ j)
    (hx : X.env.scope.names.lookup x = some .local) (hy : X.env.scope.names.lookup y = some .local) (ha : PV X a ρ d) (hb : PE X b (tFr X.K ρ ds)) (hlj : j < ρ.length)
    (hw : swappedStores [.Tuple [.Name x px, .Name y py] kt pt] (.Tuple [a, b] k2 pt2) X.env = pure (some [x, y]))
    (hs : swapsWithSole [.Tuple [.Name x px, .Name y py] kt pt] (.Tuple [a, b] k2 pt2) pos.line X.env = pure false := by rfl)
    (hs1 : starEach (a :: [b]) X.env = (false, eval a X.env) :: starEach [b] X.env := by rfl) (hs2 : starEach (b :: []) X.env = (false, eval b X.env) :: starEach [] X.env := by rfl) :
    T1 X (.Assign [.Tuple [.Name x px, .Name y py] kt pt] (.Tuple [a, b] k2 pt2) pos) (A K ρ none) (A K ((ρ.set i (some d)).set j none) (some (j, ds))) Rt := fun Γ =>
  ps_weak (ps_par hc hN hi hj hij hx hy (pa_cons ha (pa_cons hb pa_nil hs2) hs1) hw hs) fun D σ H ⟨p, n, r⟩ => by
    subst hK
    have p' := p
    obtain ⟨h1, h2, h3, h4⟩ := p'
    refine ⟨Γ.M, h2, h4, fun v H1 s1 dv => ⟨Γ.M, h2.mono s1, h4.mono (res_mono s1), fun H2 q xs s2 hq hd => ⟨v, .ref q, rfl, n _ _ ?_⟩⟩⟩
    have s12 := s1.trans s2
    refine a_fresh (ρ := ρ.set i (some d)) ⟨h1.trans s12, h2.mono s12, Γ.keep h2 s12 h3, (h4.mono (res_mono s12)).set (d.mono (res_mono s2) dv)⟩ (by rw [List.length_set]; exact hlj) hq hd
/-- x, y = (a new list, b) -/
theorem t_parL {K : PySem.W.Frag} {i j : Nat} {x y : Str} {a b : Expr} {px py pt pos : Pos} {kt k2 pt2} {nn : Int} {Rt : Rl} (hK : K = X.K) (hc : X.calm = true) (hN : X.N.Nodup) (hi : X.N[i]? = some x) (hj : X.N[j]? = some y) (hij : i ≠ j)
    (hx : X.env.scope.names.lookup x = some .local) (hy : X.env.scope.names.lookup y = some .local) {p1 : Pos} (hb : PV X b ρ (It' X.K nn)) (hli : i < ρ.length)
    (hw : swappedStores [.Tuple [.Name x px, .Name y py] kt pt] (.Tuple [.List [] p1, b] k2 pt2) X.env = pure (some [x, y]))
    (hs : swapsWithSole [.Tuple [.Name x px, .Name y py] kt pt] (.Tuple [.List [] p1, b] k2 pt2) pos.line X.env = pure false := by rfl)
    (hs1 : starEach (.List [] p1 :: [b]) X.env = (false, eval (.List [] p1) X.env) :: starEach [b] X.env := by rfl) (hs2 : starEach (b :: []) X.env = (false, eval b X.env) :: starEach [] X.env := by rfl) :
    T1 X (.Assign [.Tuple [.Name x px, .Name y py] kt pt] (.Tuple [.List [] p1, b] k2 pt2) pos) (A K ρ none) (A K ((ρ.set i none).set j (some (It' K nn))) (some (i, []))) Rt := fun Γ =>
  ps_weak (ps_par hc hN hi hj hij hx hy (pa_cons (pe_lst pa_nil) (pa_cons hb pa_nil hs2) hs1) hw hs) fun D σ H ⟨p, n, r⟩ => by
    subst hK
    obtain ⟨h1, h2, h3, h4⟩ := p
    refine ⟨Nat.zero_le _, fun q hq => ?_⟩
    have mq : Γ.M q = false := h2.new hq
    have sq := same_upd (o := .lst []) hq
    have fr := a_fresh (K := X.K) (ρ := ρ) (j := i) (ds := []) (xs := []) (Γ := Γ) (σ := σ) ⟨h1, h2, h3, h4⟩ hli hq .nil
    refine ⟨Γ.M, h2.mono sq, h4.mono (res_mono sq), fun v H2 s2 dv => ⟨.ref q, v, rfl, n _ _ ?_⟩⟩
    obtain ⟨M', m', hh', _, _, kk⟩ := fr.eval
    cases (show Dp X.K _ v (.int nn) from dv)
    refine kk _ _ _ s2 ((hh'.mono (res_mono s2)).set (.int nn)) fun k hk => ?_
    rw [List.mem_singleton.mp hk]
    exact List.getElem?_set_ne (Ne.symm hij)
end
end PX

namespace PX
open PySem PySem.Spec PyProof.Rows L2
/-- a class whose __init__ keeps a promise -/
structure MkI (P : Program) (w : World) (K : PySem.W.Frag) (mg : Str → Option Value) (base : Heap) (C : Addr) (k : Nat) (R : List Dc → List (Str × Dc) → Prop) : Prop where
  ex : ∃ f fd ps, Mk K C f ∧ FnOk P w K mg base CX0 k f fd ps (spI C R) ∧ Binds K fd ps []
theorem pv_mk {X : Cx} {ρ : DE} {x : Str} {C : Addr} {k : Nat} {R : List Dc → List (Str × Dc) → Prop} {e : Expr} {es : List Expr} {ds : List Dc} {fs : List (Str × Dc)} {p pos : Pos} (I : MkI X.prog X.w X.K X.mg X.base C k R) (hr : Room (k + 1) X.A) (hg : Gl X x) (hm : X.mg x = some (.ref C))
    (ha : PVA X (e :: es) ρ ds) (h : R ds fs) (hdb : (x == ("__debug__" : Str)) = false := by decide) (he : starEach (e :: es) X.env = (false, eval e X.env) :: starEach es X.env := by rfl) (hpl : (backTo pos (starEach es X.env)).any (·.1) = false := by rfl) :
    PV X (.Call (.Name x p) (e :: es) [] pos) ρ (Ob C fs) := by
  obtain ⟨f, fd, ps, M, F, b⟩ := I.ex
  exact pv_make M F hr hg hm b ha h hdb he hpl
theorem cov_ok {cs : List Int} {rs : List (Int × Int)} (V : PL.Val cs rs) : CvOk (PL.cov cs rs) := by
  have h := PL.N_bd V
  refine ⟨by rw [PL.cov_len]; exact h, fun b hb => ?_⟩
  rw [PL.cov_len] at hb
  refine ⟨PL.cov_asc V hb, fun x hx => PL.cov_lt V hb hx, ?_⟩
  have := PL.cov_small (cs := cs) (rs := rs) (b := b)
  omega
abbrev covF (cs : List Int) (rs : List (Int × Int)) (x : Int × Int) : List Int := PL.sortI ((PL.need cs rs x).map fun y => (PL.ix (PL.cells cs) y : Int))
theorem cells_len {cs : List Int} {rs : List (Int × Int)} (V : PL.Val cs rs) : 1 ≤ (PL.cells cs).length ∧ (PL.cells cs).length ≤ 10 := PL.N_bd V
section
variable {P : Program} {w : World} {K : PySem.W.Frag} {mg : Str → Option Value} {base : Heap} {cG cT f : Addr} {fd : FuncData}
/-! ### made_ground, ground_of -/
abbrev sMadeGround : Stmt := top 37
theorem scMadeGround : FnScope ["table", "cells", "covers", "column", "depth", "cell"] ["table"] (defScope sMadeGround) := ⟨rfl, rfl, rfl, by decide +kernel, rfl, by decide +kernel, by decide +kernel⟩
def RmadeGround (K : PySem.W.Frag) (cG cT : Addr) : List Dc → Dc → Prop := fun ds d => ∃ cs rs, PL.Val cs rs ∧ ds = [Tb K cT cs rs] ∧ d = Gr K cG (PL.cov cs rs)
theorem dn_made_ground (F : FnP K "made_ground" "made_ground" sMadeGround f fd) (hm : mg "made_ground" = some (.ref f)) (T : Fx K mg cG cT) (MG : MkI P w K mg base cG 3 (RGinit K)) (d_cells_of : Dn P w K mg base "cells_of" 1 (RcellsOf K cT)) (d_needed_cells : Dn P w K mg base "needed_cells" 2 (RneededCells K cT)) : Dn P w K mg base "made_ground" 5 (RmadeGround K cG cT) := by
  refine dn_of F hm scMadeGround (fun ds d ⟨_, _, _, h, _⟩ => by rw [h]; rfl) (fun _ _ _ _ _ _ us hl => match us, hl with | [_], _ => rfl) ?_
  rintro cdv A' outer s H E hr ds d ⟨cs, rs, V, rfl, rfl⟩
  have cl := cells_len V
  refine tr_cons (t_set (i := 1) scMadeGround.nd rfl (Or.inr rfl) (pv_dn d_cells_of (hr.mono (by decide)) (by rfl) (pva_cons (pv_var (pv 0) rfl) pva_nil) (⟨cs, rs, V, rfl, rfl⟩)) (by simp [slotOf])) ?_
  refine tr_cons (t_new (i := 2) scMadeGround.nd rfl (Or.inl rfl) (by show 2 < 6; decide) (hρ := rfl)) ?_
  refine tr_cons (t_for (js := [3, 4]) (fun i => [some (Tb K cT cs rs), some (Ls K ((PL.cells cs).map eP)), none, none, none, none]) (fun i => [some (Tb K cT cs rs), some (Ls K ((PL.cells cs).map eP)), none, some (It' K (PL.cat (PL.cells cs) i).1), some (It' K (PL.cat (PL.cells cs) i).2), none]) (fun i => some (2, ((PL.cells cs).take i).map fun x => eI (covF cs rs x))) PassesOwn.never rfl
    (it_conv (el' := fun x : Int × Int => Tp K (It' K x.1) (It' K x.2)) (it_listE (pv_var (pv 1) rfl)) fun o => tp_dat _ _) (pg_tup rfl (pgs_cons (pg_name (i := 3) scMadeGround.nd rfl (Or.inl rfl)) (pgs_cons (pg_name (i := 4) scMadeGround.nd rfl (Or.inl rfl)) pgs_nil))) (fun i d hd => ?_) (fun i j hj => ?_) (fun i hi => ?_) (fun _ _ _ h => h) (rd_up _)) ?_
  · obtain ⟨hi, rfl⟩ := els_map hd
    rw [← PL.cat_get hi]
    exact tg_tup 3 4
  · simp at hj
    rcases hj with rfl | rfl <;> simp [slotOf]
  · have hi' : i < (PL.cells cs).length := by simpa using hi
    have hmem := PL.cat_mem hi'
    generalize hx : PL.cat (PL.cells cs) i = x at hmem
    have h01 : 0 ≤ x.1 ∧ x.1 < (cs.length : Int) := by
      obtain ⟨c, k, h1, h2, h3⟩ := (PL.mem_cells V).mp hmem
      rw [h3]
      exact ⟨by simp, by simp; omega⟩
    have nl : (PL.need cs rs x).length ≤ 3 := PL.need_len
    have e1 : ((PL.need cs rs x).filter fun _ => true).map (fun y => PyData.int (PL.ix (PL.cells cs) y : Nat)) = ((PL.need cs rs x).map fun y => (PL.ix (PL.cells cs) y : Int)).map PyData.int := by rw [filt_true, List.map_map]; rfl
    refine tr_cons (t_append (dd := eI (covF cs rs x)) (pe_bm PySem.F.plainAttrs_list PySem.F.slot_list_append PySem.F.type_list_append mt_append (pv 2) (pva_cons (pv_callTy call_tuple_of (by rfl) T.ntuple (by decide +kernel) (pva_cons (pv_callB cr_sorted (by rfl) T.nsorted (by decide +kernel) (pva_cons (pv_is (pv_lc [("cell", 5)] (PL.need cs rs x) (fun y => dat K (eP y)) (fun y => [some (Tb K cT cs rs), some (Ls K ((PL.cells cs).map eP)), none, some (It' K x.1), some (It' K x.2), some (dat K (eP y))])
      (fun _ => true) (fun y => .int (PL.ix (PL.cells cs) y : Nat)) rfl scMadeGround.nd (it_listE (pv_dn d_needed_cells (hr.mono (by decide)) (by rfl) (pva_cons (pv_var (pv 0) rfl) (pva_cons (pv_var (pv 3) rfl) (pva_cons (pv_var (pv 4) rfl) pva_nil))) (⟨cs, rs, x, V, h01, rfl, rfl⟩))) (blkOk_by (N := ["table", "cells", "covers", "column", "depth", "cell"]) (sc := defScope sMadeGround) (by decide +kernel)) (by intro j hj d; simp at hj; subst hj; simp) (by omega)
      (fun _ _ _ _ _ => pg_name (i := 5) scMadeGround.nd rfl (Or.inl rfl)) (fun c _ => tg_name 5) (fun c _ _ _ _ _ _ => pvts_nil) (fun y hy _ _ _ _ _ _ => pv_idx (by have := hr.un; show A'.units + 3 + 65 < cLine; have h9 : (A'.deeper (envOfC "made_ground" (defScope sMadeGround) s.heap.objs.size f cdv)).units = A'.units + 3 := rfl; omega) (pv_var (pv 1) rfl) (pv_var (pv 5) rfl) (PL.need_cell V hmem hy).1)) (congrArg (Ls K) e1)) pva_nil) (rc_sorted (by rw [List.length_map]; omega) fun ys h1 h2 => PL.sortI_eq h2 h1)) pva_nil) rc_tuple) pva_nil)) (by rw [List.length_map, List.length_take]; omega)) ?_
    refine tr_post tr_nil fun Γ σ H p => ?_
    have e2 : ((PL.cells cs).take (i + 1)).map (fun x => eI (covF cs rs x)) = ((PL.cells cs).take i).map (fun x => eI (covF cs rs x)) ++ [eI (covF cs rs x)] := by
      rw [List.take_add_one, List.getElem?_eq_getElem hi', ← PL.cat_get hi', hx, List.map_append]
      rfl
    rw [e2]
    exact (p.drop (i := 3)).drop (i := 4)
  · refine tr_freeze (tr_cons (t_ret ?_ (rd_ok _)) tr_nil)
    refine pv_mk MG hr (by rfl) T.gGround (pva_cons (pv_callTy call_tuple_of (by rfl) T.ntuple (by decide +kernel) (pva_cons (pv_var (pv 2) rfl) pva_nil) rc_tuple) pva_nil) ⟨PL.cov cs rs, cov_ok V, ?_, rfl⟩
    have e3 : (((PL.cells cs).take ((PL.cells cs).map fun x : Int × Int => Tp K (It' K x.1) (It' K x.2)).length).map fun x => eI (covF cs rs x)) = (PL.cov cs rs).map eI := by
      rw [List.length_map, List.take_length]
      unfold PL.cov
      rw [List.map_map]
      rfl
    exact congrArg (fun z => [dat K (.tuple z)]) e3
abbrev sGroundOf : Stmt := top 38
theorem scGroundOf : FnScope ["table"] ["table"] (defScope sGroundOf) := ⟨rfl, rfl, rfl, by decide +kernel, rfl, by decide +kernel, by decide +kernel⟩
theorem dn_ground_of (F : FnP K "ground_of" "ground_of" sGroundOf f fd) (hm : mg "ground_of" = some (.ref f)) (T : Fx K mg cG cT) (d_need_table : Dn P w K mg base "need_table" 1 (RneedTable K cT)) (d_made_ground : Dn P w K mg base "made_ground" 5 (RmadeGround K cG cT)) : Dn P w K mg base "ground_of" 6 (RmadeGround K cG cT) := by
  refine dn_of F hm scGroundOf (fun ds d ⟨_, _, _, h, _⟩ => by rw [h]; rfl) (fun _ _ _ _ _ _ us hl => match us, hl with | [_], _ => rfl) ?_
  rintro cdv A' outer s H E hr ds d ⟨cs, rs, V, rfl, rfl⟩
  exact tr_cons (t_expr (pv_dn d_need_table (hr.mono (by decide)) (by rfl) (pva_cons (pv_var (pv 0) rfl) pva_nil) (⟨cs, rs, rfl, rfl⟩))) (tr_cons (t_ret (pv_dn d_made_ground (hr.mono (by decide)) (by rfl) (pva_cons (pv_var (pv 0) rfl) pva_nil) (⟨cs, rs, V, rfl, rfl⟩)) (rd_ok _)) tr_nil)
/-! ### as_profile -/
abbrev sAsProfile : Stmt := top 39
theorem scAsProfile : FnScope ["table", "pit", "cells", "found", "block"] ["table", "pit"] (defScope sAsProfile) := ⟨rfl, rfl, rfl, by decide +kernel, rfl, by decide +kernel, by decide +kernel⟩
def RasProfile (K : PySem.W.Frag) (cT : Addr) : List Dc → Dc → Prop := fun ds d => ∃ cs rs L, PL.Val cs rs ∧ PitOk (PL.cov cs rs) L ∧ ds = [Tb K cT cs rs, dat K (eI L)] ∧ d = dat K (eI (PL.pr (PL.cells cs) cs.length L))
theorem dn_as_profile (F : FnP K "as_profile" "as_profile" sAsProfile f fd) (hm : mg "as_profile" = some (.ref f)) (T : Fx K mg cG cT) (d_need_table : Dn P w K mg base "need_table" 1 (RneedTable K cT)) (d_made_ground : Dn P w K mg base "made_ground" 5 (RmadeGround K cG cT)) (d_need_pit : Dn P w K mg base "need_pit" 6 (RneedPit K cG)) (d_cells_of : Dn P w K mg base "cells_of" 1 (RcellsOf K cT)) : Dn P w K mg base "as_profile" 7 (RasProfile K cT) := by
  refine dn_of F hm scAsProfile (fun ds d ⟨_, _, _, _, _, h, _⟩ => by rw [h]; rfl) (fun _ _ _ _ _ _ us hl => match us, hl with | [_, _], _ => rfl) ?_
  rintro cdv A' outer s H E hr ds d ⟨cs, rs, L, V, pk, rfl, rfl⟩
  have v2 := V.few
  have hLb := pk.1.2.2.1
  rw [PL.cov_len] at hLb
  refine tr_cons (t_expr (pv_dn d_need_table (hr.mono (by decide)) (by rfl) (pva_cons (pv_var (pv 0) rfl) pva_nil) (⟨cs, rs, rfl, rfl⟩))) ?_
  refine tr_cons (t_expr (pv_dn d_need_pit (hr.mono (by decide)) (by rfl) (pva_cons (pv_dn d_made_ground (hr.mono (by decide)) (by rfl) (pva_cons (pv_var (pv 0) rfl) pva_nil) (⟨cs, rs, V, rfl, rfl⟩)) (pva_cons (pv_var (pv 1) rfl) pva_nil)) (⟨PL.cov cs rs, L, pk, rfl, rfl⟩))) ?_
  refine tr_cons (t1_post (t_parR (i := 2) (j := 3) rfl rfl scAsProfile.nd rfl rfl (by decide) rfl rfl (pv_dn d_cells_of (hr.mono (by decide)) (by rfl) (pva_cons (pv_var (pv 0) rfl) pva_nil) (⟨cs, rs, V, rfl, rfl⟩)) (pe_rep0 (pv_callB call_len_seq (by rfl) T.nlen (by decide +kernel) (pva_cons (pv_fld (pv_var (pv 0) rfl) (.head _) T.clT T.naSizes rfl) pva_nil) rc_lenT) (by rw [List.length_map]; omega)) (by show 3 < 5; decide) rfl)
    (Nx' := A K [some (Tb K cT cs rs), some (dat K (eI L)), some (Ls K ((PL.cells cs).map eP)), none, none] (some (3, (PL.pr (PL.cells cs) cs.length (L.take 0)).map PyData.int))) fun Γ σ H p => ?_) ?_
  · have e : List.replicate (((cs.map PyData.int).length : Nat) : Int).toNat (PyData.int 0) = (PL.pr (PL.cells cs) cs.length (L.take 0)).map PyData.int := by
      rw [List.take_zero, PL.pr_nil, List.map_map, List.length_map, Int.toNat_natCast]
      exact (List.map_const' (l := List.range cs.length) (b := PyData.int 0)).symm ▸ by simp
    rw [e] at p
    exact p
  refine tr_cons (t_for (js := [4]) (fun i => [some (Tb K cT cs rs), some (dat K (eI L)), some (Ls K ((PL.cells cs).map eP)), none, none]) (fun i => [some (Tb K cT cs rs), some (dat K (eI L)), some (Ls K ((PL.cells cs).map eP)), none, some (It' K (PL.g L i))]) (fun i => some (3, (PL.pr (PL.cells cs) cs.length (L.take i)).map PyData.int)) PassesOwn.never rfl
    (it_tupE (pv_var (pv 1) rfl)) (pg_name (i := 4) scAsProfile.nd rfl (Or.inl rfl)) (fun i d hd => ?_) (fun i j hj => ?_) (fun i hi => ?_) (fun _ _ _ h => h) (rd_up _)) ?_
  · obtain ⟨hi, rfl⟩ := els_map hd
    rw [g_get hi]
    exact tg_name 4
  · simp at hj
    subst hj
    simp [slotOf]
  · have hi' : i < L.length := by simpa using hi
    have hb := hLb (PL.g L i) (by rw [← g_get hi']; exact List.getElem_mem hi')
    generalize hx : PL.g L i = b at hb
    have hbl : b.toNat < (PL.cells cs).length := by
      have : (PL.N cs : Int) = (PL.cells cs).length := rfl
      omega
    have hmem := PL.cat_mem hbl
    obtain ⟨c, k, h1, h2, h3⟩ := (PL.mem_cells V).mp hmem
    have hcol : PL.colOf (PL.cells cs) b = (c : Int) := by
      unfold PL.colOf
      rw [h3]
    have hget : ((PL.cells cs).map eP)[b.toNat]? = some (eP (PL.cat (PL.cells cs) b.toNat)) := by
      rw [List.getElem?_map, List.getElem?_eq_getElem hbl, PL.cat_get hbl]
      rfl
    refine tr_cons (t_augL (k := 1) (c := (c : Int)) (n := PL.g (PL.pr (PL.cells cs) cs.length (L.take i)) c) (pv 3) (pv_is (pv_ix ix_tup (pv_ix ix_list (pv_var (pv 2) rfl) (pv_var (pv 4) rfl) (rd_ixL (hb.1) (hget)) (fun _ _ => rfl)) pv_int (rd_ixT (by decide) (rfl)) (fun _ _ => rfl)) (by rw [h3])) pv_int (by omega) (by rw [Int.toNat_natCast]; exact gI (xs := PL.pr (PL.cells cs) cs.length (L.take i)) (i := (c : Int)) (by omega) (by rw [PL.pr_len]; omega)) rfl) ?_
    refine tr_post tr_nil fun Γ σ H p => ?_
    have e2 : (PL.pr (PL.cells cs) cs.length (L.take (i + 1))).map PyData.int = ((PL.pr (PL.cells cs) cs.length (L.take i)).map PyData.int).set (c : Int).toNat (.int (PL.g (PL.pr (PL.cells cs) cs.length (L.take i)) c + 1)) := by
      rw [List.take_add_one, List.getElem?_eq_getElem hi', g_get hi', hx]
      show (PL.pr (PL.cells cs) cs.length (L.take i ++ [b])).map PyData.int = _
      rw [PL.pr_snoc h1 hcol, List.map_set, Int.toNat_natCast]
    rw [e2]
    exact p.drop (i := 4)
  · refine tr_freeze (tr_cons (t_ret (pv_is (pv_callTy call_tuple_of (by rfl) T.ntuple (by decide +kernel) (pva_cons (pv_var (pv 3) rfl) pva_nil) rc_tuple) ?_) (rd_ok _)) tr_nil)
    rw [List.length_map, List.take_length]
    rfl
end
end PX

namespace PX
open PySem PySem.Spec PyProof.Rows L2
theorem cut_last {α : Type} {more : List α} {n : Nat} (h : more.length = n + 1) : cutA more (some (-2)) none = (more.drop (n - 1)).take (n + 1 - (n - 1)) := by
  unfold cutA
  rw [h]
  have e1 : HT.sIx (n + 1) 0 (some (-2)) = n - 1 := by
    show (if (-2 : Int) < 0 then ((-2 : Int) + ((n + 1 : Nat) : Int)).toNat else min (-2 : Int).toNat (n + 1)) = n - 1
    rw [if_pos (by decide)]
    omega
  have e2 : HT.sIx (n + 1) (n + 1) none = n + 1 := rfl
  rw [e1, e2]
theorem cut_rule {α : Type} {rs : List α} {n : Nat} (h : n ≤ rs.length) : cutA rs (some ((n : Int) - 1)) (some (n : Int)) = if n = 0 then [] else (rs.drop (n - 1)).take 1 := by
  unfold cutA
  by_cases z : n = 0
  · subst z
    rw [if_pos rfl]
    have e2 : HT.sIx rs.length rs.length (some ((0 : Nat) : Int)) = 0 := by
      rw [HT.sIx_nat]
      omega
    rw [e2, Nat.zero_sub, List.take_zero]
  · rw [if_neg z]
    have e1 : HT.sIx rs.length 0 (some ((n : Int) - 1)) = n - 1 := by
      rw [show (n : Int) - 1 = ((n - 1 : Nat) : Int) by omega, HT.sIx_nat]
      omega
    have e2 : HT.sIx rs.length rs.length (some (n : Int)) = n := by
      rw [HT.sIx_nat]
      omega
    rw [e1, e2, show n - (n - 1) = 1 by omega]
theorem cut_lets {rs : List (Int × Int)} {more : List Int} {n : Nat} (h : more.length = n + 1) (hr : n ≤ rs.length) : (cutA rs (some ((n : Int) - 1)) (some (n : Int))).length + 1 ≤ (cutA more (some (-2)) none).length ∧ PL.lets (cutA more (some (-2)) none) (cutA rs (some ((n : Int) - 1)) (some (n : Int))) = PL.letsAt rs n more := by
  rw [cut_last h, cut_rule hr]
  by_cases z : n = 0
  · subst z
    rw [if_pos rfl]
    refine ⟨by simp [h], ?_⟩
    unfold PL.letsAt
    rw [if_pos rfl]
    rfl
  · rw [if_neg z, show n + 1 - (n - 1) = 2 by omega, PL.lets_two h (by omega) hr]
    refine ⟨?_, rfl⟩
    rw [List.length_take, List.length_take, List.length_drop, List.length_drop]
    omega
abbrev growF (cs : List Int) (n : Nat) (row : List Int) : List (List Int) := (PL.upto (PL.g cs n)).map fun d => row ++ [d]
abbrev stepF (cs : List Int) (rs : List (Int × Int)) (n : Nat) (row : List Int) : List (List Int) := (growF cs n row).filter (PL.letsAt rs n)
theorem prof_small {cs : List Int} {rs : List (Int × Int)} (V : PL.Val cs rs) {n : Nat} (hn : n < cs.length) : (PL.profsN cs rs n).length ≤ 14641 ∧ (PL.depthsN cs n).length ≤ 14641 := by
  have h1 := PL.depths_le (fun i hi => (V.sz i hi).2) n (by omega)
  have v2 := V.few
  have h2 : 11 ^ n ≤ 11 ^ 4 := Nat.pow_le_pow_right (by decide) (by omega)
  have h3 : (11 : Nat) ^ 4 = 14641 := by decide
  rw [PL.profsN_eq]
  have := List.length_filter_le (fun p => PL.letsK p rs (n - 1)) (PL.depthsN cs n)
  omega
section
variable {P : Program} {w : World} {K : PySem.W.Frag} {mg : Str → Option Value} {base : Heap} {cG cT f : Addr} {fd : FuncData}
abbrev sProfilesOf : Stmt := top 40
abbrev nmPO : List Str := ["table", "found", "column", "size", "longer", "row", "some", "depth", "more"]
theorem scProfilesOf : FnScope nmPO ["table"] (defScope sProfilesOf) := ⟨rfl, rfl, rfl, by decide +kernel, rfl, by decide +kernel, by decide +kernel⟩
def RprofilesOf (K : PySem.W.Frag) (cT : Addr) : List Dc → Dc → Prop := fun ds d => ∃ cs rs, PL.Val cs rs ∧ ds = [Tb K cT cs rs] ∧ d = Ls K ((PL.profs cs rs).map eI)
theorem dn_profiles_of (F : FnP K "profiles_of" "profiles_of" sProfilesOf f fd) (hm : mg "profiles_of" = some (.ref f)) (T : Fx K mg cG cT) (d_first_steep : Dn P w K mg base "first_steep" 1 (RfirstSteep K)) : Dn P w K mg base "profiles_of" 2 (RprofilesOf K cT) := by
  refine dn_of F hm scProfilesOf (fun ds d ⟨_, _, _, h, _⟩ => by rw [h]; rfl) (fun _ _ _ _ _ _ us hl => match us, hl with | [_], _ => rfl) ?_
  rintro cdv A' outer s H E hr ds d ⟨cs, rs, V, rfl, rfl⟩
  have v2 := V.few
  have v3 := V.hr
  have elsl : ∀ K', ((List.range cs.length).map fun c => Tp K' (It' K' (c : Nat)) (It' K' (PL.g cs c))).length = cs.length := fun _ => by simp
  refine tr_cons (t_set (i := 1) (d := Ls K ((PL.profsN cs rs 0).map eI)) scProfilesOf.nd rfl (Or.inl rfl) (pv_lst (ds := [.tuple []]) (pva_cons (pv_tup (ds := []) pva_nil) pva_nil)) (by simp [slotOf])) ?_
  refine tr_cons (t_for (js := [2, 3]) (fun i => [some (Tb K cT cs rs), some (Ls K ((PL.profsN cs rs i).map eI)), none, none, none, none, none, none, none]) (fun i => [some (Tb K cT cs rs), some (Ls K ((PL.profsN cs rs i).map eI)), some (It' K (i : Nat)), some (It' K (PL.g cs i)), none, none, none, none, none]) (fun _ => none) PassesOwn.never rfl
    (it_eq (it_enum (by rfl) T.nenumerate (pv_fld (pv_var (pv 0) rfl) (.head _) T.clT T.naSizes rfl)) enum_ints) (pg_tup rfl (pgs_cons (pg_name (i := 2) scProfilesOf.nd rfl (Or.inr rfl)) (pgs_cons (pg_name (i := 3) scProfilesOf.nd rfl (Or.inl rfl)) pgs_nil))) (fun i d hd => ?_) (fun _ _ _ h => nomatch h) (fun i hi => ?_) (fun _ _ _ h => h) (rd_up _)) ?_
  · obtain ⟨hi, rfl⟩ := els_map hd
    simp only [List.getElem_range]
    exact tg_tup 2 3
  · have hi' : i < cs.length := by simpa using hi
    have sz := V.sz i hi'
    have ps := (prof_small V hi').1
    refine tr_cons (t_new (i := 4) scProfilesOf.nd rfl (Or.inl rfl) (by show 4 < 9; decide) (hρ := rfl)) ?_
    refine tr_cons (t_for (js := [5]) (fun j => [some (Tb K cT cs rs), some (Ls K ((PL.profsN cs rs i).map eI)), some (It' K (i : Nat)), some (It' K (PL.g cs i)), none, none, none, none, none]) (fun j => [some (Tb K cT cs rs), some (Ls K ((PL.profsN cs rs i).map eI)), some (It' K (i : Nat)), some (It' K (PL.g cs i)), none, some (dat K (eI ((PL.profsN cs rs i).getD j []))), none, none, none]) (fun j => some (4, (((PL.profsN cs rs i).take j).flatMap (stepF cs rs i)).map eI)) PassesOwn.never rfl
      (it_listE (pv_var (pv 1) rfl)) (pg_name (i := 5) scProfilesOf.nd rfl (Or.inr rfl)) (fun j d hd => ?_) (fun j k hk => ?_) (fun j hj => ?_) (fun _ _ _ h => h) (rd_up _)) ?_
    · obtain ⟨hj, rfl⟩ := els_map hd
      rw [List.getD_eq_getElem?_getD, List.getElem?_eq_getElem hj]
      exact tg_name 5
    · simp at hk
      subst hk
      simp [slotOf]
    · have hj' : j < (PL.profsN cs rs i).length := by simpa using hj
      have erow : (PL.profsN cs rs i)[j] = (PL.profsN cs rs i).getD j [] := by rw [List.getD_eq_getElem?_getD, List.getElem?_eq_getElem hj']; rfl
      have hrow : ((PL.profsN cs rs i).getD j []).length = i := by
        rw [← erow]
        exact PL.prof_len (List.getElem_mem hj')
      generalize (PL.profsN cs rs i).getD j [] = row at erow hrow
      have hgl : (growF cs i row).length ≤ 11 := by
        rw [List.length_map, PL.upto_len]
        omega
      have e1 : ((List.range (PL.g cs i + 1).toNat).filter fun _ => true).map (fun k => eI (row ++ [(0 + (k : Nat) : Int)])) = (growF cs i row).map eI := by
        rw [filt_true]
        unfold growF PL.upto
        rw [List.map_map, List.map_map]
        refine List.map_congr_left fun k _ => ?_
        rw [Int.zero_add]
        rfl
      refine tr_cons (t1_post (t_setLc (i := 6) [("depth", 7)] (List.range (PL.g cs i + 1).toNat) (fun k => It' K (0 + (k : Int))) (fun k => [some (Tb K cT cs rs), some (Ls K ((PL.profsN cs rs i).map eI)), some (It' K (i : Nat)), some (It' K (PL.g cs i)), none, some (dat K (eI row)), none, some (It' K (0 + (k : Int))), none]) (fun _ => true) (fun k => eI (row ++ [(0 + (k : Nat) : Int)])) rfl scProfilesOf.nd rfl rfl (sw_true rfl rfl rfl (by decide +kernel))
        (it_range1 (by rfl) T.nrange (pv_op op_add (pv_var (pv 3) rfl) pv_int (rd_I0 fun _ => .int _))) (blkOk_by (N := nmPO) (sc := defScope sProfilesOf) (by decide +kernel)) (by intro j hj d; simp at hj; subst hj; simp) (by simp; omega) (fun _ _ _ _ _ => pg_name (i := 7) scProfilesOf.nd rfl (Or.inl rfl)) (fun c _ => tg_name 7) (fun c _ _ _ _ _ _ => pvts_nil)
        (fun k _ _ _ _ _ _ _ => pv_is (pv_tupS (pv_var (pv 5) rfl) (pv_var (pv 7) rfl) (by rw [List.length_map]; omega)) (by show dat K (.tuple (row.map PyData.int ++ [PyData.int _])) = dat K (.tuple ((row ++ [_]).map PyData.int)); rw [List.map_append]; rfl)) (by simp [slotOf]))
        (Nx' := A K [some (Tb K cT cs rs), some (Ls K ((PL.profsN cs rs i).map eI)), some (It' K (i : Nat)), some (It' K (PL.g cs i)), none, some (dat K (eI row)), some (Ls K ((growF cs i row).map eI)), none, none] (some (4, (((PL.profsN cs rs i).take j).flatMap (stepF cs rs i)).map eI))) fun Γ σ H p => by
          have p' : A K [some (Tb K cT cs rs), some (Ls K ((PL.profsN cs rs i).map eI)), some (It' K (i : Nat)), some (It' K (PL.g cs i)), none, some (dat K (eI row)), some (Ls K (((List.range (PL.g cs i + 1).toNat).filter fun _ => true).map (fun k => eI (row ++ [(0 + (k : Nat) : Int)])))), none, none] (some (4, (((PL.profsN cs rs i).take j).flatMap (stepF cs rs i)).map eI)) Γ σ H := p
          rw [e1] at p'
          exact p') ?_
      refine tr_cons (t_extend (es := (stepF cs rs i row).map eI) (pe_bm PySem.F.plainAttrs_list PySem.F.slot_list_extend PySem.F.type_list_extend mt_extend (pv 4) (pva_cons (pv_lc [("more", 8)] (growF cs i row) (fun m => dat K (eI m)) (fun m => [some (Tb K cT cs rs), some (Ls K ((PL.profsN cs rs i).map eI)), some (It' K (i : Nat)), some (It' K (PL.g cs i)), none, some (dat K (eI row)), some (Ls K ((growF cs i row).map eI)), none, some (dat K (eI m))])
        (PL.letsAt rs i) eI rfl scProfilesOf.nd (it_listE (pv_var (pv 6) rfl)) (blkOk_by (N := nmPO) (sc := defScope sProfilesOf) (by decide +kernel)) (by intro j hj d; simp at hj; subst hj; simp) (by omega)
        (fun _ _ _ _ _ => pg_name (i := 8) scProfilesOf.nd rfl (Or.inl rfl)) (fun c _ => tg_name 8) (fun m hm' _ _ _ _ _ => pvts_one ?_) (fun m _ _ _ _ _ _ _ => (pv_var (pv 8) rfl))) pva_nil)) ?_) ?_
      · have hml : m.length = i + 1 := by
          obtain ⟨d, _, rfl⟩ := List.mem_map.mp hm'
          simp [hrow]
        obtain ⟨k1, k2⟩ := cut_lets hml (rs := rs) (by omega)
        rw [← k2]
        exact pvt_cmp op_isN (pv_dn d_first_steep (hr.mono (by decide)) (by rfl) (pva_cons (pv_sl (pv_var (pv 8) rfl) (pb_some (pv_un un_neg pv_int ru_neg)) pb_none) (pva_cons (pv_sl (pv_fld (pv_var (pv 0) rfl) (.tail _ (.head _)) T.clT T.naAngles rfl) (pb_some (pv_op op_sub (pv_var (pv 2) rfl) pv_int (rd_I0 fun _ => .int _))) (pb_some (pv_var (pv 2) rfl))) pva_nil)) ⟨_, _, k1, by rw [cutA_map, cutA_map]; rfl, rfl⟩) pv_non (rd_isN fs_none) (nomark _)
      · rw [List.length_map, List.length_map]
        have h1 : (((PL.profsN cs rs i).take j).flatMap (stepF cs rs i)).length ≤ ((PL.profsN cs rs i).take j).length * 11 := PL.flat_le fun x _ => by
          refine Nat.le_trans (List.length_filter_le _ _) ?_
          rw [List.length_map, PL.upto_len]
          omega
        have h2 : ((PL.profsN cs rs i).take j).length ≤ 14641 := by
          rw [List.length_take]
          omega
        have h3 := List.length_filter_le (PL.letsAt rs i) (growF cs i row)
        have h4 := Nat.mul_le_mul_right 11 h2
        exact Nat.le_trans (Nat.add_le_add (Nat.le_trans h1 h4) (Nat.le_trans h3 hgl)) (by decide)
      · refine tr_post tr_nil fun Γ σ H p => ?_
        have e2 : (((PL.profsN cs rs i).take (j + 1)).flatMap (stepF cs rs i)).map eI = (((PL.profsN cs rs i).take j).flatMap (stepF cs rs i)).map eI ++ (stepF cs rs i row).map eI := by
          rw [flat_take hj', List.map_append, erow]
        rw [e2]
        exact (p.drop (i := 5)).drop (i := 6)
    · refine tr_freeze (tr_cons (t_set (i := 1) (d := Ls K ((PL.profsN cs rs (i + 1)).map eI)) scProfilesOf.nd rfl (Or.inl rfl) (pv_is (pv_var (pv 4) rfl) ?_) (by simp [slotOf])) ?_)
      · rw [List.length_map, List.take_length]
        rfl
      · exact tr_post tr_nil fun Γ σ H p => ((p.drop (i := 2)).drop (i := 3)).drop (i := 4)
  · rw [elsl]
    exact tr_cons (t_ret (pv_var (pv 1) rfl) (rd_ok _)) tr_nil
end
end PX

namespace PX
open PySem PySem.Spec PyProof.Rows L2
theorem cut_to {α : Type} {xs : List α} {d : Int} (h : 0 ≤ d) : cutA xs none (some d) = xs.take d.toNat := by
  unfold cutA
  have e1 : HT.sIx xs.length 0 none = 0 := rfl
  have e2 : HT.sIx xs.length xs.length (some d) = min d.toNat xs.length := by
    show (if d < 0 then (d + (xs.length : Int)).toNat else min d.toNat xs.length) = _
    rw [if_neg (by omega)]
  rw [e1, e2, List.drop_zero, Nat.sub_zero, ← List.take_eq_take_min]
def WaOk (cs : List Int) (ww : List (List Int)) : Prop := ww.length = cs.length ∧ ∀ i, i < cs.length → ((ww.getD i []).length : Int) = PL.g cs i ∧ ∀ x ∈ ww.getD i [], -50 ≤ x ∧ x ≤ 50
theorem zip_els {K : PySem.W.Frag} {ww : List (List Int)} {p : List Int} : (((ww.map eI).zip (p.map PyData.int)).map fun z => Tp K (dat K z.1) (dat K z.2)) = (ww.zip p).map fun x => Tp K (dat K (eI x.1)) (It' K x.2) := by
  rw [List.zip_map, List.map_map]
  rfl
theorem prof_el {cs : List Int} {rs : List (Int × Int)} (V : PL.Val cs rs) {p : List Int} (hp : p ∈ PL.profs cs rs) : p.length = cs.length ∧ ∀ x ∈ p, 0 ≤ x := by
  have h := (PL.mem_profs V.hr).mp hp
  refine ⟨h.len, fun x hx => ?_⟩
  obtain ⟨i, hi, rfl⟩ := List.mem_iff_getElem.mp hx
  rw [g_get hi]
  exact (h.bd i (by rw [← h.len]; exact hi)).1
theorem ww_get {ww : List (List Int)} {i : Nat} (h : i < ww.length) : ww[i] = ww.getD i [] := by rw [List.getD_eq_getElem?_getD, List.getElem?_eq_getElem h]; rfl
theorem val_nn {cs : List Int} {rs : List (Int × Int)} (V : PL.Val cs rs) : PL.profs cs rs ≠ [] := by
  first
  | exact PL.profs_ne V.hr V.fit fun i hi => by have := V.sz i hi; omega
  | exact PL.profs_ne V.hr (fun i hi => by have := V.rl i hi; omega) fun i hi => by have := V.sz i hi; omega
theorem val_bne {cs : List Int} {rs : List (Int × Int)} (V : PL.Val cs rs) (ww : List (List Int)) : PL.bests ww (PL.profs cs rs) ≠ [] := by
  first
  | exact PL.bests_ne V.hr V.fit fun i hi => by have := V.sz i hi; omega
  | exact PL.bests_ne V.hr (fun i hi => by have := V.rl i hi; omega) fun i hi => by have := V.sz i hi; omega
abbrev rowD (ww : List (List Int)) (p : List Int) : PyData := .tuple [.int (PL.worthOf ww p), eI p]
section
variable {P : Program} {w : World} {K : PySem.W.Frag} {mg : Str → Option Value} {base : Heap} {cG cT f : Addr} {fd : FuncData}
abbrev sNeedWanted : Stmt := top 51
theorem scNeedWanted : FnScope ["table", "worths", "index", "row", "worth"] ["table", "worths"] (defScope sNeedWanted) := ⟨rfl, rfl, rfl, by decide +kernel, rfl, by decide +kernel, by decide +kernel⟩
def RneedWanted (K : PySem.W.Frag) (cT : Addr) : List Dc → Dc → Prop := fun ds d => ∃ cs rs ww, PL.Val cs rs ∧ WaOk cs ww ∧ ds = [Tb K cT cs rs, dat K (eC ww)] ∧ d = dat K .none
theorem dn_need_wanted (F : FnP K "need_wanted" "need_wanted" sNeedWanted f fd) (hm : mg "need_wanted" = some (.ref f)) (T : Fx K mg cG cT) (d_need_table : Dn P w K mg base "need_table" 1 (RneedTable K cT)) (d_is_from : Dn P w K mg base "is_from" 1 (RisFrom K)) : Dn P w K mg base "need_wanted" 2 (RneedWanted K cT) := by
  refine dn_of F hm scNeedWanted (fun ds d ⟨_, _, _, _, _, h, _⟩ => by rw [h]; rfl) (fun _ _ _ _ _ _ us hl => match us, hl with | [_, _], _ => rfl) ?_
  rintro cdv A' outer s H E hr ds d ⟨cs, rs, ww, V, ⟨hl, ho⟩, rfl, rfl⟩
  have v2 := V.few
  refine tr_cons (t_expr (pv_dn d_need_table (hr.mono (by decide)) (by rfl) (pva_cons (pv_var (pv 0) rfl) pva_nil) (⟨cs, rs, rfl, rfl⟩))) ?_
  refine tr_cons (t_pass ((pvw_or (pvt_not (pvt_val (pv_callB call_isi (by rfl) T.nisinstance (by decide +kernel) (pva_cons (pv_var (pv 1) rfl) (pva_cons (pv_bTy (by rfl) T.ntuple (by decide +kernel)) pva_nil)) (rc_isi (b := true) (.ty "tuple") ty_tup (kit_ty (by decide +kernel)))))) (pw_when fun _ => (pvw_or1 (pvt_cmp op_ne (pv_callB call_len_seq (by rfl) T.nlen (by decide +kernel) (pva_cons (pv_var (pv 1) rfl) pva_nil) rc_lenT) (pv_callB call_len_seq (by rfl) T.nlen (by decide +kernel) (pva_cons (pv_fld (pv_var (pv 0) rfl) (.head _) T.clT T.naSizes rfl) pva_nil) rc_lenT) rd_neI (nomark _)))))).pt (by rw [List.length_map, List.length_map, hl]; simp)) ?_
  refine tr_cons (t_for (js := [2, 3]) (fun i => [some (Tb K cT cs rs), some (dat K (eC ww)), none, none, none]) (fun i => [some (Tb K cT cs rs), some (dat K (eC ww)), some (It' K (i : Nat)), some (dat K (eI (ww.getD i []))), none]) (fun _ => none) PassesOwn.never rfl
    (it_enum (by rfl) T.nenumerate (pv_var (pv 1) rfl)) (pg_tup rfl (pgs_cons (pg_name (i := 2) scNeedWanted.nd rfl (Or.inl rfl)) (pgs_cons (pg_name (i := 3) scNeedWanted.nd rfl (Or.inl rfl)) pgs_nil))) (fun i d hd => ?_) (fun _ _ _ h => nomatch h) (fun i hi => ?_) (fun _ _ _ h => h) (rd_up _)) (tr_post tr_nil a_none)
  · obtain ⟨hi, rfl⟩ := els_enum hd
    rw [ww_get hi]
    exact tg_tup 2 3
  · have hi' : i < ww.length := by simpa using hi
    have h := ho i (by omega)
    have sz := V.sz i (by omega)
    refine tr_cons (t_pass ((pvw_or (pvt_not (pvt_val (pv_callB call_isi (by rfl) T.nisinstance (by decide +kernel) (pva_cons (pv_var (pv 3) rfl) (pva_cons (pv_bTy (by rfl) T.ntuple (by decide +kernel)) pva_nil)) (rc_isi (b := true) (.ty "tuple") ty_tup (kit_ty (by decide +kernel)))))) (pw_when fun _ => (pvw_or1 (pvt_cmp op_ne (pv_callB call_len_seq (by rfl) T.nlen (by decide +kernel) (pva_cons (pv_var (pv 3) rfl) pva_nil) rc_lenT) (pv_ix ix_tup (pv_fld (pv_var (pv 0) rfl) (.head _) T.clT T.naSizes rfl) (pv_var (pv 2) rfl) (rd_ixT (by omega) (gI (by omega) (by omega))) (fun _ _ => rfl)) rd_neI (nomark _)))))).pt (by rw [List.length_map, Int.toNat_natCast, h.1]; simp)) ?_
    refine tr_cons (t_pass (pvt_not (pvt_val (pv_allT "worth" 4 rfl scNeedWanted.nd T.nall (by rfl) (pv_var (pv 3) rfl) (blkOk_by (N := ["table", "worths", "index", "row", "worth"]) (sc := defScope sNeedWanted) (by decide +kernel)) (by intro d; simp) (by omega)
      (fun _ _ _ _ _ => pg_name (i := 4) scNeedWanted.nd rfl (Or.inl rfl)) (fun x hx _ _ _ _ _ => ?_)))) rfl) (tr_post tr_nil fun Γ σ H p => (p.drop (i := 2)).drop (i := 3))
    have h2 := h.2 x hx
    exact pv_is (pv_dn d_is_from (hr.mono (by decide)) (by rfl) (pva_cons (pv_var (pv 4) rfl) (pva_cons (pv_un un_neg (pv_gInt (by rfl) T.mostWorth) ru_neg) (pva_cons (pv_gInt (by rfl) T.mostWorth) pva_nil))) ⟨_, _, _, rfl, rfl⟩) (by rw [decide_eq_true (show (-50 : Int) ≤ x by omega), decide_eq_true (show x ≤ (50 : Int) by omega)]; rfl)
/-! ### best_profile -/
abbrev sBestProfile : Stmt := top 52
abbrev nmBP : List Str := ["table", "worths", "rows", "profile", "row", "depth", "most", "worth", "some", "least", "at"]
theorem scBestProfile : FnScope nmBP ["table", "worths"] (defScope sBestProfile) := ⟨rfl, rfl, rfl, by decide +kernel, rfl, by decide +kernel, by decide +kernel⟩
abbrev bestD (cs : List Int) (rs : List (Int × Int)) (ww : List (List Int)) : PyData := .tuple [.int (PL.most ww (PL.profs cs rs)), eI (PL.leastOf cs.length (PL.bests ww (PL.profs cs rs))), eI (PL.greatOf cs.length (PL.bests ww (PL.profs cs rs)))]
def RbestProfile (K : PySem.W.Frag) (cT : Addr) : List Dc → Dc → Prop := fun ds d => ∃ cs rs ww, PL.Val cs rs ∧ WaOk cs ww ∧ ds = [Tb K cT cs rs, dat K (eC ww)] ∧ d = dat K (bestD cs rs ww)
theorem dn_best_profile (F : FnP K "best_profile" "best_profile" sBestProfile f fd) (hm : mg "best_profile" = some (.ref f)) (T : Fx K mg cG cT) (d_need_wanted : Dn P w K mg base "need_wanted" 2 (RneedWanted K cT)) (d_profiles_of : Dn P w K mg base "profiles_of" 2 (RprofilesOf K cT)) : Dn P w K mg base "best_profile" 3 (RbestProfile K cT) := by
  refine dn_of F hm scBestProfile (fun ds d ⟨_, _, _, _, _, h, _⟩ => by rw [h]; rfl) (fun _ _ _ _ _ _ us hl => match us, hl with | [_, _], _ => rfl) ?_
  rintro cdv A' outer s H E hr ds d ⟨cs, rs, ww, V, wa, rfl, rfl⟩
  have v2 := V.few
  have pl := (PL.profs_le V cs.length (Nat.le_refl _)).1
  have pl' : (PL.profs cs rs).length ≤ 161051 := pl
  refine tr_cons (t_expr (pv_dn d_need_wanted (hr.mono (by decide)) (by rfl) (pva_cons (pv_var (pv 0) rfl) (pva_cons (pv_var (pv 1) rfl) pva_nil)) (⟨cs, rs, ww, V, wa, rfl, rfl⟩))) ?_
  refine tr_cons (t_new (i := 2) scBestProfile.nd rfl (Or.inl rfl) (by show 2 < 11; decide) (hρ := rfl)) ?_
  refine tr_cons (t_for (js := [3]) (fun i => [some (Tb K cT cs rs), some (dat K (eC ww)), none, none, none, none, none, none, none, none, none]) (fun i => [some (Tb K cT cs rs), some (dat K (eC ww)), none, some (dat K (eI ((PL.profs cs rs).getD i []))), none, none, none, none, none, none, none]) (fun i => some (2, ((PL.profs cs rs).take i).map (rowD ww))) PassesOwn.never rfl
    (it_listE (pv_dn d_profiles_of (hr.mono (by decide)) (by rfl) (pva_cons (pv_var (pv 0) rfl) pva_nil) (⟨cs, rs, V, rfl, rfl⟩))) (pg_name (i := 3) scBestProfile.nd rfl (Or.inl rfl)) (fun i d hd => ?_) (fun i j hj => ?_) (fun i hi => ?_) (fun _ _ _ h => h) (rd_up _)) ?_
  · obtain ⟨hi, rfl⟩ := els_map hd
    rw [ww_get hi]
    exact tg_name 3
  · simp at hj
    subst hj
    simp [slotOf]
  · have hi' : i < (PL.profs cs rs).length := by simpa using hi
    have ep := ww_get hi'
    have hp := prof_el V (p := (PL.profs cs rs).getD i []) (by rw [← ep]; exact List.getElem_mem hi')
    generalize (PL.profs cs rs).getD i [] = p at ep hp
    have e1 : ((ww.zip p).filter fun _ => true).map (fun x => PyData.int (x.1.take x.2.toNat).sum) = ((ww.zip p).map fun x => (x.1.take x.2.toNat).sum).map PyData.int := by rw [filt_true, List.map_map]; rfl
    refine tr_cons (t_append (dd := rowD ww p) (pe_bm PySem.F.plainAttrs_list PySem.F.slot_list_append PySem.F.type_list_append mt_append (pv 2) (pva_cons (pv_tup (ds := [.int (PL.worthOf ww p), eI p]) (pva_cons (pv_callB (cr_sum rfl) (by rfl) T.nsum (by decide +kernel) (pva_cons (pv_is (pv_lc [("row", 4), ("depth", 5)] (ww.zip p) (fun x => Tp K (dat K (eI x.1)) (It' K x.2)) (fun x => [some (Tb K cT cs rs), some (dat K (eC ww)), none, some (dat K (eI p)), some (dat K (eI x.1)), some (It' K x.2), none, none, none, none, none])
      (fun _ => true) (fun x => .int (x.1.take x.2.toNat).sum) rfl scBestProfile.nd (it_eq (it_zip (by rfl) T.nzip (pv_var (pv 1) rfl) (pv_var (pv 3) rfl) (by rw [List.length_map, List.length_map, wa.1, hp.1])) zip_els) (blkOk_by (N := nmBP) (sc := defScope sBestProfile) (by decide +kernel)) (by intro j hj d; simp at hj; rcases hj with rfl | rfl <;> simp) (by rw [List.length_zip]; omega)
      (fun _ _ _ _ _ => pg_tup rfl (pgs_cons (pg_name (i := 4) scBestProfile.nd rfl (Or.inl rfl)) (pgs_cons (pg_name (i := 5) scBestProfile.nd rfl (Or.inl rfl)) pgs_nil))) (fun c _ => tg_tup 4 5) (fun c _ _ _ _ _ _ => pvts_nil)
      (fun x hx _ _ _ _ _ _ => (pv_callB (cr_sum rfl) (by rfl) T.nsum (by decide +kernel) (pva_cons (pv_callTy call_list_of (by rfl) T.nlist (by decide +kernel) (pva_cons (pv_is (pv_sl (pv_var (pv 4) rfl) pb_none (pb_some (pv_var (pv 5) rfl))) (by rw [cutA_map, cut_to (hp.2 _ (List.of_mem_zip hx).2)])) pva_nil) rc_list) pva_nil) rc_sum))) (congrArg (Ls K) e1)) pva_nil) rc_sum) (pva_cons (pv_var (pv 3) rfl) pva_nil))) pva_nil)) (by rw [List.length_map, List.length_take]; omega)) ?_
    refine tr_post tr_nil fun Γ σ H q => ?_
    have e2 : ((PL.profs cs rs).take (i + 1)).map (rowD ww) = ((PL.profs cs rs).take i).map (rowD ww) ++ [rowD ww p] := by
      rw [List.take_add_one, List.getElem?_eq_getElem hi', ep, List.map_append]
      rfl
    rw [e2]
    exact q.drop (i := 3)
  refine tr_freeze ?_
  refine tr_pre (P := A K [some (Tb K cT cs rs), some (dat K (eC ww)), some (Ls K ((PL.profs cs rs).map (rowD ww))), none, none, none, none, none, none, none, none] none) ?_ fun Γ σ H q => ?_
  rotate_left
  · have e3 : (PL.profs cs rs).take ((PL.profs cs rs).map fun x => dat K (eI x)).length = PL.profs cs rs := by rw [List.length_map, List.take_length]
    have q' : A K [some (Tb K cT cs rs), some (dat K (eC ww)), some (Ls K (((PL.profs cs rs).take ((PL.profs cs rs).map fun x => dat K (eI x)).length).map (rowD ww))), none, none, none, none, none, none, none, none] none Γ σ H := q
    rw [e3] at q'
    exact q'
  have ew : ((PL.profs cs rs).filter fun _ => true).map (fun p => PyData.int (PL.worthOf ww p)) = ((PL.profs cs rs).map (PL.worthOf ww)).map PyData.int := by rw [filt_true, List.map_map]; rfl
  refine tr_cons (t_set (i := 6) (d := It' K (PL.most ww (PL.profs cs rs))) scBestProfile.nd rfl (Or.inr rfl) (pv_callB (cr_max rfl) (by rfl) T.nmax (by decide +kernel) (pva_cons (pv_is (pv_lc [("worth", 7), ("profile", 3)] (PL.profs cs rs) (fun p => Tp K (It' K (PL.worthOf ww p)) (dat K (eI p))) (fun p => [some (Tb K cT cs rs), some (dat K (eC ww)), some (Ls K ((PL.profs cs rs).map (rowD ww))), some (dat K (eI p)), none, none, none, some (It' K (PL.worthOf ww p)), none, none, none])
    (fun _ => true) (fun p => .int (PL.worthOf ww p)) rfl scBestProfile.nd (it_conv (it_listE (enc := rowD ww) (pv_var (pv 2) rfl)) fun p => tp_dat _ _) (blkOk_by (N := nmBP) (sc := defScope sBestProfile) (by decide +kernel)) (by intro j hj d; simp at hj; rcases hj with rfl | rfl <;> simp) (by omega)
    (fun _ _ _ _ _ => pg_tup rfl (pgs_cons (pg_name (i := 7) scBestProfile.nd rfl (Or.inl rfl)) (pgs_cons (pg_name (i := 3) scBestProfile.nd rfl (Or.inl rfl)) pgs_nil))) (fun c _ => tg_tup 7 3) (fun c _ _ _ _ _ _ => pvts_nil) (fun p _ _ _ _ _ _ _ => (pv_var (pv 7) rfl))) (congrArg (Ls K) ew)) pva_nil) (rc_max (by simpa using val_nn V))) (by simp [slotOf])) ?_
  have least1 : ∀ (q : List Int → Int) (k : Nat), (((PL.bests ww (PL.profs cs rs)).filter fun _ => true).map fun p => PyData.int (PL.g p k)) = ((PL.bests ww (PL.profs cs rs)).map fun p => PL.g p k).map PyData.int := fun q k => by rw [filt_true, List.map_map]; rfl
  have bl : ∀ p ∈ PL.bests ww (PL.profs cs rs), p.length = cs.length := fun p hp => (prof_el V (List.mem_filter.mp hp).1).1
  have bn := val_bne V ww
  have bll : (PL.bests ww (PL.profs cs rs)).length ≤ 161051 := Nat.le_trans (List.length_filter_le _ _) pl'
  refine tr_cons (t_set (i := 8) (d := Ls K ((PL.bests ww (PL.profs cs rs)).map eI)) scBestProfile.nd rfl (Or.inr rfl) (pv_lc [("worth", 7), ("profile", 3)] (PL.profs cs rs) (fun p => Tp K (It' K (PL.worthOf ww p)) (dat K (eI p))) (fun p => [some (Tb K cT cs rs), some (dat K (eC ww)), some (Ls K ((PL.profs cs rs).map (rowD ww))), some (dat K (eI p)), none, none, some (It' K (PL.most ww (PL.profs cs rs))), some (It' K (PL.worthOf ww p)), none, none, none])
    (fun p => decide (PL.worthOf ww p = PL.most ww (PL.profs cs rs))) eI rfl scBestProfile.nd (it_conv (it_listE (enc := rowD ww) (pv_var (pv 2) rfl)) fun p => tp_dat _ _) (blkOk_by (N := nmBP) (sc := defScope sBestProfile) (by decide +kernel)) (by intro j hj d; simp at hj; rcases hj with rfl | rfl <;> simp) (by omega)
    (fun _ _ _ _ _ => pg_tup rfl (pgs_cons (pg_name (i := 7) scBestProfile.nd rfl (Or.inl rfl)) (pgs_cons (pg_name (i := 3) scBestProfile.nd rfl (Or.inl rfl)) pgs_nil))) (fun c _ => tg_tup 7 3) (fun c _ _ _ _ _ _ => pvts_one (pvt_cmp op_eq (pv_var (pv 7) rfl) (pv_var (pv 6) rfl) rd_eqI (nomark _))) (fun p _ _ _ _ _ _ _ => (pv_var (pv 3) rfl))) (by simp [slotOf])) ?_
  have rng : ∀ K', ((List.range (((cs.map PyData.int).length : Nat) : Int).toNat).map fun (k : Nat) => It' K' (0 + (k : Int))) = (List.range cs.length).map fun (k : Nat) => It' K' (k : Nat) := fun K' => by
    rw [List.length_map, Int.toNat_natCast]
    refine List.map_congr_left fun k _ => ?_
    rw [Int.zero_add]
  have el : ((List.range cs.length).filter fun _ => true).map (fun (k : Nat) => PyData.int (PL.minL ((PL.bests ww (PL.profs cs rs)).map fun p => PL.g p k))) = (PL.leastOf cs.length (PL.bests ww (PL.profs cs rs))).map PyData.int := by rw [filt_true]; unfold PL.leastOf; rw [List.map_map]; rfl
  have eg : ((List.range cs.length).filter fun _ => true).map (fun (k : Nat) => PyData.int (PL.maxL ((PL.bests ww (PL.profs cs rs)).map fun p => PL.g p k))) = (PL.greatOf cs.length (PL.bests ww (PL.profs cs rs))).map PyData.int := by rw [filt_true]; unfold PL.greatOf; rw [List.map_map]; rfl
  refine tr_cons (t_set (i := 9) (d := dat K (eI (PL.leastOf cs.length (PL.bests ww (PL.profs cs rs))))) scBestProfile.nd rfl (Or.inl rfl) (pv_callTy call_tuple_of (by rfl) T.ntuple (by decide +kernel) (pva_cons (pv_is (pv_lc [("at", 10)] (List.range cs.length) (fun (k : Nat) => It' K (k : Nat)) (fun k => [some (Tb K cT cs rs), some (dat K (eC ww)), some (Ls K ((PL.profs cs rs).map (rowD ww))), none, none, none, some (It' K (PL.most ww (PL.profs cs rs))), none, some (Ls K ((PL.bests ww (PL.profs cs rs)).map eI)), none, some (It' K (k : Nat))])
    (fun _ => true) (fun k => .int (PL.minL ((PL.bests ww (PL.profs cs rs)).map fun p => PL.g p k))) rfl scBestProfile.nd (it_eq (it_range1 (by rfl) T.nrange (pv_callB call_len_seq (by rfl) T.nlen (by decide +kernel) (pva_cons (pv_fld (pv_var (pv 0) rfl) (.head _) T.clT T.naSizes rfl) pva_nil) rc_lenT) (by rw [List.length_map]; omega)) (rng _)) (blkOk_by (N := nmBP) (sc := defScope sBestProfile) (by decide +kernel)) (by intro j hj d; simp at hj; subst hj; simp) (by simp; omega)
    (fun _ _ _ _ _ => pg_name (i := 10) scBestProfile.nd rfl (Or.inr rfl)) (fun c _ => tg_name 10) (fun c _ _ _ _ _ _ => pvts_nil) (fun k hk _ _ _ _ _ _ => pv_callB (cr_min rfl) (by rfl) T.nmin (by decide +kernel) (pva_cons (pv_is (pv_lc [("profile", 3)] (PL.bests ww (PL.profs cs rs)) (fun p => dat K (eI p)) (fun p => [some (Tb K cT cs rs), some (dat K (eC ww)), some (Ls K ((PL.profs cs rs).map (rowD ww))), some (dat K (eI p)), none, none, some (It' K (PL.most ww (PL.profs cs rs))), none, some (Ls K ((PL.bests ww (PL.profs cs rs)).map eI)), none, some (It' K (k : Nat))])
      (fun _ => true) (fun p => .int (PL.g p k)) rfl scBestProfile.nd (it_listE (pv_var (pv 8) rfl)) (blk2 (N := nmBP) (sc := defScope sBestProfile) (blkOk_by (by decide +kernel)) rfl rfl) (by intro j hj d; simp at hj; subst hj; simp) (by omega)
      (fun _ _ _ _ _ => pg_name (i := 3) scBestProfile.nd rfl (Or.inl rfl)) (fun c _ => tg_name 3) (fun c _ _ _ _ _ _ => pvts_nil) (fun p hp _ _ _ _ _ _ => pv_is (pv_ix ix_tup (pv_var (pv 3) rfl) (pv_var (pv 10) rfl) (rd_ixT (by omega) (gI (by omega) (by have := bl p hp; have := List.mem_range.mp hk; omega))) (fun _ _ => rfl)) (by rw [Int.toNat_natCast]))) (congrArg (Ls K) (least1 (fun _ => 0) k))) pva_nil) (rc_min (by simpa using bn)))) (congrArg (Ls K) el)) pva_nil) rc_tuple) (by simp [slotOf])) ?_
  refine tr_cons (t_ret ?_ (rd_ok _)) tr_nil
  refine pv_tup (ds := [.int (PL.most ww (PL.profs cs rs)), eI (PL.leastOf cs.length (PL.bests ww (PL.profs cs rs))), eI (PL.greatOf cs.length (PL.bests ww (PL.profs cs rs)))]) (pva_cons (pv_var (pv 6) rfl) (pva_cons (pv_var (pv 9) rfl) (pva_cons ?_ pva_nil)))
  exact (pv_callTy call_tuple_of (by rfl) T.ntuple (by decide +kernel) (pva_cons (pv_is (pv_lc [("at", 10)] (List.range cs.length) (fun (k : Nat) => It' K (k : Nat)) (fun k => [some (Tb K cT cs rs), some (dat K (eC ww)), some (Ls K ((PL.profs cs rs).map (rowD ww))), none, none, none, some (It' K (PL.most ww (PL.profs cs rs))), none, some (Ls K ((PL.bests ww (PL.profs cs rs)).map eI)), some (dat K (eI (PL.leastOf cs.length (PL.bests ww (PL.profs cs rs))))), some (It' K (k : Nat))])
    (fun _ => true) (fun k => .int (PL.maxL ((PL.bests ww (PL.profs cs rs)).map fun p => PL.g p k))) rfl scBestProfile.nd (it_eq (it_range1 (by rfl) T.nrange (pv_callB call_len_seq (by rfl) T.nlen (by decide +kernel) (pva_cons (pv_fld (pv_var (pv 0) rfl) (.head _) T.clT T.naSizes rfl) pva_nil) rc_lenT) (by rw [List.length_map]; omega)) (rng _)) (blkOk_by (N := nmBP) (sc := defScope sBestProfile) (by decide +kernel)) (by intro j hj d; simp at hj; subst hj; simp) (by simp; omega)
    (fun _ _ _ _ _ => pg_name (i := 10) scBestProfile.nd rfl (Or.inr rfl)) (fun c _ => tg_name 10) (fun c _ _ _ _ _ _ => pvts_nil) (fun k hk _ _ _ _ _ _ => pv_callB (cr_max rfl) (by rfl) T.nmax (by decide +kernel) (pva_cons (pv_is (pv_lc [("profile", 3)] (PL.bests ww (PL.profs cs rs)) (fun p => dat K (eI p)) (fun p => [some (Tb K cT cs rs), some (dat K (eC ww)), some (Ls K ((PL.profs cs rs).map (rowD ww))), some (dat K (eI p)), none, none, some (It' K (PL.most ww (PL.profs cs rs))), none, some (Ls K ((PL.bests ww (PL.profs cs rs)).map eI)), some (dat K (eI (PL.leastOf cs.length (PL.bests ww (PL.profs cs rs))))), some (It' K (k : Nat))])
      (fun _ => true) (fun p => .int (PL.g p k)) rfl scBestProfile.nd (it_listE (pv_var (pv 8) rfl)) (blk2 (N := nmBP) (sc := defScope sBestProfile) (blkOk_by (by decide +kernel)) rfl rfl) (by intro j hj d; simp at hj; subst hj; simp) (by omega)
      (fun _ _ _ _ _ => pg_name (i := 3) scBestProfile.nd rfl (Or.inl rfl)) (fun c _ => tg_name 3) (fun c _ _ _ _ _ _ => pvts_nil) (fun p hp _ _ _ _ _ _ => pv_is (pv_ix ix_tup (pv_var (pv 3) rfl) (pv_var (pv 10) rfl) (rd_ixT (by omega) (gI (by omega) (by have := bl p hp; have := List.mem_range.mp hk; omega))) (fun _ _ => rfl)) (by rw [Int.toNat_natCast]))) (congrArg (Ls K) (least1 (fun _ => 0) k))) pva_nil) (rc_max (by simpa using bn)))) (congrArg (Ls K) eg)) pva_nil) rc_tuple)
end
end PX

namespace PX
open PySem PySem.Spec PyProof.Rows L2
/-! ### the row: script, the cell's number, the seed, the rest; calls change it -/
structure RowS where
  p : Addr
  sc : Addr
  ns : List Int
def rowV (sc : Addr) (i s r : Int) : List V := [.ref sc, .int i, .int s, .int r]
def rowP (ns : List Int) (i s r : Int) : List PyData := [.list (ns.map .int), .int i, .int s, .int r]
def RowAt (R : RowS) (H : Hp) : Prop := ∃ i s r, H R.p = some (.lst (rowV R.sc i s r)) ∧ 0 ≤ i
def ScAt (K : PySem.W.Frag) (R : RowS) (H : Hp) : Prop := SqL K H R.sc (R.ns.map V.int)
def Stp (R : RowS) (H H' : Hp) : Prop := (∀ a o, a ≠ R.p → H a = some o → H' a = some o) ∧ RowAt R H'
theorem Stp.trans {R : RowS} {H H1 H2 : Hp} (a : Stp R H H1) (b : Stp R H1 H2) : Stp R H H2 := ⟨fun x o hx ho => b.1 x o hx (a.1 x o hx ho), b.2⟩
structure Fr (K : PySem.W.Frag) (R : RowS) (M : Addr → Bool) (H : Hp) : Prop where
  m : MOk M H
  p : M R.p = true
  r : RowAt R H
  s : ScAt K R (res M H)
theorem Fr.step {K : PySem.W.Frag} {R : RowS} {M : Addr → Bool} {H H' : Hp} (f : Fr K R M H) (s : Stp R H H') : Fr K R M H' ∧ Same (res M H) (res M H') := by
  have e : Same (res M H) (res M H') := fun a o ha => by
    unfold res at ha ⊢
    split at ha
    · cases ha
    · rename_i z
      rw [if_neg z]
      exact s.1 a o (fun q => z (by rw [q]; exact f.p)) ha
  refine ⟨⟨fun a ha => ?_, f.p, s.2, same_l e f.s⟩, e⟩
  by_cases z : a = R.p
  · obtain ⟨i, t, r, h, _⟩ := s.2
    rw [z, h]
    simp
  · cases q : H a with
    | none => exact absurd q (f.m a ha)
    | some o =>
      rw [s.1 a o z q]
      simp
theorem Fr.same {K : PySem.W.Frag} {R : RowS} {M : Addr → Bool} {H H' : Hp} (f : Fr K R M H) (s : Same H H') : Stp R H H' := by
  obtain ⟨i, t, r, h, h0⟩ := f.r
  exact ⟨fun a o _ h => s a o h, i, t, r, s _ _ h, h0⟩
def tX (K : PySem.W.Frag) (R : RowS) (ρ : DE) (d : Dc) : TE := fun σ H Q => ∃ M, Fr K R M H ∧ Holds ρ σ (res M H) ∧ ∀ v H', Stp R H H' → d.p (res M H') v → Q v H'
def tXA (K : PySem.W.Frag) (R : RowS) (ρ : DE) (ds : List Dc) : TA := fun σ H Q => ∃ M, Fr K R M H ∧ Holds ρ σ (res M H) ∧ ∀ vs H', Stp R H H' → DsP (res M H') ds vs → Q vs H'
abbrev PXE (X : Cx) (R : RowS) (e : Expr) (ρ : DE) (d : Dc) : Prop := PE X e (tX X.K R ρ d)
abbrev PXA (X : Cx) (R : RowS) (es : List Expr) (ρ : DE) (ds : List Dc) : Prop := PA X es (tXA X.K R ρ ds)
section
variable {X : Cx} {R : RowS} {ρ : DE} {a b e : Expr} {da db d : Dc} {pos : Pos}
theorem px_of (h : PV X e ρ d) : PXE X R e ρ d := pe_weak h fun σ H Q ⟨M, f, hh, q⟩ => ⟨M, f.m, hh, fun v H' s dv => q v H' (f.same s) dv⟩
theorem px_conv (h : PXE X R e ρ da) (k : Le da d) : PXE X R e ρ d := pe_weak h fun σ H Q ⟨M, f, hh, q⟩ => ⟨M, f, hh, fun v H' s dv => q v H' s (k _ _ dv)⟩
theorem px_op2 {r : R2} (h : RD r da db d) : ∀ σ H Q, tX X.K R ρ d σ H Q → tOp r (tX X.K R ρ da) (tX X.K R ρ db) σ H Q := fun σ H Q ⟨M, f, hh, q⟩ => ⟨M, f, hh, fun v1 H1 s1 d1 =>
  have f1 := f.step s1
  ⟨M, f1.1, hh.mono f1.2, fun v2 H2 s2 d2 =>
    have f2 := f1.1.step s2
    h M H2 v1 v2 Q f2.1.m (da.mono f2.2 d1) d2 fun v H' s' dv => q v H' ((s1.trans s2).trans (f2.1.same s')) dv⟩⟩
theorem px_op {op : Operator} {r : R2} (ho : OpR X (binaryOp op) r) (ha : PXE X R a ρ da) (hb : PXE X R b ρ db) (h : RD r da db d) : PXE X R (.BinOp a op b pos) ρ d := pe_weak (pe_op ho ha hb) (px_op2 h)
theorem px_ix {r : R2} (hr : IxR X r) (ha : PXE X R a ρ da) (hb : PXE X R b ρ db) (h : RD r da db d) (hs : PlainIx b) : PXE X R (.Subscript a b pos) ρ d := pe_weak (pe_ix hr ha hb hs) (px_op2 h)
theorem pxa_nil : PXA X R [] ρ [] := pa_weak pa_nil fun σ H Q ⟨M, f, hh, q⟩ => q [] H (f.same (Same.refl H)) .nil
theorem pxa_cons {es : List Expr} {ds : List Dc} (ha : PXE X R e ρ d) (hr : PXA X R es ρ ds) (hs : starEach (e :: es) X.env = (false, eval e X.env) :: starEach es X.env := by rfl) : PXA X R (e :: es) ρ (d :: ds) :=
  pa_weak (pa_cons ha hr hs) fun σ H Q ⟨M, f, hh, q⟩ => ⟨M, f, hh, fun v H1 s1 d1 =>
    have f1 := f.step s1
    ⟨M, f1.1, hh.mono f1.2, fun vs H2 s2 d2 =>
      have f2 := f1.1.step s2
      q _ H2 (s1.trans s2) (.cons (d.mono f2.2 d1) d2)⟩⟩
/-- the promise of a function that turns the row -/
def spX (K : PySem.W.Frag) (R' : List Dc → Dc → Prop) : Sp := fun vs H Q _ => ∃ M R us ds d, vs = .ref R.p :: us ∧ Fr K R M H ∧ R' ds d ∧ DsP (res M H) ds us ∧ ∀ v H', Stp R H H' → d.p (res M H') v → Q v H'
structure DnX (P : Program) (w : World) (K : PySem.W.Frag) (mg : Str → Option Value) (base : Heap) (x : Str) (k : Nat) (R' : List Dc → Dc → Prop) : Prop where
  ex : ∃ f fd ps, FnOk P w K mg base CX0 k f fd ps (spX K R') ∧ mg x = some (.ref f) ∧ PySem.W.keepIn K (.ref f) = true ∧ Binds K fd ps []
theorem px_call {x : Str} {k : Nat} {R' : List Dc → Dc → Prop} {es : List Expr} {ds : List Dc} {p : Pos} (D : DnX X.prog X.w X.K X.mg X.base x k R') (hr : Room k X.A) (hg : Gl X x) (he0 : PV X e ρ (Vl (.ref R.p))) (ha : PXA X R es ρ ds) (h : R' ds d)
    (hdb : (x == ("__debug__" : Str)) = false := by decide) (he : starEach (e :: es) X.env = (false, eval e X.env) :: starEach es X.env := by rfl) (hpl : (backTo pos (starEach es X.env)).any (·.1) = false := by rfl) : PXE X R (.Call (.Name x p) (e :: es) [] pos) ρ d := by
  obtain ⟨f, fd, ps, F, hm, hk, hb⟩ := D.ex
  refine pe_weak (pe_call F hr hg hm hk hb .nil pass0 (pxa_cons (px_of he0) ha he) hdb he hpl) fun σ H Q ⟨M, f, hh, q⟩ => ⟨M, f, hh, fun vs H1 s1 dvs => ?_⟩
  cases dvs with
  | cons d0 t =>
    cases (show _ = V.ref R.p from d0)
    rename_i us
    exact ⟨M, R, us, ds, _, by rw [List.append_nil], (f.step s1).1, h, t, fun v H' s' dv => q v H' (s1.trans s') dv⟩
end
/-! ### statements -/
structure RowG (K : PySem.W.Frag) (R : RowS) (Γ : Gm) : Prop where
  m : Γ.M R.p = true
  g : Γ.G R.p = none
  e : ∀ H, Γ.E H ↔ RowAt R H
  s : ScAt K R (res Γ.M Γ.G)
def AR (K : PySem.W.Frag) (R : RowS) (ρ : DE) (o : Mu) : Asr := fun Γ σ H => RowG K R Γ ∧ A K ρ o Γ σ H
theorem ar_eval {K : PySem.W.Frag} {R : RowS} {ρ : DE} {o : Mu} {Γ : Gm} {σ : L2.St} {H : Hp} (h : AR K R ρ o Γ σ H) : ∃ M', Fr K R M' H ∧ Holds ρ σ (res M' H) ∧
    (∀ H', Same (res M' H') (res Γ.M H')) ∧ ∀ (ρ' : DE) (σ' : L2.St) (H' : Hp), Stp R H H' → Holds ρ' σ' (res M' H') → (∀ i, i ∈ slotOf o → σ'[i]? = σ[i]?) → AR K R ρ' o Γ σ' H' := by
  obtain ⟨g, a⟩ := h
  have b := a.base
  have gs : ∀ H', Stp R H H' → Same Γ.G H' := fun H' st x o q => st.1 x o (fun z => by rw [z, g.g] at q; cases q) (b.1 x o q)
  have mo : ∀ H', Stp R H H' → MOk Γ.M H' := fun H' st x hx => by
    by_cases z : x = R.p
    · obtain ⟨i, t, r, h, _⟩ := st.2
      rw [z, h]
      simp
    · cases q : H x with
      | none => exact absurd q (b.2.1 x hx)
      | some o =>
        rw [st.1 x o z q]
        simp
  cases o with
  | none => exact ⟨Γ.M, ⟨b.2.1, g.m, (g.e H).mp b.2.2, same_l (res_mono b.1) g.s⟩, a.2.2.2, fun _ => Same.refl _, fun ρ' σ' H' st hh' hi => ⟨g, gs H' st, mo H' st, (g.e H').mpr st.2, hh'⟩⟩
  | some z =>
    obtain ⟨i, ds⟩ := z
    obtain ⟨h1, h2, h3, q, xs, h4, h5, h6, h7, h8, h9⟩ := a
    have hq : q ≠ R.p := fun z => by rw [z, g.m] at h4; cases h4
    have sG : Same (res Γ.M Γ.G) (res (addM Γ.M q) H) := fun x o q' => by
      unfold res at q' ⊢
      split at q'
      · cases q'
      · rename_i z
        have hne : x ≠ q := fun w => by rw [w, h5] at q'; cases q'
        rw [addM_ne hne, if_neg z]
        exact b.1 x o q'
    have f : Fr K R (addM Γ.M q) H := ⟨fun x hx => by
      by_cases z : x = q
      · rw [z, h7]
        simp
      · rw [addM_ne z] at hx
        exact h2 x hx, by unfold addM; rw [g.m, Bool.or_true], (g.e H).mp h3, same_l sG g.s⟩
    refine ⟨addM Γ.M q, f, h8, fun _ => res_add_le _ _ _, fun ρ' σ' H' st hh' hi => ?_⟩
    have sM := (f.step st).2
    exact ⟨g, gs H' st, mo H' st, (g.e H').mpr st.2, q, xs, h4, h5, (hi i (List.mem_singleton.mpr rfl)).trans h6, st.1 _ _ hq h7, hh', dps_mono sM _ _ h9⟩
section
variable {X : Cx} {R : RowS} {ρ : DE} {o : Mu} {d : Dc} {e : Expr} {pos : Pos} {Rt : Rl} {rest : List Stmt} {Nx : Asr}
theorem tx_set {i : Nat} {x : Str} {pos' : Pos} (hN : X.N.Nodup) (hi : X.N[i]? = some x) (hx : Loc X.env.scope x) (he : PXE X R e ρ d) (ho : i ∉ slotOf o) (hs : swapsWith e (some (.Name x pos')) pos.line X.env = pure false := by rfl)
    (hf : X.fn x = true ∨ X.env.scope.names.lookup x = some .local := by first | exact .inl rfl | exact .inr rfl | assumption) : T1 X (.Assign [.Name x pos'] e pos) (AR X.K R ρ o) (AR X.K R (ρ.set i (some d)) o) Rt := fun Γ =>
  ps_weak (ps_set hN hi hx he hs hf) fun D σ H ⟨p, n, r⟩ => by
    obtain ⟨M', f, hh, _, k⟩ := ar_eval p
    exact ⟨M', f, hh, fun v H' s dv => n _ _ (k _ _ _ s ((hh.mono (f.step s).2).set dv) fun j hj => List.getElem?_set_ne fun z => ho (by rw [z]; exact hj))⟩
theorem tx_ret (he : PXE X R e ρ d) (hr : ∀ Γ v H', RowG X.K R Γ → Same Γ.G H' → MOk Γ.M H' → Γ.E H' → d.p (res Γ.M H') v → Rt Γ v H') : T1 X (.Return (some e) pos) (AR X.K R ρ o) Nx Rt := fun Γ => ps_weak (ps_ret he) fun D σ H ⟨p, n, r⟩ => by
  obtain ⟨M', f, hh, le, k⟩ := ar_eval p
  refine ⟨M', f, hh, fun v H' s dv => r v H' ?_⟩
  have q := (k ρ σ H' s (hh.mono (f.step s).2) fun j hj => rfl)
  have q2 := q.2.base
  exact hr Γ v H' q.1 q2.1 q2.2.1 q2.2.2 (d.mono (le H') dv)
/-- x, y = (a, b), both may turn the row -/
theorem tx_par {i j : Nat} {x y : Str} {a b : Expr} {px py pt pos : Pos} {kt k2 pt2} {da db : Dc} (hc : X.calm = true) (hN : X.N.Nodup) (hi : X.N[i]? = some x) (hj : X.N[j]? = some y) (hij : i ≠ j)
    (hx : X.env.scope.names.lookup x = some .local) (hy : X.env.scope.names.lookup y = some .local) (ha : PXE X R a ρ da) (hb : PXE X R b ρ db) (hoi : i ∉ slotOf o) (hoj : j ∉ slotOf o)
    (hw : swappedStores [.Tuple [.Name x px, .Name y py] kt pt] (.Tuple [a, b] k2 pt2) X.env = pure (some [x, y]))
    (hs : swapsWithSole [.Tuple [.Name x px, .Name y py] kt pt] (.Tuple [a, b] k2 pt2) pos.line X.env = pure false := by rfl)
    (hs1 : starEach (a :: [b]) X.env = (false, eval a X.env) :: starEach [b] X.env := by rfl) (hs2 : starEach (b :: []) X.env = (false, eval b X.env) :: starEach [] X.env := by rfl) :
    T1 X (.Assign [.Tuple [.Name x px, .Name y py] kt pt] (.Tuple [a, b] k2 pt2) pos) (AR X.K R ρ o) (AR X.K R ((ρ.set i (some da)).set j (some db)) o) Rt := fun Γ =>
  ps_weak (ps_par hc hN hi hj hij hx hy (pxa_cons ha (pxa_cons hb pxa_nil hs2) hs1) hw hs) fun D σ H ⟨p, n, r⟩ => by
    obtain ⟨M', f, hh, _, k⟩ := ar_eval p
    refine ⟨M', f, hh, fun vs H' s dvs => ?_⟩
    cases dvs with
    | cons d1 t =>
      cases t with
      | cons d2 t =>
        cases t
        refine ⟨_, _, rfl, n _ _ (k _ _ _ s (((hh.mono (f.step s).2).set d1).set d2) fun l hl => ?_)⟩
        rw [List.getElem?_set_ne (fun z => hoj (by rw [z]; exact hl)), List.getElem?_set_ne (fun z => hoi (by rw [z]; exact hl))]
/-- x, y = ([], b), b may turn the row, its value holds of no heap -/
theorem tx_parL {i j : Nat} {x y : Str} {b : Expr} {px py pt pos p1 : Pos} {kt k2 pt2} {db : Dc} (hc : X.calm = true) (hN : X.N.Nodup) (hi : X.N[i]? = some x) (hj : X.N[j]? = some y) (hij : i ≠ j)
    (hx : X.env.scope.names.lookup x = some .local) (hy : X.env.scope.names.lookup y = some .local) (hb : PXE X R b ρ db) (hf : ∀ H H' v, db.p H v → db.p H' v) (hli : i < ρ.length)
    (hw : swappedStores [.Tuple [.Name x px, .Name y py] kt pt] (.Tuple [.List [] p1, b] k2 pt2) X.env = pure (some [x, y]))
    (hs : swapsWithSole [.Tuple [.Name x px, .Name y py] kt pt] (.Tuple [.List [] p1, b] k2 pt2) pos.line X.env = pure false := by rfl)
    (hs1 : starEach (.List [] p1 :: [b]) X.env = (false, eval (.List [] p1) X.env) :: starEach [b] X.env := by rfl) (hs2 : starEach (b :: []) X.env = (false, eval b X.env) :: starEach [] X.env := by rfl) :
    T1 X (.Assign [.Tuple [.Name x px, .Name y py] kt pt] (.Tuple [.List [] p1, b] k2 pt2) pos) (AR X.K R ρ none) (AR X.K R ((ρ.set i none).set j (some db)) (some (i, []))) Rt := fun Γ =>
  ps_weak (ps_par hc hN hi hj hij hx hy (pa_cons (pe_lst pa_nil) (pxa_cons hb pxa_nil hs2) hs1) hw hs) fun D σ H ⟨⟨g, p⟩, n, r⟩ => by
    refine ⟨Nat.zero_le _, fun q hq => ?_⟩
    have fr := a_fresh (K := X.K) (ρ := ρ) (j := i) (ds := []) (xs := []) (Γ := Γ) (σ := σ) p hli hq .nil
    obtain ⟨M0, f0, hh0, _, k0⟩ := ar_eval (R := R) ⟨g, p⟩
    have st := f0.same (same_upd (o := .lst []) hq)
    refine ⟨M0, (f0.step st).1, hh0.mono (f0.step st).2, fun vs H2 s2 dvs => ?_⟩
    cases dvs with
    | cons d2 t =>
      cases t
      obtain ⟨M', f', hh', _, kk⟩ := ar_eval (R := R) ⟨g, fr⟩
      refine ⟨_, _, rfl, n _ _ (kk _ _ _ s2 ((hh'.mono (f'.step s2).2).set (hf _ _ _ d2)) fun l hl => ?_)⟩
      rw [List.mem_singleton.mp hl]
      exact List.getElem?_set_ne (Ne.symm hij)
/-- for x in range(e), e may turn the row -/
theorem tx_for {j : Nat} {x : Str} {body : List Stmt} {lo hi : Int} {p ppos tpos : Pos} (I J : Nat → Asr) (hp : PassesOwn (model X.prog X.w) X.A X.env X.xe) (hc : X.calm = true) (hg : Gl X "range") (hm : X.mg "range" = none) (he : PXE X R e ρ d) (hd : ∀ H v, d.p H v → ∃ n : Int, lo ≤ n ∧ n ≤ hi ∧ v = .int n) (hb : -1000000 ≤ lo ∧ hi ≤ 1000000)
    (hpg : PG X (.Name x tpos) (gName j)) (h0 : ∀ Γ σ H, AR X.K R ρ o Γ σ H → I 0 Γ σ H) (hstep : ∀ (i : Nat) Γ σ H, (i : Int) < hi → I i Γ σ H → J i Γ (σ.set j (some (.int (0 + (i : Int))))) H)
    (hbody : ∀ i : Nat, (i : Int) < hi → TR X body (J i) (I (i + 1)) Rt) (hs : ∀ z, foldedSetIterable (.Call (.Name "range" p) [e] [] ppos) X.env z = pure z := by intro _; rfl) (hs1 : starEach [e] X.env = [(false, eval e X.env)] := by rfl) (hs2 : starEach (e :: []) X.env = (false, eval e X.env) :: starEach [] X.env := by rfl) :
    T1 X (.For (.Name x tpos) (.Call (.Name "range" p) [e] [] ppos) body [] pos) (AR X.K R ρ o) (fun Γ σ H => ∃ n : Int, (lo ≤ n ∧ n ≤ hi) ∧ I n.toNat Γ σ H) Rt := fun Γ =>
  ps_weak (ps_for (tb := fun D σ H => ∃ i : Nat, (i : Int) < hi ∧ J i Γ σ H ∧ (∀ σ' H', I (i + 1) Γ σ' H' → D.nx σ' H') ∧ ∀ v H', Rt Γ v H' → D.rt v H') hp hc (pi_range1 hg hm (pxa_cons he pxa_nil hs2) hs1) hpg (pss_ex fun i => pss_when fun hi' => hbody i hi' Γ) hs) fun D σ H ⟨p, n, r⟩ => by
    obtain ⟨M', f, hh, _, k⟩ := ar_eval p
    refine ⟨M', f, hh, fun vs H1 s1 dvs => ?_⟩
    cases dvs with
    | cons d1 t =>
      cases t
      obtain ⟨m, m1, m2, rfl⟩ := hd _ _ d1
      refine ⟨m, rfl, by omega, by omega, fun i t σ2 H2 => t = m.toNat - i ∧ i ≤ m.toNat ∧ I i Γ σ2 H2, ⟨m.toNat, by simp, Nat.zero_le _, h0 _ _ _ (k ρ σ H1 s1 (hh.mono (f.step s1).2) fun _ _ => rfl)⟩, ?_⟩
      rintro i t σ2 H2 ⟨rfl, hi2, w⟩
      by_cases hlt : i < m.toNat
      · refine .inr ⟨hlt, I (i + 1) Γ, fun σ3 H3 q => ⟨m.toNat - (i + 1), by omega, rfl, hlt, q⟩, fun y H3 hy => ?_⟩
        obtain ⟨rfl, rfl⟩ := hy
        exact ⟨i, by omega, hstep i Γ σ2 _ (by omega) w, fun _ _ q => q, r⟩
      · have e : i = m.toNat := by omega
        subst e
        exact .inl ⟨Nat.le_refl _, n _ _ ⟨m, ⟨m1, m2⟩, w⟩⟩
end
end PX

namespace PX
open PySem PySem.Spec PyProof.Rows L2
def gmX (H : Hp) (M : Addr → Bool) (R : RowS) (hM : M R.p = true) : Gm := ⟨fun a => if a = R.p then none else H a, M, RowAt R, fun H1 H2 h ⟨i, s, r, e, h0⟩ => ⟨i, s, r, (h R.p hM) ▸ e, h0⟩⟩
theorem dnx_of {P : Program} {w : World} {K : PySem.W.Frag} {mg : Str → Option Value} {base : Heap} {x : Str} {st : Stmt} {f : Addr} {fd : FuncData} {N ps : List Str} {k : Nat} {R' : List Dc → Dc → Prop} (F : FnP K x x st f fd) (hm : mg x = some (.ref f)) (S : FnScope N ps (defScope st)) (hlen : ∀ ds d, R' ds d → ds.length + 1 = ps.length)
    (hb : ∀ (kV doc pm : Value) (an : Option Addr) (cdv ct : Value) (us : List Value), us.length = ps.length → bindArgs (PySem.W.fnOf x x (defArgs st) (defBody st) (defScope st) .none kV doc pm an cdv ct) ⟨us, []⟩ = pure (ps.zip us))
    (body : ∀ (cdv : Value) (A' : Around) (outer : List Env) (s : Shared) (H : Hp) (E : XK), Room k (A'.deeper (envOfC x (defScope st) s.heap.objs.size f cdv)) → ∀ R ds d, R' ds d →
      TR (cxf P w K mg base N x st f cdv A' outer s H E) (defBody st) (AR K R (ρ0 N (Vl (.ref R.p) :: ds)) none) (fun _ _ _ => False) (Rd' d)) : DnX P w K mg base x (k + 1) R' := by
  refine ⟨f, fd, ps, F.ok S (fun vs H Q E h => ?_) (fun cdv A' outer s H vs Q E hr h => ?_), hm, F.kp, F.bindsN hb⟩
  · obtain ⟨M, R, us, ds, d, rfl, _, hR, hd, _⟩ := h
    have : ds.length = us.length := by
      clear hR
      induction hd with
      | nil => rfl
      | cons _ _ ih => rw [List.length_cons, List.length_cons, ih]
    rw [List.length_cons, ← this]
    exact hlen ds d hR
  · obtain ⟨M, R, us, ds, d, rfl, fr, hR, hd, q⟩ := h
    refine ⟨_, PSs.nox (body cdv A' outer s H E hr R ds d hR (gmX H M R fr.p)), ⟨⟨⟨fr.p, if_pos rfl, fun _ => Iff.rfl, ?_⟩, fun a o h => ?_, fr.m, fr.r, holds_start (.cons rfl hd)⟩, fun σ' H' h => h.elim, fun v H' h => q v H' ⟨fun a o z e => h.1 a o (by show (if a = R.p then none else H a) = _; rw [if_neg z]; exact e), h.2.1⟩ h.2.2⟩⟩
    · refine same_l (fun a o h => ?_) fr.s
      have h' := h
      unfold res at h' ⊢
      split at h'
      · cases h'
      · rename_i z
        show (if M a = true then none else (if a = R.p then none else H a)) = _
        rw [if_neg z, if_neg (fun w => z (by rw [w]; exact fr.p))]
        exact h'
    · have h' : (if a = R.p then none else H a) = some o := h
      by_cases z : a = R.p
      · rw [if_pos z] at h'
        cases h'
      · rw [if_neg z] at h'
        exact h'
/-! ### the row's items are read and written -/
theorem dps_intsOf {K : PySem.W.Frag} {H : Hp} : ∀ ns : List Int, DpAll K H (ns.map V.int) (ns.map .int)
  | [] => .nil
  | n :: ns => .cons (.int n) (dps_intsOf ns)
def B (K : PySem.W.Frag) (R : RowS) (ρ : DE) (i s r : Int) : Asr := fun Γ σ H => RowG K R Γ ∧ Same Γ.G H ∧ MOk Γ.M H ∧ H R.p = some (.lst (rowV R.sc i s r)) ∧ σ[0]? = some (some (.ref R.p)) ∧ Holds ρ σ (res Γ.M H)
abbrev ρF (K : PySem.W.Frag) (R : RowS) (ρ : DE) (i s r : Int) : DE := ρ.set 0 (some (Ls K (rowP R.ns i s r)))
theorem b_view {K : PySem.W.Frag} {R : RowS} {ρ : DE} {i s r : Int} {Γ : Gm} {σ : L2.St} {H : Hp} (h : B K R ρ i s r Γ σ H) : ∃ M', MOk M' H ∧ Holds (ρF K R ρ i s r) σ (res M' H) := by
  obtain ⟨g, h1, h2, h3, h4, h5⟩ := h
  refine ⟨fun a => Γ.M a && !decide (a = R.p), fun a ha => h2 a (Bool.and_eq_true_iff.mp ha).1, ?_⟩
  have sm : Same (res Γ.M H) (res (fun a => Γ.M a && !decide (a = R.p)) H) := fun a o q => by
    unfold res at q ⊢
    split at q
    · cases q
    · rename_i z
      rw [if_neg (fun w => z (Bool.and_eq_true_iff.mp w).1)]
      exact q
  have hl : σ.set 0 (some (V.ref R.p)) = σ := by
    refine List.ext_getElem? fun j => ?_
    by_cases e : 0 = j
    · subst e
      have l := (List.getElem?_eq_some_iff.mp h4).1
      rw [List.getElem?_set_self l, h4]
    · rw [List.getElem?_set_ne e]
  have := (h5.mono sm).set (j := 0) (d := Ls K (rowP R.ns i s r)) (v := .ref R.p) ⟨R.p, rowV R.sc i s r, rfl, by rw [res_in (by simp)]; exact h3, .cons (.lst (same_l ((res_mono h1).trans sm) g.s) (dps_intsOf _)) (.cons (.int _) (.cons (.int _) (.cons (.int _) .nil)))⟩
  rwa [hl] at this
theorem b_on {K : PySem.W.Frag} {R : RowS} {ρ : DE} {i s r : Int} {Γ : Gm} {σ : L2.St} {H H' : Hp} (h : B K R ρ i s r Γ σ H) (t : Same H H') : B K R ρ i s r Γ σ H' := by
  obtain ⟨g, h1, h2, h3, h4, h5⟩ := h
  exact ⟨g, h1.trans t, h2.mono t, t _ _ h3, h4, h5.mono (res_mono t)⟩
section
variable {X : Cx} {R : RowS} {ρ : DE} {i s r n : Int} {e : Expr} {pos : Pos} {Rt : Rl} {rest : List Stmt} {Nx : Asr}
theorem b_start {h0 : ρ[0]? = some (some (Vl (.ref R.p)))} (h : ∀ i s r, 0 ≤ i → TR X rest (B X.K R ρ i s r) Nx Rt) : TR X rest (AR X.K R ρ none) Nx Rt := fun Γ =>
  pss_weak (pss_ex (t := fun z : Int × Int × Int => fun D σ H => 0 ≤ z.1 ∧ (B X.K R ρ z.1 z.2.1 z.2.2 Γ σ H ∧ (∀ σ' H', Nx Γ σ' H' → D.nx σ' H') ∧ ∀ v H', Rt Γ v H' → D.rt v H')) fun z => pss_when fun hz => h z.1 z.2.1 z.2.2 hz Γ) fun D σ H ⟨⟨g, a1, a2, a3, a4⟩, n, r⟩ => by
    obtain ⟨i, s, t, e, hi⟩ := (g.e H).mp a3
    obtain ⟨v, e1, e2⟩ := a4.2 0 _ h0
    cases (show v = V.ref R.p from e2)
    exact ⟨(i, s, t), hi, ⟨g, a1, a2, e, e1, a4⟩, n, r⟩
theorem b_set {j : Nat} {x : Str} {pos' : Pos} (hN : X.N.Nodup) (hi : X.N[j]? = some x) (hx : Loc X.env.scope x) (he : PV X e (ρF X.K R ρ i s r) (It' X.K n)) (hj : j ≠ 0) (hs : swapsWith e (some (.Name x pos')) pos.line X.env = pure false := by rfl)
    (hf : X.fn x = true ∨ X.env.scope.names.lookup x = some .local := by first | exact .inl rfl | exact .inr rfl | assumption) : T1 X (.Assign [.Name x pos'] e pos) (B X.K R ρ i s r) (B X.K R (ρ.set j (some (It' X.K n))) i s r) Rt := fun Γ =>
  ps_weak (ps_set hN hi hx he hs hf) fun D σ H ⟨p, nx, rt⟩ => by
    obtain ⟨M', m, hh⟩ := b_view p
    refine ⟨M', m, hh, fun v H' t dv => nx _ _ ?_⟩
    cases (show Dp X.K _ v (.int n) from dv)
    obtain ⟨g, h1, h2, h3, h4, h5⟩ := b_on p t
    exact ⟨g, h1, h2, h3, by rw [List.getElem?_set_ne hj]; exact h4, h5.set (.int n)⟩
theorem b_if {c : Expr} {a b : List Stmt} {k : Bool} (hc : PVT X c (ρF X.K R ρ i s r) k) (h1 : k = true → TR X a (B X.K R ρ i s r) Nx Rt) (h2 : k = false → TR X b (B X.K R ρ i s r) Nx Rt) : T1 X (.If c a b pos) (B X.K R ρ i s r) Nx Rt := fun Γ => by
  cases k with
  | true =>
    exact ps_weak (ps_if hc (h1 rfl Γ) pss_never) fun D σ H ⟨p, n, r⟩ => by
      obtain ⟨M', m, hh⟩ := b_view p
      exact ⟨M', m, hh, fun H' s => iteT ⟨b_on p s, n, r⟩⟩
  | false =>
    exact ps_weak (ps_if hc pss_never (h2 rfl Γ)) fun D σ H ⟨p, n, r⟩ => by
      obtain ⟨M', m, hh⟩ := b_view p
      exact ⟨M', m, hh, fun H' s => iteF ⟨b_on p s, n, r⟩⟩
theorem b_ret {d : Dc} (h0 : 0 ≤ i) (he : PV X e (ρF X.K R ρ i s r) (It' X.K n)) (hd : ∀ H, d.p H (.int n)) : T1 X (.Return (some e) pos) (B X.K R ρ i s r) Nx (Rd' d) := fun Γ => ps_weak (ps_ret he) fun D σ H ⟨p, nx, rt⟩ => by
  obtain ⟨M', m, hh⟩ := b_view p
  refine ⟨M', m, hh, fun v H' t dv => rt v H' ?_⟩
  cases (show Dp X.K _ v (.int n) from dv)
  obtain ⟨g, h1, h2, h3, h4, h5⟩ := b_on p t
  exact ⟨h1, (g.e H').mpr ⟨i, s, r, h3, h0⟩, hd _⟩
theorem b_store {x : Str} {i' s' r' : Int} {k : Nat} {kk : Int} {jj : Nat} {p1 p2 p3 : Pos} (hx : PE X (.Name x p1) (tVar 0)) (he : PV X e (ρF X.K R ρ i s r) (It' X.K n)) (hkk : kk = (k : Int)) (hk : k < 4) (hset : (rowV R.sc i s r).set k (.int n) = rowV R.sc i' s' r')
    (hs : swapsWithSole [.Subscript (.Name x p1) (.Constant (.int kk) jj p2) p3] e pos.line X.env = pure false := by rfl) (hw : swappedStores [.Subscript (.Name x p1) (.Constant (.int kk) jj p2) p3] e X.env = pure none := by rfl)
    (h1 : (assignEach [.Subscript (.Name x p1) (.Constant (.int kk) jj p2) p3] X.env).map (·.2) = [assign (.Subscript (.Name x p1) (.Constant (.int kk) jj p2) p3) X.env] := by rfl) :
    T1 X (.Assign [.Subscript (.Name x p1) (.Constant (.int kk) jj p2) p3] e pos) (B X.K R ρ i s r) (B X.K R ρ i' s' r') Rt := fun Γ =>
  ps_weak (ps_asg he (pg_sub hx pe_int set_list) hs hw h1) fun D σ H ⟨p, nx, rt⟩ => by
    obtain ⟨M', m, hh⟩ := b_view p
    refine ⟨M', m, hh, fun v H' t dv => ?_⟩
    cases (show Dp X.K _ v (.int n) from dv)
    obtain ⟨g, h1, h2, h3, h4, h5⟩ := b_on p t
    refine ⟨.ref R.p, h4, R.p, rowV R.sc i s r, kk, k, rfl, rfl, h3, ?_, nx _ _ ?_⟩
    · unfold ixN
      have hl : (rowV R.sc i s r).length = 4 := rfl
      rw [hl, if_pos (by omega), if_pos (by omega), hkk, Int.toNat_natCast]
    · rw [hset]
      have hp : Γ.M R.p = true := g.m
      refine ⟨g, fun a o q => ?_, fun a ha => ?_, upd_same, h4, ?_⟩
      · rw [upd_ne (fun w => by rw [w, g.g] at q; cases q)]
        exact h1 a o q
      · by_cases z : a = R.p
        · rw [z, upd_same]
          simp
        · rw [upd_ne z]
          exact h2 a ha
      · rw [res_upd_mut hp]
        exact h5
end
theorem holds_open {α : Type} {ρ : DE} {σ : L2.St} {H : Hp} {j : Nat} {d : Dc} {f : α → Dc} {φ : α → Prop} (h : Holds ρ σ H) (hj : ρ[j]? = some (some d)) (hd : ∀ H v, d.p H v → ∃ a, φ a ∧ (f a).p H v) : ∃ a, φ a ∧ Holds (ρ.set j (some (f a))) σ H := by
  obtain ⟨v, h1, h2⟩ := h.2 j d hj
  obtain ⟨a, h3, h4⟩ := hd H v h2
  refine ⟨a, h3, by rw [List.length_set]; exact h.1, fun i e q => ?_⟩
  by_cases z : j = i
  · subst z
    have l := (List.getElem?_eq_some_iff.mp hj).1
    rw [List.getElem?_set_self l] at q
    simp only [Option.some.injEq] at q
    subst q
    exact ⟨v, h1, h4⟩
  · rw [List.getElem?_set_ne z] at q
    exact h.2 i e q
theorem a_open {α : Type} {K : PySem.W.Frag} {ρ : DE} {o : Mu} {Γ : Gm} {σ : L2.St} {H : Hp} {j : Nat} {d : Dc} {f : α → Dc} {φ : α → Prop} (h : A K ρ o Γ σ H) (hj : ρ[j]? = some (some d)) (hd : ∀ H v, d.p H v → ∃ a, φ a ∧ (f a).p H v) : ∃ a, φ a ∧ A K (ρ.set j (some (f a))) o Γ σ H := by
  obtain ⟨M', m, hh, _, _, k⟩ := h.eval
  obtain ⟨a, h1, h2⟩ := holds_open hh hj hd
  exact ⟨a, h1, k _ _ _ (Same.refl _) h2 fun _ _ => rfl⟩
theorem tr_exw {X : Cx} {α : Type} {rest : List Stmt} {P Nx : Asr} {Q : α → Asr} {Rt : Rl} (h : ∀ a, TR X rest (Q a) Nx Rt) (k : ∀ Γ σ H, P Γ σ H → ∃ a, Q a Γ σ H) : TR X rest P Nx Rt := tr_pre (tr_ex h) k
theorem tr_whenw {X : Cx} {rest : List Stmt} {P Nx : Asr} {φ : Prop} {Rt : Rl} (h : φ → TR X rest P Nx Rt) : TR X rest (fun Γ σ H => φ ∧ P Γ σ H) Nx Rt := fun Γ => pss_weak (pss_when fun f => h f Γ) fun D σ H ⟨⟨f, p⟩, n, r⟩ => ⟨f, p, n, r⟩
theorem b_open {X : Cx} {α : Type} {K : PySem.W.Frag} {R : RowS} {ρ : DE} {i s r : Int} {rest : List Stmt} {Nx : Asr} {Rt : Rl} (j : Nat) {d : Dc} {f : α → Dc} {φ : α → Prop} (hj : ρ[j]? = some (some d)) (hd : ∀ H v, d.p H v → ∃ a, φ a ∧ (f a).p H v) (h : ∀ a, φ a → TR X rest (B K R (ρ.set j (some (f a))) i s r) Nx Rt) : TR X rest (B K R ρ i s r) Nx Rt :=
  tr_exw (fun a => tr_whenw (h a)) fun Γ σ H ⟨g, h1, h2, h3, h4, h5⟩ => by
    obtain ⟨a, e1, e2⟩ := holds_open h5 hj hd
    exact ⟨a, e1, g, h1, h2, h3, h4, e2⟩
theorem ar_open {X : Cx} {α : Type} {K : PySem.W.Frag} {R : RowS} {ρ : DE} {o : Mu} {rest : List Stmt} {Nx : Asr} {Rt : Rl} (j : Nat) {d : Dc} {f : α → Dc} {φ : α → Prop} (hj : ρ[j]? = some (some d)) (hd : ∀ H v, d.p H v → ∃ a, φ a ∧ (f a).p H v) (h : ∀ a, φ a → TR X rest (AR K R (ρ.set j (some (f a))) o) Nx Rt) : TR X rest (AR K R ρ o) Nx Rt :=
  tr_exw (fun a => tr_whenw (h a)) fun Γ σ H ⟨g, p⟩ => by
    obtain ⟨a, e1, e2⟩ := a_open p hj hd
    exact ⟨a, e1, g, e2⟩
theorem rc_lenD {K : PySem.W.Frag} {ds : List PyData} : RC (fun xs H Q => ∃ p ys, xs = [.ref p] ∧ (SqL K H p ys ∨ SqT K H p ys) ∧ Q (.int ys.length) H) [dat K (.list ds)] (It' K ds.length) := fun M H vs Q m hv q => by
  cases hv with
  | cons h t =>
    cases t
    cases (show Dp K _ _ (.list ds) from h) with
    | lst hs ha => exact ⟨_, _, rfl, .inl (same_l (res_le M H) hs), q _ H (Same.refl H) (by rw [dps_len ha]; exact .int _)⟩
theorem rd_ixD {K : PySem.W.Frag} {ds : List PyData} {i : Int} {d : PyData} (h0 : 0 ≤ i) (h : ds[i.toNat]? = some d) : RD (rIxL K) (dat K (.list ds)) (It' K i) (dat K d) := fun M H x y Q m hx hy q => by
  cases (show Dp K _ y (.int i) from hy)
  cases (show Dp K _ x (.list ds) from hx) with
  | lst hs ha =>
    obtain ⟨z, hz, dz⟩ := dps_get ha h
    exact ⟨_, _, i, z, rfl, rfl, same_l (res_le M H) hs, atI_of h0 hz, q z H (Same.refl H) dz⟩
/-- some whole number from lo, below hi -/
def Rg (K : PySem.W.Frag) (lo hi : Int) : Dc := ⟨fun _ v => ∃ n : Int, lo ≤ n ∧ n < hi ∧ v = .int n, fun _ h => h⟩
section
variable {P : Program} {w : World} {K : PySem.W.Frag} {mg : Str → Option Value} {base : Heap} {cG cT f : Addr} {fd : FuncData}
/-! ### taken -/
abbrev sTaken : Stmt := top 54
abbrev nmTk : List Str := ["_law_row", "_law_many", "_law_found", "_law_cell"]
theorem scTaken : FnScope nmTk ["_law_row", "_law_many"] (defScope sTaken) := ⟨rfl, rfl, rfl, by decide +kernel, rfl, by decide +kernel, by decide +kernel⟩
def Rtaken (K : PySem.W.Frag) : List Dc → Dc → Prop := fun ds d => ∃ d0 m, ds = [d0] ∧ (∀ H v, d0.p H v → ∃ n : Int, 1 ≤ n ∧ n ≤ m ∧ v = .int n) ∧ m ≤ 1000 ∧ d = Rg K 0 m
theorem dnx_taken (F : FnP K "_law_taken" "_law_taken" sTaken f fd) (hm : mg "_law_taken" = some (.ref f)) (T : Fx K mg cG cT) : DnX P w K mg base "_law_taken" 1 (Rtaken K) := by
  refine dnx_of F hm scTaken (fun ds d ⟨_, _, h, _⟩ => by rw [h]; rfl) (fun _ _ _ _ _ _ us hl => match us, hl with | [_, _], _ => rfl) ?_
  rintro cdv A' outer s0 H E hr R ds d ⟨d0, m, rfl, hd0, hm1, rfl⟩
  refine b_start (h0 := rfl) fun i s r hi => ?_
  refine b_open 1 (f := fun n : Int => It' K n) (φ := fun n => 1 ≤ n ∧ n ≤ m) rfl (fun H v h => by
    obtain ⟨n, h1, h2, rfl⟩ := hd0 H v h
    exact ⟨n, ⟨h1, h2⟩, .int n⟩) fun n hn => ?_
  have hmod : ∀ x : Int, ∀ H : Hp, (Rg K 0 m).p H (.int (x % n)) := fun x H => ⟨x % n, Int.emod_nonneg x (by omega), Int.lt_of_lt_of_le (Int.emod_lt_of_pos x (by omega)) hn.2, rfl⟩
  refine tr_cons (b_if (pvt_cmp op_gt (pv_ix ix_list (pv_var (pv 0) rfl) pv_int (rd_ixL (by decide) (rfl)) (fun _ _ => rfl)) pv_int (rd_I0 fun _ => .bl _) (nomark _)) (fun hk => ?_) fun hk => tr_nil) ?_
  · refine tr_cons (b_set (j := 2) scTaken.nd rfl (Or.inl rfl) (pv_op op_mod (pv_callTy call_int1 (by rfl) T.nint (by decide +kernel) (pva_cons (pv_ix ix_list (pv_var (pv 0) rfl) pv_int (rd_ixL (by decide) (rfl)) (fun _ _ => rfl)) pva_nil) rc_int) (pv_var (pv 1) rfl) (rd_I (by omega) fun _ => .int _)) (by decide)) ?_
    refine tr_cons (b_store (k := 3) (pv 0) (pv_op op_fdiv (pv_ix ix_list (pv_var (pv 0) rfl) pv_int (rd_ixL (by decide) (rfl)) (fun _ _ => rfl)) (pv_var (pv 1) rfl) (rd_I (⟨by omega, by omega⟩) fun _ => .int _)) rfl (by decide) rfl) ?_
    exact tr_cons (b_ret hi (pv_var (pv 2) rfl) (hmod r)) tr_nil
  refine tr_cons (b_store (k := 1) (pv 0) (pv_op op_add (pv_ix ix_list (pv_var (pv 0) rfl) pv_int (rd_ixL (by decide) (rfl)) (fun _ _ => rfl)) pv_int (rd_I0 fun _ => .int _)) rfl (by decide) rfl) ?_
  refine tr_cons (Mid := fun Γ σ H => (i < R.ns.length) ∧ B K R [some (Vl (.ref R.p)), some (It' K n), none, none] (i + 1) s r Γ σ H) (b_if (pvt_cmp op_gt (pv_ix ix_list (pv_var (pv 0) rfl) pv_int (rd_ixL (by decide) (rfl)) (fun _ _ => rfl)) (pv_callB call_len_seq (by rfl) T.nlen (by decide +kernel) (pva_cons (pv_ix ix_list (pv_var (pv 0) rfl) pv_int (rd_ixL (by decide) (rfl)) (fun _ _ => rfl)) pva_nil) rc_lenD) (rd_I0 fun _ => .bl _) (nomark _)) (fun hk => ?_) fun hk => ?_) (tr_whenw fun hlt => ?_)
  · refine tr_cons (b_store (k := 2) (pv 0) (pv_op op_mod (pv_callTy call_int1 (by rfl) T.nint (by decide +kernel) (pva_cons (pv_op op_add (pv_op op_mul (pv_ix ix_list (pv_var (pv 0) rfl) pv_int (rd_ixL (by decide) (rfl)) (fun _ _ => rfl)) pv_int (rd_I (.inr ⟨by decide, by decide⟩) fun _ => .int _)) pv_int (rd_I0 fun _ => .int _)) pva_nil) rc_int) pv_int (rd_I (by decide) fun _ => .int _)) rfl (by decide) rfl) ?_
    exact tr_cons (b_ret (by omega) (pv_op op_mod (pv_callTy call_int1 (by rfl) T.nint (by decide +kernel) (pva_cons (pv_op op_fdiv (pv_ix ix_list (pv_var (pv 0) rfl) pv_int (rd_ixL (by decide) (rfl)) (fun _ _ => rfl)) pv_int (rd_I (⟨by decide, by decide⟩) fun _ => .int _)) pva_nil) rc_int) (pv_var (pv 1) rfl) (rd_I (by omega) fun _ => .int _)) (hmod _)) tr_nil
  · have h1 := of_decide_eq_false hk
    rw [List.length_map] at h1
    exact tr_post tr_nil fun Γ σ H q => ⟨by omega, q⟩
  refine tr_cons (b_set (j := 3) scTaken.nd rfl (Or.inl rfl) (pv_ix ix_list (pv_ix ix_list (pv_var (pv 0) rfl) pv_int (rd_ixL (by decide) (rfl)) (fun _ _ => rfl)) (pv_op op_sub (pv_ix ix_list (pv_var (pv 0) rfl) pv_int (rd_ixL (by decide) (rfl)) (fun _ _ => rfl)) pv_int (rd_I0 fun _ => .int _)) (rd_ixD (by omega) (gI (by omega) (by omega))) (fun _ _ => rfl)) (by decide)) ?_
  refine tr_cons (b_store (k := 2) (pv 0) (pv_op op_mod (pv_callTy call_int1 (by rfl) T.nint (by decide +kernel) (pva_cons (pv_op op_add (pv_op op_add (pv_op op_mul (pv_ix ix_list (pv_var (pv 0) rfl) pv_int (rd_ixL (by decide) (rfl)) (fun _ _ => rfl)) pv_int (rd_I (.inr ⟨by decide, by decide⟩) fun _ => .int _)) (pv_var (pv 3) rfl) (rd_I0 fun _ => .int _)) pv_int (rd_I0 fun _ => .int _)) pva_nil) rc_int) pv_int (rd_I (by decide) fun _ => .int _)) rfl (by decide) rfl) ?_
  refine tr_cons (Mid := fun Γ σ H => ∃ z : Int × Int, B K R [some (Vl (.ref R.p)), some (It' K n), none, some (It' K (PL.g R.ns (i + 1 - 1).toNat))] (i + 1) z.1 z.2 Γ σ H) (b_if (pvt_cmp op_ge (pv_var (pv 3) rfl) (pv_op op_pow pv_int pv_int (rd_I (⟨by decide, by decide, by decide⟩) fun _ => .int _)) (rd_I0 fun _ => .bl _) (nomark _)) (fun hk => ?_) fun hk => ?_) ?_
  · refine tr_cons (b_store (k := 3) (pv 0) (pv_op op_fdiv (pv_var (pv 3) rfl) (pv_var (pv 1) rfl) (rd_I (⟨by omega, by omega⟩) fun _ => .int _)) rfl (by decide) rfl) (tr_post tr_nil fun Γ σ H q => ⟨(_, _), q⟩)
  · exact tr_post tr_nil fun Γ σ H q => ⟨(_, _), q⟩
  · exact tr_ex fun z => tr_cons (b_ret (by omega) (pv_op op_mod (pv_callTy call_int1 (by rfl) T.nint (by decide +kernel) (pva_cons (pv_var (pv 3) rfl) pva_nil) rc_int) (pv_var (pv 1) rfl) (rd_I (by omega) fun _ => .int _)) (hmod _)) tr_nil
end
end PX

namespace PX
open PySem PySem.Spec PyProof.Rows L2
theorem rd_addRg {K : PySem.W.Frag} {a lo hi : Int} : RD (rI0 fun i j => .int (i + j)) (It' K a) (Rg K lo hi) (Rg K (a + lo) (a + hi)) := fun M H x y Q m hx ⟨n, h1, h2, hy⟩ q => by
  cases (show Dp K _ x (.int a) from hx)
  subst hy
  exact ⟨a, n, rfl, rfl, q _ H (Same.refl H) ⟨a + n, by omega, by omega, rfl⟩⟩
theorem rd_ixRg {K : PySem.W.Frag} {ns : List Int} {lo hi c : Int} (hc : c ≤ ns.length) (h : ∀ x ∈ ns, lo ≤ x ∧ x < hi) : RD (rIxL K) (Ls K (ns.map .int)) (Rg K 0 c) (Rg K lo hi) := fun M H x y Q m ⟨a, xs, e1, e2, e3⟩ ⟨n, h1, h2, hy⟩ q => by
  subst hy
  have e := dps_ints e3
  subst e
  have hl : n.toNat < ns.length := by omega
  have hx := h ns[n.toNat] (List.getElem_mem hl)
  refine ⟨a, _, n, .int ns[n.toNat], e1, rfl, .inl (.inl (res_le _ _ _ _ e2)), atI_of h1 ?_, q _ H (Same.refl H) ⟨_, hx.1, hx.2, rfl⟩⟩
  rw [List.getElem?_map, List.getElem?_eq_getElem hl]
  rfl
/-- a list of two whole numbers -/
def Lp (K : PySem.W.Frag) (a b c d : Int) : Dc := ⟨fun H v => ∃ z : Int × Int, (a ≤ z.1 ∧ z.1 < b ∧ c ≤ z.2 ∧ z.2 < d) ∧ (Ls K [.int z.1, .int z.2]).p H v, fun s ⟨z, h1, h2⟩ => ⟨z, h1, (Ls K _).mono s h2⟩⟩
theorem px_lst2 {X : Cx} {R : RowS} {ρ : DE} {es : List Expr} {a b c d : Int} {pos : Pos} (h : PXA X R es ρ [Rg X.K a b, Rg X.K c d]) : PXE X R (.List es pos) ρ (Lp X.K a b c d) :=
  pe_weak (pe_lst h) fun σ H Q ⟨M, f, hh, q⟩ => ⟨M, f, hh, fun vs H1 s1 dvs => by
    cases dvs with
    | cons d1 t =>
      cases t with
      | cons d2 t =>
        cases t
        obtain ⟨n, n1, n2, rfl⟩ := d1
        obtain ⟨m, m1, m2, rfl⟩ := d2
        refine ⟨by show 2 ≤ sizeLine; decide, fun p hp => q _ _ (s1.trans ((f.step s1).1.same (same_upd hp))) ⟨(n, m), ⟨n1, n2, m1, m2⟩, p, _, rfl, res_upd_at ((f.step s1).1.m.new hp), .cons (.int n) (.cons (.int m) .nil)⟩⟩⟩
theorem ar_put {K : PySem.W.Frag} {R : RowS} {ρ : DE} {o : Mu} {Γ : Gm} {σ : L2.St} {H : Hp} (j : Nat) (n : Int) (hj : j ∉ slotOf o) (h : AR K R ρ o Γ σ H) : AR K R (ρ.set j (some (It' K n))) o Γ (σ.set j (some (.int n))) H := by
  obtain ⟨M', f, hh, _, k⟩ := ar_eval h
  exact k _ _ _ (f.same (Same.refl H)) (hh.set (.int n)) fun i hi => List.getElem?_set_ne fun z => hj (by rw [z]; exact hi)
theorem ar_drop {K : PySem.W.Frag} {R : RowS} {ρ : DE} {o : Mu} {Γ : Gm} {σ : L2.St} {H : Hp} (j : Nat) (h : AR K R ρ o Γ σ H) : AR K R (ρ.set j none) o Γ σ H := ⟨h.1, h.2.drop⟩
theorem ar_freeze {K : PySem.W.Frag} {R : RowS} {ρ : DE} {i : Nat} {ds : List PyData} {Γ : Gm} {σ : L2.St} {H : Hp} (h : AR K R ρ (some (i, ds)) Γ σ H) : AR K R (ρ.set i (some (Ls K ds))) none Γ σ H := ⟨h.1, h.2.freeze⟩
theorem ar1 {X : Cx} {K : PySem.W.Frag} {R : RowS} {ρ : DE} {o : Mu} {st : Stmt} {Nx : Asr} {Rt : Rl} (h : T1 X st (A K ρ o) Nx Rt) : T1 X st (AR K R ρ o) (fun Γ σ H => RowG K R Γ ∧ Nx Γ σ H) Rt := t1_phi h
theorem tk_of {K : PySem.W.Frag} {n : Int} (h : 1 ≤ n ∧ n ≤ 1000) : Rtaken K [It' K n] (Rg K 0 n) := ⟨_, n, rfl, fun H v hv => by
  cases (show Dp K H v (.int n) from hv)
  exact ⟨n, h.1, Int.le_refl _, rfl⟩, h.2, rfl⟩
theorem tk_rg {K : PySem.W.Frag} {lo hi : Int} (h : 1 ≤ lo ∧ hi ≤ 1000) : Rtaken K [Rg K lo hi] (Rg K 0 (hi - 1)) := ⟨_, hi - 1, rfl, fun H v ⟨n, h1, h2, h3⟩ => ⟨n, by omega, by omega, h3⟩, by omega, rfl⟩
def TabD (K : PySem.W.Frag) : Dc := ⟨fun H v => ∃ z : List Int × List (Int × Int), PL.Val z.1 z.2 ∧ (dat K (.tuple [eI z.1, eRs z.2])).p H v, fun s ⟨z, h1, h2⟩ => ⟨z, h1, (dat K _).mono s h2⟩⟩
def WoD (K : PySem.W.Frag) (many : Nat) : Dc := ⟨fun H v => ∃ ws : List Int, (ws.length = many ∧ ∀ x ∈ ws, -50 ≤ x ∧ x ≤ 50) ∧ (dat K (eI ws)).p H v, fun s ⟨z, h1, h2⟩ => ⟨z, h1, (dat K _).mono s h2⟩⟩
def CsOk (i : Nat) (cs : List Int) : Prop := cs.length ≤ i ∧ (1 ≤ i → 1 ≤ cs.length) ∧ (∀ x ∈ cs, 1 ≤ x ∧ x ≤ 9) ∧ cs.sum ≤ 10
def RsOk (cs : List Int) (i : Nat) (rs : List (Int × Int)) : Prop := rs.length = i ∧ ∀ j, j < i → (1 ≤ (PL.r2 rs j).1 ∧ (PL.r2 rs j).1 ≤ 9 ∧ 1 ≤ (PL.r2 rs j).2 ∧ (PL.r2 rs j).2 ≤ 9) ∧ PL.g cs j - PL.g cs (j + 1) ≤ (PL.r2 rs j).1 ∧ PL.g cs (j + 1) - PL.g cs j ≤ (PL.r2 rs j).2
theorem cs_g {i : Nat} {cs : List Int} (h : CsOk i cs) {j : Nat} (hj : j < cs.length) : 1 ≤ PL.g cs j ∧ PL.g cs j ≤ 9 := by
  rw [← g_get hj]
  exact h.2.2.1 _ (List.getElem_mem hj)
theorem rs_val {i : Nat} {cs : List Int} {rs : List (Int × Int)} (h : CsOk i cs) (hi : 1 ≤ i ∧ i ≤ 5) (hr : RsOk cs (cs.length - 1) rs) : PL.Val cs rs := by
  have h1 := h.2.1 hi.1
  have h0 := h.1
  refine ⟨h1, by omega, fun j hj => ?_, h.2.2.2, by rw [hr.1]; omega, fun j hj => (hr.2 j (by rw [← hr.1]; exact hj)).1, fun j hj => (hr.2 j (by rw [← hr.1]; exact hj)).2⟩
  have := cs_g h hj
  omega
theorem rs_app {cs : List Int} {i : Nat} {rs : List (Int × Int)} {r : Int × Int} (h : RsOk cs i rs) (hr : (1 ≤ r.1 ∧ r.1 ≤ 9 ∧ 1 ≤ r.2 ∧ r.2 ≤ 9) ∧ PL.g cs i - PL.g cs (i + 1) ≤ r.1 ∧ PL.g cs (i + 1) - PL.g cs i ≤ r.2) : RsOk cs (i + 1) (rs ++ [r]) := by
  refine ⟨by simp [h.1], fun j hj => ?_⟩
  by_cases z : j < i
  · have e : PL.r2 (rs ++ [r]) j = PL.r2 rs j := by
      unfold PL.r2
      rw [List.getD_eq_getElem?_getD, List.getD_eq_getElem?_getD, List.getElem?_append_left (by rw [h.1]; exact z)]
    rw [e]
    exact h.2 j z
  · have z' : j = i := by omega
    subst z'
    have e : PL.r2 (rs ++ [r]) j = r := by
      unfold PL.r2
      rw [List.getD_eq_getElem?_getD, List.getElem?_append_right (by rw [h.1]; exact Nat.le_refl _), h.1, Nat.sub_self]
      rfl
    rw [e]
    exact hr
section
variable {P : Program} {w : World} {K : PySem.W.Frag} {mg : Str → Option Value} {base : Heap} {cG cT f : Addr} {fd : FuncData}
/-! ### worths -/
abbrev sWorths : Stmt := top 57
abbrev nmWo : List Str := ["_law_row", "_law_many", "_law_found", "_law_style", "_law_block", "_law_less", "_law_more"]
theorem scWorths : FnScope nmWo ["_law_row", "_law_many"] (defScope sWorths) := ⟨rfl, rfl, rfl, by decide +kernel, rfl, by decide +kernel, by decide +kernel⟩
def Rworths (K : PySem.W.Frag) : List Dc → Dc → Prop := fun ds d => ∃ m : Nat, m ≤ 1000 ∧ ds = [It' K m] ∧ d = WoD K m
theorem dnx_worths (F : FnP K "_law_worths" "_law_worths" sWorths f fd) (hm : mg "_law_worths" = some (.ref f)) (T : Fx K mg cG cT) (d_taken : DnX P w K mg base "_law_taken" 1 (Rtaken K)) : DnX P w K mg base "_law_worths" 2 (Rworths K) := by
  refine dnx_of F hm scWorths (fun ds d ⟨_, _, h, _⟩ => by rw [h]; rfl) (fun _ _ _ _ _ _ us hl => match us, hl with | [_, _], _ => rfl) ?_
  rintro cdv A' outer s0 H E hr R ds d ⟨m, hm1, rfl, rfl⟩
  refine tr_cons (tx_parL (i := 2) (j := 3) rfl scWorths.nd rfl rfl (by decide) rfl rfl (px_call d_taken (hr.mono (by decide)) (by rfl) (pv_var (pv 0) rfl) (pxa_cons (px_of pv_int) pxa_nil) (tk_of (by decide))) (fun _ _ _ h => h) (by show 2 < 7; decide) rfl) ?_
  refine tr_cons (tx_for (j := 4) (lo := (m : Int)) (hi := (m : Int)) (fun i Γ σ H => ∃ ws : List Int, (ws.length = i ∧ ∀ x ∈ ws, -50 ≤ x ∧ x ≤ 50) ∧ AR K R [some (Vl (.ref R.p)), some (It' K m), none, some (Rg K 0 6), none, none, none] (some (2, ws.map .int)) Γ σ H)
    (fun i Γ σ H => ∃ ws : List Int, (ws.length = i ∧ ∀ x ∈ ws, -50 ≤ x ∧ x ≤ 50) ∧ AR K R [some (Vl (.ref R.p)), some (It' K m), none, some (Rg K 0 6), some (It' K (0 + (i : Int))), none, none] (some (2, ws.map .int)) Γ σ H) PassesOwn.never rfl (by rfl) T.nrange (px_of (pv_var (pv 1) rfl)) (fun H v hv => ?_) (by omega)
    (pg_name (i := 4) scWorths.nd rfl (Or.inl rfl)) (fun Γ σ H p => ⟨[], ⟨rfl, by simp⟩, p⟩) (fun i Γ σ H _ ⟨ws, h1, h2⟩ => ⟨ws, h1, ar_put 4 _ (by simp [slotOf]) h2⟩) (fun i hi => ?_)) ?_
  · cases (show Dp K H v (.int m) from hv)
    exact ⟨m, Int.le_refl _, Int.le_refl _, rfl⟩
  · refine tr_ex fun ws => tr_whenw fun hws => ?_
    refine tr_cons (tx_par (i := 5) (j := 6) (da := Rg K 0 51) (db := Rg K 0 51) rfl scWorths.nd rfl rfl (by decide) rfl rfl
      (px_call d_taken (hr.mono (by decide)) (by rfl) (pv_var (pv 0) rfl) (pxa_cons (px_ix ix_list (px_of (pv_lst (ds := [.int 3, .int 5, .int 9, .int 51, .int 51, .int 2]) (pva_cons pv_int (pva_cons pv_int (pva_cons pv_int (pva_cons pv_int (pva_cons pv_int (pva_cons pv_int pva_nil)))))))) (px_of (pv_var (pv 3) rfl)) (rd_ixRg (ns := [3, 5, 9, 51, 51, 2]) (lo := 2) (hi := 52) (by decide) (by decide)) (fun _ _ => rfl)) pxa_nil) (tk_rg (by decide)))
      (px_call d_taken (hr.mono (by decide)) (by rfl) (pv_var (pv 0) rfl) (pxa_cons (px_ix ix_list (px_of (pv_lst (ds := [.int 3, .int 5, .int 9, .int 51, .int 4, .int 2]) (pva_cons pv_int (pva_cons pv_int (pva_cons pv_int (pva_cons pv_int (pva_cons pv_int (pva_cons pv_int pva_nil)))))))) (px_of (pv_var (pv 3) rfl)) (rd_ixRg (ns := [3, 5, 9, 51, 4, 2]) (lo := 2) (hi := 52) (by decide) (by decide)) (fun _ _ => rfl)) pxa_nil) (tk_rg (by decide)))
      (by simp [slotOf]) (by simp [slotOf]) rfl) ?_
    refine ar_open 5 (f := fun n : Int => It' K n) (φ := fun n => 0 ≤ n ∧ n < 51) rfl (fun H v ⟨n, h1, h2, h3⟩ => ⟨n, ⟨h1, h2⟩, by rw [h3]; exact .int n⟩) fun less hless => ?_
    refine ar_open 6 (f := fun n : Int => It' K n) (φ := fun n => 0 ≤ n ∧ n < 51) rfl (fun H v ⟨n, h1, h2, h3⟩ => ⟨n, ⟨h1, h2⟩, by rw [h3]; exact .int n⟩) fun more hmore => ?_
    refine tr_cons (ar1 (t_append (dd := .int (more - less)) (pe_bm PySem.F.plainAttrs_list PySem.F.slot_list_append PySem.F.type_list_append mt_append (pv 2) (pva_cons (pv_op op_sub (pv_var (pv 6) rfl) (pv_var (pv 5) rfl) (rd_I0 fun _ => .int _)) pva_nil)) (by rw [List.length_map]; omega))) ?_
    refine tr_post tr_nil fun Γ σ H p => ⟨ws ++ [more - less], ⟨by simp [hws.1], fun x hx => ?_⟩, ?_⟩
    · rcases List.mem_append.mp hx with h | h
      · exact hws.2 x h
      · rw [List.mem_singleton.mp h]
        omega
    · rw [List.map_append]
      exact ar_drop 6 (ar_drop 5 (ar_drop 4 p))
  · refine tr_ex fun n => tr_whenw fun hn => tr_ex fun ws => tr_whenw fun hws => ?_
    refine tr_pre ?_ fun Γ σ H p => ar_freeze p
    refine tr_cons (tx_ret (d := WoD K m) (px_conv (px_of (pv_callTy call_tuple_of (by rfl) T.ntuple (by decide +kernel) (pva_cons (pv_var (pv 2) rfl) pva_nil) rc_tuple)) fun H v h => ⟨ws, ⟨by omega, hws.2⟩, h⟩) fun Γ v H' _ a _ b c => ⟨a, b, c⟩) tr_nil
/-! ### table_of -/
abbrev sTableOf : Stmt := top 55
abbrev nmTo : List Str := ["_law_row", "_law_columns", "_law_left", "_law_column", "_law_size", "_law_rules", "_law_at", "_law_more", "_law_both"]
theorem scTableOf : FnScope nmTo ["_law_row"] (defScope sTableOf) := ⟨rfl, rfl, rfl, by decide +kernel, rfl, by decide +kernel, by decide +kernel⟩
def RtableOf (K : PySem.W.Frag) : List Dc → Dc → Prop := fun ds d => ds = [] ∧ d = TabD K
theorem dnx_table_of (F : FnP K "_law_table_of" "_law_table_of" sTableOf f fd) (hm : mg "_law_table_of" = some (.ref f)) (T : Fx K mg cG cT) (d_taken : DnX P w K mg base "_law_taken" 1 (Rtaken K)) : DnX P w K mg base "_law_table_of" 2 (RtableOf K) := by
  refine dnx_of F hm scTableOf (fun ds d ⟨h, _⟩ => by rw [h]; rfl) (fun _ _ _ _ _ _ us hl => match us, hl with | [_], _ => rfl) ?_
  rintro cdv A' outer s0 H E hr R ds d ⟨rfl, rfl⟩
  refine tr_cons (tx_parL (i := 1) (j := 2) rfl scTableOf.nd rfl rfl (by decide) rfl rfl (px_of pv_int) (fun H H' v h => by cases (show Dp K H v (.int 10) from h); exact .int 10) (by show 1 < 9; decide) rfl) ?_
  refine tr_cons (tx_for (j := 3) (lo := 1) (hi := 5) (fun i Γ σ H => ∃ cs : List Int, CsOk i cs ∧ AR K R [some (Vl (.ref R.p)), none, some (It' K (10 - cs.sum)), none, none, none, none, none, none] (some (1, cs.map .int)) Γ σ H)
    (fun i Γ σ H => ∃ cs : List Int, CsOk i cs ∧ AR K R [some (Vl (.ref R.p)), none, some (It' K (10 - cs.sum)), some (It' K (0 + (i : Int))), none, none, none, none, none] (some (1, cs.map .int)) Γ σ H) PassesOwn.never rfl (by rfl) T.nrange (px_op op_add (px_of pv_int) (px_call d_taken (hr.mono (by decide)) (by rfl) (pv_var (pv 0) rfl) (pxa_cons (px_of pv_int) pxa_nil) (tk_of (by decide))) rd_addRg) (fun H v ⟨n, h1, h2, h3⟩ => ⟨n, by omega, by omega, h3⟩) (by decide)
    (pg_name (i := 3) scTableOf.nd rfl (Or.inl rfl)) (fun Γ σ H p => ⟨[], ⟨Nat.le_refl _, fun h => absurd h (by decide), by simp, by decide⟩, p⟩) (fun i Γ σ H _ ⟨cs, h1, h2⟩ => ⟨cs, h1, ar_put 3 _ (by simp [slotOf]) h2⟩) (fun i hi => ?_)) ?_
  · refine tr_ex fun cs => tr_whenw fun hcs => ?_
    refine tr_cons (tx_set (i := 4) (d := Rg K (1 + 0) (1 + 9)) scTableOf.nd rfl (Or.inl rfl) (px_op op_add (px_of pv_int) (px_call d_taken (hr.mono (by decide)) (by rfl) (pv_var (pv 0) rfl) (pxa_cons (px_ix ix_list (px_of (pv_lst (ds := [.int 2, .int 4, .int 9, .int 3]) (pva_cons pv_int (pva_cons pv_int (pva_cons pv_int (pva_cons pv_int pva_nil)))))) (px_call d_taken (hr.mono (by decide)) (by rfl) (pv_var (pv 0) rfl) (pxa_cons (px_of pv_int) pxa_nil) (tk_of (by decide))) (rd_ixRg (ns := [2, 4, 9, 3]) (lo := 2) (hi := 10) (by decide) (by decide)) (fun _ _ => rfl)) pxa_nil) (tk_rg (by decide))) rd_addRg) (by simp [slotOf])) ?_
    refine ar_open 4 (f := fun n : Int => It' K n) (φ := fun n => 1 ≤ n ∧ n ≤ 9) rfl (fun H v ⟨n, h1, h2, h3⟩ => ⟨n, ⟨by omega, by omega⟩, by rw [h3]; exact .int n⟩) fun size hsz => ?_
    refine tr_cons (Mid := fun Γ σ H => RowG K R Γ ∧ ∃ cs' : List Int, CsOk (i + 1) cs' ∧ A K [some (Vl (.ref R.p)), none, some (It' K (10 - cs'.sum)), none, none, none, none, none, none] (some (1, cs'.map .int)) Γ σ H) (ar1 (t_if (pvt_cmp op_le (pv_var (pv 4) rfl) (pv_var (pv 2) rfl) (rd_I0 fun _ => .bl _) (nomark _)) (fun hk => ?_) fun hk => ?_)) (tr_post tr_nil fun Γ σ H ⟨g, cs', h1, h2⟩ => ⟨cs', h1, g, h2⟩)
    · have hle : size ≤ 10 - cs.sum := of_decide_eq_true hk
      have hsum : (cs ++ [size]).sum = cs.sum + size := by rw [PL.sum_app]; simp
      refine tr_cons (t_append (dd := .int size) (pe_bm PySem.F.plainAttrs_list PySem.F.slot_list_append PySem.F.type_list_append mt_append (pv 1) (pva_cons (pv_var (pv 4) rfl) pva_nil)) (by rw [List.length_map]; have := hcs.1; omega)) ?_
      refine tr_cons (t_set (i := 2) scTableOf.nd rfl (Or.inl rfl) (pv_op op_sub (pv_var (pv 2) rfl) (pv_var (pv 4) rfl) (rd_I0 fun _ => .int _)) (by simp [slotOf])) ?_
      refine tr_post tr_nil fun Γ σ H p => ⟨cs ++ [size], ⟨by have := hcs.1; simp; omega, fun _ => by simp, fun x hx => ?_, by rw [hsum]; omega⟩, ?_⟩
      · rcases List.mem_append.mp hx with h | h
        · exact hcs.2.2.1 x h
        · rw [List.mem_singleton.mp h]
          exact hsz
      · rw [hsum, show (10 : Int) - (cs.sum + size) = 10 - cs.sum - size by omega, List.map_append]
        exact (p.drop (i := 3)).drop (i := 4)
    · have hle : ¬ size ≤ 10 - cs.sum := of_decide_eq_false hk
      refine tr_post tr_nil fun Γ σ H p => ⟨cs, ⟨by have := hcs.1; omega, fun _ => ?_, hcs.2.2⟩, (p.drop (i := 3)).drop (i := 4)⟩
      cases cs with
      | nil =>
        simp at hle
        omega
      | cons _ _ => simp
  refine tr_ex fun n => tr_whenw fun hn => tr_ex fun cs => tr_whenw fun hcs => ?_
  refine tr_pre (P := AR K R [some (Vl (.ref R.p)), some (Ls K (cs.map .int)), some (It' K (10 - cs.sum)), none, none, none, none, none, none] none) ?_ fun Γ σ H p => ar_freeze p
  have hn1 : 1 ≤ cs.length ∧ cs.length ≤ 5 := by
    have h1 := hcs.2.1 (by omega)
    have h2 := hcs.1
    omega
  refine tr_cons (ar1 (t_new (i := 5) scTableOf.nd rfl (Or.inl rfl) (by show 5 < 9; decide) (hρ := rfl))) ?_
  refine tr_cons (tx_for (o := some (5, [])) (R := R) (ρ := [some (Vl (.ref R.p)), some (Ls K (cs.map .int)), some (It' K (10 - cs.sum)), none, none, none, none, none, none]) (j := 6) (lo := (cs.length : Int) - 1) (hi := (cs.length : Int) - 1) (fun i Γ σ H => ∃ rs : List (Int × Int), RsOk cs i rs ∧ AR K R [some (Vl (.ref R.p)), some (Ls K (cs.map .int)), some (It' K (10 - cs.sum)), none, none, none, none, none, none] (some (5, rs.map eP)) Γ σ H)
    (fun i Γ σ H => ∃ rs : List (Int × Int), RsOk cs i rs ∧ AR K R [some (Vl (.ref R.p)), some (Ls K (cs.map .int)), some (It' K (10 - cs.sum)), none, none, none, some (It' K (0 + (i : Int))), none, none] (some (5, rs.map eP)) Γ σ H) PassesOwn.never rfl (by rfl) T.nrange (px_of (pv_op op_sub (pv_callB call_len_seq (by rfl) T.nlen (by decide +kernel) (pva_cons (pv_var (pv 1) rfl) pva_nil) rc_lenL) pv_int (rd_I0 fun _ => .int _))) (fun H v hv => ?_) (by omega)
    (pg_name (i := 6) scTableOf.nd rfl (Or.inl rfl)) (fun Γ σ H p => ⟨[], ⟨rfl, fun j hj => absurd hj (Nat.not_lt_zero _)⟩, p⟩) (fun i Γ σ H _ ⟨rs, h1, h2⟩ => ⟨rs, h1, ar_put 6 _ (by simp [slotOf]) h2⟩) (fun i hi => ?_)) ?_
  · cases (show Dp K H v (.int _) from hv)
    exact ⟨_, by rw [List.length_map]; exact Int.le_refl _, by rw [List.length_map]; exact Int.le_refl _, rfl⟩
  · refine tr_ex fun rs => tr_whenw fun hrs => ?_
    have g1 := cs_g hcs (j := i) (by omega)
    have g2 := cs_g hcs (j := i + 1) (by omega)
    have z1 : (0 + (i : Int)).toNat = i := by omega
    have z2 : (0 + (i : Int) + 1).toNat = i + 1 := by omega
    refine tr_cons (ar1 (t_set (i := 7) (d := It' K (PL.g cs i - PL.g cs (i + 1))) scTableOf.nd rfl (Or.inl rfl) (pv_is (pv_op op_sub (pv_ix ix_list (pv_var (pv 1) rfl) (pv_var (pv 6) rfl) (rd_ixL (by omega) (gI (by omega) (by omega))) (fun _ _ => rfl)) (pv_ix ix_list (pv_var (pv 1) rfl) (pv_op op_add (pv_var (pv 6) rfl) pv_int (rd_I0 fun _ => .int _)) (rd_ixL (by omega) (gI (by omega) (by omega))) (fun _ _ => rfl)) (rd_I0 fun _ => .int _)) (by rw [z1, z2]; rfl)) (by simp [slotOf]))) ?_
    refine tr_cons (tx_set (i := 8) scTableOf.nd rfl (Or.inl rfl) (px_lst2 (pxa_cons (px_op op_add (px_of (pv_callB (call_max2 rfl) (by rfl) T.nmax (by decide +kernel) (pva_cons pv_int (pva_cons (pv_var (pv 7) rfl) pva_nil)) rc_max2)) (px_call d_taken (hr.mono (by decide)) (by rfl) (pv_var (pv 0) rfl) (pxa_cons (px_of pv_int) pxa_nil) (tk_of (by decide))) rd_addRg) (pxa_cons (px_op op_add (px_of (pv_callB (call_max2 rfl) (by rfl) T.nmax (by decide +kernel) (pva_cons pv_int (pva_cons (pv_op op_sub pv_int (pv_var (pv 7) rfl) (rd_I0 fun _ => .int _)) pva_nil)) rc_max2)) (px_call d_taken (hr.mono (by decide)) (by rfl) (pv_var (pv 0) rfl) (pxa_cons (px_of pv_int) pxa_nil) (tk_of (by decide))) rd_addRg) pxa_nil))) (by simp [slotOf])) ?_
    refine ar_open 8 (f := fun z : Int × Int => Ls K [.int z.1, .int z.2]) (φ := fun z => (max 1 (PL.g cs i - PL.g cs (i + 1)) + 0 ≤ z.1 ∧ z.1 < max 1 (PL.g cs i - PL.g cs (i + 1)) + 3 ∧ max 1 (0 - (PL.g cs i - PL.g cs (i + 1))) + 0 ≤ z.2 ∧ z.2 < max 1 (0 - (PL.g cs i - PL.g cs (i + 1))) + 3)) rfl (fun H v h => h) fun z hz => ?_
    refine tr_cons (ar1 (t_append (dd := eP (min 9 z.1, min 9 z.2)) (pe_bm PySem.F.plainAttrs_list PySem.F.slot_list_append PySem.F.type_list_append mt_append (pv 5) (pva_cons (pv_tup (ds := [.int (min 9 z.1), .int (min 9 z.2)]) (pva_cons (pv_callB (call_min2 rfl) (by rfl) T.nmin (by decide +kernel) (pva_cons pv_int (pva_cons (pv_ix ix_list (pv_var (pv 8) rfl) pv_int (rd_ixL (by decide) (rfl)) (fun _ _ => rfl)) pva_nil)) rc_min2) (pva_cons (pv_callB (call_min2 rfl) (by rfl) T.nmin (by decide +kernel) (pva_cons pv_int (pva_cons (pv_ix ix_list (pv_var (pv 8) rfl) pv_int (rd_ixL (by decide) (rfl)) (fun _ _ => rfl)) pva_nil)) rc_min2) pva_nil))) pva_nil)) (by rw [List.length_map]; have := hrs.1; omega))) ?_
    refine tr_post tr_nil fun Γ σ H p => ⟨rs ++ [(min 9 z.1, min 9 z.2)], rs_app hrs (by simp only; omega), ?_⟩
    rw [List.map_append]
    exact ar_drop 8 (ar_drop 7 (ar_drop 6 p))
  · refine tr_ex fun n2 => tr_whenw fun hn2 => tr_ex fun rs => tr_whenw fun hrs => ?_
    refine tr_pre ?_ fun Γ σ H p => ar_freeze p
    have V : PL.Val cs rs := rs_val hcs (by omega) (by rw [show cs.length - 1 = n2.toNat by omega]; exact hrs)
    refine tr_cons (tx_ret (d := TabD K) (px_conv (px_of (pv_tup (ds := [eI cs, eRs rs]) (pva_cons (pv_callTy call_tuple_of (by rfl) T.ntuple (by decide +kernel) (pva_cons (pv_var (pv 1) rfl) pva_nil) rc_tuple) (pva_cons (pv_callTy call_tuple_of (by rfl) T.ntuple (by decide +kernel) (pva_cons (pv_var (pv 5) rfl) pva_nil) rc_tuple) pva_nil)))) fun H v h => ⟨(cs, rs), V, h⟩) fun Γ v H' _ a _ b c => ⟨a, b, c⟩) tr_nil
end
end PX

namespace PX
open PySem PySem.Spec PyProof.Rows L2
/-! ### max of a tuple; isinstance by two classes -/
theorem maxOf_top (x : Int) : ∀ xs : List Int, (PySem.W.maxOf x xs ∈ x :: xs) ∧ ∀ y ∈ x :: xs, y ≤ PySem.W.maxOf x xs := fun xs => by
  unfold PySem.W.maxOf
  induction xs generalizing x with
  | nil => exact ⟨List.mem_singleton.mpr rfl, fun y hy => by rw [List.mem_singleton.mp hy]; exact Int.le_refl _⟩
  | cons z zs ih =>
    rw [List.foldl_cons]
    have e : (PySem.W.DatumOrd.lt x z) = decide (x < z) := rfl
    rw [e]
    by_cases h : x < z
    · rw [if_pos (decide_eq_true h)]
      obtain ⟨h1, h2⟩ := ih z
      refine ⟨List.mem_cons_of_mem _ h1, fun y hy => ?_⟩
      rcases List.mem_cons.mp hy with rfl | hy
      · have := h2 z List.mem_cons_self
        omega
      · exact h2 y hy
    · rw [if_neg (by simpa using h)]
      obtain ⟨h1, h2⟩ := ih x
      refine ⟨?_, fun y hy => ?_⟩
      · rcases List.mem_cons.mp h1 with q | q
        · rw [q]
          exact List.mem_cons_self
        · exact List.mem_cons_of_mem _ (List.mem_cons_of_mem _ q)
      · rcases List.mem_cons.mp hy with rfl | hy
        · exact h2 y List.mem_cons_self
        · rcases List.mem_cons.mp hy with rfl | hy
          · have := h2 x List.mem_cons_self
            omega
          · exact h2 y (List.mem_cons_of_mem _ hy)
def rMaxT (K : PySem.W.Frag) : List V → Hp → VK → Prop := fun vs H Q => ∃ (a : Addr) (ns : List Int), vs = [V.ref a] ∧ SqT K H a (ns.map V.int) ∧ 0 < ns.length ∧ ∀ m, m ∈ ns → (∀ y, y ∈ ns → y ≤ m) → Q (.int m) H
theorem cr_maxT {X : Cx} (hc : X.calm = true) (hu : X.A.units + 200 < cLine) : CallR X (.builtin "max") (rMaxT X.K) := by
  intro pins s σ H vs us Q I r h
  obtain ⟨a, ns, rfl, hs, hne, q⟩ := h
  obtain ⟨its, rv, hl, _⟩ := I.tuple hs
  rw [Vals.ref1 r]
  cases ns with
  | nil => exact absurd hne (by decide)
  | cons x xs =>
    refine PySem.W.max_tuple_datum (α := Int) (x := x) (xs := xs) (I.ok.hd hc) hl (PySem.W.HoldAll.of_ints rv.ints) (by show X.A.units + 1 + 0 < cLine; omega) fun i v h' tk hi hv hk => ?_
    obtain ⟨as, hr⟩ := hv
    obtain ⟨m1, m2⟩ := maxOf_top x xs
    generalize PySem.W.maxOf x xs = m at hr m1 m2
    have hr' : Reads h' v (.int m) as := hr
    cases hr'
    exact ⟨.int m, H, I.kept hk, ⟨_, rfl⟩, q m m1 m2⟩
theorem rc_maxT {K : PySem.W.Frag} {ns : List Int} (hn : ns ≠ []) : RC (rMaxT K) [dat K (.tuple (ns.map .int))] (It' K (PL.maxL ns)) := fun M H vs Q m hv q => by
  cases hv with
  | cons h t =>
    cases t
    cases (show Dp K _ _ (.tuple (ns.map .int)) from h) with
    | @tup a xs _ h1 h2 =>
      have e := dps_ints h2
      subst e
      refine ⟨a, ns, rfl, same_t (res_le M H) h1, List.length_pos_iff.mpr hn, fun m hm hb => q _ H (Same.refl H) ?_⟩
      rw [PL.maxL_eq hm hb]
      exact .int m
def Tc (cs : List V) : Dc := ⟨fun H v => ∃ a, v = .ref a ∧ H a = some (.tup cs), fun s ⟨a, h1, h2⟩ => ⟨a, h1, s _ _ h2⟩⟩
theorem pv_tyT2 {X : Cx} {ρ : DE} {es : List Expr} {c d : V} {x1 : _} {pos : Pos} (h : PVA X es ρ [Vl c, Vl d]) : PV X (.Tuple es x1 pos) ρ (Tc [c, d]) :=
  pe_weak (pe_tup h) fun σ H Q ⟨M, m, hh, q⟩ => ⟨M, m, hh, fun vs H1 s1 dvs => by
    cases dvs with
    | cons d1 t =>
      cases t with
      | cons d2 t =>
        cases t
        cases (show _ = c from d1)
        cases (show _ = d from d2)
        exact ⟨by show 2 ≤ sizeLine; decide, fun p hp => q _ _ (s1.trans (same_upd hp)) ⟨p, rfl, res_upd_at ((m.mono s1).new hp)⟩⟩⟩
theorem rc_isiT2 {K : PySem.W.Frag} {d : Dc} {t : Value} {b : Bool} (ty : ∀ (M : Addr → Bool) H v, d.p (res M H) v → TyX K H v t) (e : PySem.W.kitAny K t [.type "tuple", .type "list"] = some b) : RC (rIsiT K) [d, Tc [.ty "tuple", .ty "list"]] (Bo K b) := fun M H vs Q m hv q => by
  cases hv with
  | cons h t =>
    cases t with
    | cons h2 t =>
      cases t
      obtain ⟨a, rfl, h3⟩ := h2
      exact ⟨_, a, _, _, _, b, rfl, res_le _ _ _ _ h3, .cons (.ty _) (.cons (.ty _) .nil), ty M H _ h, e, q _ H (Same.refl H) (.bl _)⟩
theorem kit2_int {K : PySem.W.Frag} : PySem.W.kitAny K (.type "int") [.type "tuple", .type "list"] = some false := kitAny_cons (b := false) (kit_ty (by decide +kernel)) (fun _ => kitAny_cons (b := false) (kit_ty (by decide +kernel)) (fun _ => rfl) (fun h => nomatch h)) (fun h => nomatch h)
theorem kit2_tup {K : PySem.W.Frag} : PySem.W.kitAny K (.type "tuple") [.type "tuple", .type "list"] = some true := kitAny_cons (b := true) (kit_ty (by decide +kernel)) (fun h => nomatch h) (fun _ => rfl)
section
variable {P : Program} {w : World} {K : PySem.W.Frag} {mg : Str → Option Value} {base : Heap} {cG cT f : Addr} {fd : FuncData}
/-! ### blocks -/
theorem cells_max {cs : List Int} {m : Nat} (h : ∀ i, i < cs.length → PL.g cs i ≤ m) (hm : m ≤ 10) : PL.cellsN cs m = PL.cells cs := by
  have h1 : ∀ k, PL.cellsN cs (m + k) = PL.cellsN cs m := fun k => by
    induction k with
    | zero => rfl
    | succ k ih =>
      rw [← Nat.add_assoc, cellsN_succ, ih]
      have : PL.rowC cs (m + k + 1) = [] := by
        unfold PL.rowC
        rw [List.filter_eq_nil_iff.mpr ?_]
        · rfl
        · intro c hc
          have := h c (List.mem_range.mp hc)
          simp only [decide_eq_true_eq]
          omega
      rw [this, List.append_nil]
  have := h1 (10 - m)
  rw [show m + (10 - m) = 10 by omega] at this
  exact this.symm
abbrev sBlocks : Stmt := top 56
theorem scBlocks : FnScope ["_law_columns", "_law_found", "_law_depth", "_law_column"] ["_law_columns"] (defScope sBlocks) := ⟨rfl, rfl, rfl, by decide +kernel, rfl, by decide +kernel, by decide +kernel⟩
def Rblocks (K : PySem.W.Frag) : List Dc → Dc → Prop := fun ds d => ∃ cs rs, PL.Val cs rs ∧ ds = [dat K (eI cs)] ∧ d = Ls K ((PL.cells cs).map eP)
theorem dn_blocks (F : FnP K "_law_blocks" "_law_blocks" sBlocks f fd) (hm : mg "_law_blocks" = some (.ref f)) (T : Fx K mg cG cT) : Dn P w K mg base "_law_blocks" 1 (Rblocks K) := by
  refine dn_of F hm scBlocks (fun ds d ⟨_, _, _, h, _⟩ => by rw [h]; rfl) (fun _ _ _ _ _ _ us hl => match us, hl with | [_], _ => rfl) ?_
  rintro cdv A' outer s H E hr ds d ⟨cs, rs, V, rfl, rfl⟩
  have v1 := V.pos
  have v2 := V.few
  have hne : cs ≠ [] := fun h => by rw [h] at v1; exact absurd v1 (by decide)
  have hmx := PL.maxL_spec hne
  generalize hmm : PL.maxL cs = mx at hmx
  have hb : 1 ≤ mx ∧ mx ≤ 10 := by
    obtain ⟨i, hi, e⟩ := List.mem_iff_getElem.mp hmx.1
    have := V.sz i hi
    rw [← g_get hi, e] at this
    exact this
  have hn : (mx + 1 - 1).toNat = mx.toNat := by omega
  refine tr_cons (t_set (i := 1) (d := Ls K ((PL.cellsN cs 0).map eP)) scBlocks.nd rfl (Or.inl rfl) (pv_lst (ds := []) pva_nil) (by simp [slotOf])) ?_
  refine tr_cons (t_for (js := [2]) (fun i => [some (dat K (eI cs)), some (Ls K ((PL.cellsN cs i).map eP)), none, none]) (fun i => [some (dat K (eI cs)), some (Ls K ((PL.cellsN cs i).map eP)), some (It' K (1 + (i : Int))), none]) (fun _ => none) PassesOwn.never rfl
    (it_range2 (by rfl) T.nrange pv_int (pv_is (pv_op op_add (pv_callB (cr_maxT rfl (hr.un)) (by rfl) T.nmax (by decide +kernel) (pva_cons (pv_var (pv 0) rfl) pva_nil) (rc_maxT (hne))) pv_int (rd_I0 fun _ => .int _)) (by rw [hmm]))) (pg_name (i := 2) scBlocks.nd rfl (Or.inr rfl)) (fun i d hd => ?_) (fun _ _ _ h => nomatch h) (fun i hi => ?_) (fun _ _ _ h => h) (rd_up _)) ?_
  · obtain ⟨hi, rfl⟩ := els_map hd
    simp only [List.getElem_range]
    exact tg_name 2
  · have hi' : i < mx.toNat := by simpa [hn] using hi
    have hz : (1 + (i : Int)) = ((i + 1 : Nat) : Int) := by omega
    have hl := cellsN_len cs i
    have hrl : (PL.rowC cs (i + 1)).length ≤ cs.length := by
      unfold PL.rowC
      rw [List.length_map]
      exact Nat.le_trans (List.length_filter_le _ _) (by simp)
    have hm10 : i * cs.length ≤ 50 := Nat.le_trans (Nat.mul_le_mul (show i ≤ 10 by omega) v2) (by decide)
    have e1 : (PL.cellsN cs i).map eP ++ ((List.range ((((cs.map PyData.int).length : Nat) : Int)).toNat).filter fun c => decide (1 + (i : Int) ≤ PL.g cs c)).map (fun (c : Nat) => eP ((0 + (c : Int)), 1 + (i : Int))) = (PL.cellsN cs (i + 1)).map eP := by
      rw [cellsN_succ, List.map_append, hz, List.length_map, Int.toNat_natCast]
      congr 1
      unfold PL.rowC
      rw [List.map_map]
      refine List.map_congr_left fun c _ => ?_
      rw [Int.zero_add]
      rfl
    refine tr_cons (t_set (i := 1) (d := Ls K ((PL.cellsN cs (i + 1)).map eP)) scBlocks.nd rfl (Or.inl rfl) (pv_is (pv_op op_cat (pv_var (pv 1) rfl) (pv_lc [("_law_column", 3)] (List.range ((((cs.map PyData.int).length : Nat) : Int)).toNat) (fun (c : Nat) => It' K (0 + (c : Int))) (fun c => [some (dat K (eI cs)), some (Ls K ((PL.cellsN cs i).map eP)), some (It' K (1 + (i : Int))), some (It' K (0 + (c : Int)))])
      (fun c => decide (1 + (i : Int) ≤ PL.g cs c)) (fun (c : Nat) => eP ((0 + (c : Int)), 1 + (i : Int))) rfl scBlocks.nd (it_range1 (by rfl) T.nrange (pv_callB call_len_seq (by rfl) T.nlen (by decide +kernel) (pva_cons (pv_var (pv 0) rfl) pva_nil) rc_lenT) (by rw [List.length_map]; omega)) (blkOk_by (N := ["_law_columns", "_law_found", "_law_depth", "_law_column"]) (sc := defScope sBlocks) (by decide +kernel)) (by intro j hj d; simp at hj; subst hj; simp) (by simp; omega)
      (fun _ _ _ _ _ => pg_name (i := 3) scBlocks.nd rfl (Or.inl rfl)) (fun c _ => tg_name 3) (fun c hc _ _ _ _ _ => ?_) (fun c _ _ _ _ _ _ _ => pv_tup (ds := [.int (0 + (c : Int)), .int (1 + (i : Int))]) (pva_cons (pv_var (pv 3) rfl) (pva_cons (pv_var (pv 2) rfl) pva_nil)))) (rd_cat ?_)) (congrArg (Ls K) e1)) (by simp [slotOf])) ?_
    · have hc' : c < cs.length := by
        have := List.mem_range.mp hc
        rw [List.length_map] at this
        omega
      have hcz : (0 + (c : Int)).toNat = c := by omega
      exact pvts_one (pvt_cmp op_le (pv_var (pv 2) rfl) (pv_is (pv_ix ix_tup (pv_var (pv 0) rfl) (pv_var (pv 3) rfl) (rd_ixT (show (0 : Int) ≤ 0 + (c : Int) by omega) (gI (by omega) (by omega))) (fun _ _ => rfl)) (by rw [hcz]; rfl)) (rd_I0 fun _ => .bl _) (nomark _))
    · have h3 := congrArg List.length e1
      simp only [List.length_append, List.length_map] at h3
      have h4 := cellsN_len cs (i + 1)
      have hm11 : (i + 1) * cs.length ≤ 50 := Nat.le_trans (Nat.mul_le_mul (show i + 1 ≤ 10 by omega) v2) (by decide)
      rw [List.length_map, List.length_map]
      simp only [List.length_map] at *
      omega
    · exact tr_post tr_nil fun Γ σ H p => p.drop (i := 2)
  · refine tr_cons (t_ret (pv_is (pv_var (pv 1) rfl) ?_) (rd_ok _)) tr_nil
    have e2 : ∀ K', ((List.range (mx + 1 - 1).toNat).map fun (k : Nat) => It' K' (1 + (k : Int))).length = mx.toNat := fun _ => by simp [hn]
    have e3 : PL.cellsN cs mx.toNat = PL.cells cs := cells_max (fun i hi => by
      have := hmx.2 cs[i] (List.getElem_mem hi)
      rw [g_get hi] at this
      omega) (by omega)
    rw [e2, e3]
end
end PX

namespace PX
open PySem PySem.Spec PyProof.Rows L2
section
variable {P : Program} {w : World} {K : PySem.W.Frag} {mg : Str → Option Value} {base : Heap} {cG cT f : Addr} {fd : FuncData}
/-! ### depths -/
abbrev sDepths : Stmt := top 58
abbrev nmDe : List Str := ["_law_columns", "_law_found", "_law_size", "_law_longer", "_law_row", "_law_depth"]
theorem scDepths : FnScope nmDe ["_law_columns"] (defScope sDepths) := ⟨rfl, rfl, rfl, by decide +kernel, rfl, by decide +kernel, by decide +kernel⟩
def Rdepths (K : PySem.W.Frag) : List Dc → Dc → Prop := fun ds d => ∃ cs rs, PL.Val cs rs ∧ ds = [dat K (eI cs)] ∧ d = Ls K ((PL.depths cs).map eI)
theorem dn_depths (F : FnP K "_law_depths" "_law_depths" sDepths f fd) (hm : mg "_law_depths" = some (.ref f)) (T : Fx K mg cG cT) : Dn P w K mg base "_law_depths" 1 (Rdepths K) := by
  refine dn_of F hm scDepths (fun ds d ⟨_, _, _, h, _⟩ => by rw [h]; rfl) (fun _ _ _ _ _ _ us hl => match us, hl with | [_], _ => rfl) ?_
  rintro cdv A' outer s H E hr ds d ⟨cs, rs, V, rfl, rfl⟩
  have v2 := V.few
  refine tr_cons (t_set (i := 1) (d := Ls K ((PL.depthsN cs 0).map eI)) scDepths.nd rfl (Or.inl rfl) (pv_lst (ds := [.tuple []]) (pva_cons (pv_tup (ds := []) pva_nil) pva_nil)) (by simp [slotOf])) ?_
  refine tr_cons (t_for (js := [2]) (fun i => [some (dat K (eI cs)), some (Ls K ((PL.depthsN cs i).map eI)), none, none, none, none]) (fun i => [some (dat K (eI cs)), some (Ls K ((PL.depthsN cs i).map eI)), some (It' K (PL.g cs i)), none, none, none]) (fun _ => none) PassesOwn.never rfl
    (it_tupE (pv_var (pv 0) rfl)) (pg_name (i := 2) scDepths.nd rfl (Or.inl rfl)) (fun i d hd => ?_) (fun _ _ _ h => nomatch h) (fun i hi => ?_) (fun _ _ _ h => h) (rd_up _)) ?_
  · obtain ⟨hi, rfl⟩ := els_map hd
    rw [g_get hi]
    exact tg_name 2
  · have hi' : i < cs.length := by simpa using hi
    have sz := V.sz i hi'
    have ps := (prof_small V hi').2
    refine tr_cons (t_set (i := 3) (d := Ls K ((((PL.depthsN cs i).take 0).flatMap (growF cs i)).map eI)) scDepths.nd rfl (Or.inl rfl) (pv_lst (ds := []) pva_nil) (by simp [slotOf])) ?_
    refine tr_cons (t_for (js := [4]) (fun j => [some (dat K (eI cs)), some (Ls K ((PL.depthsN cs i).map eI)), some (It' K (PL.g cs i)), some (Ls K ((((PL.depthsN cs i).take j).flatMap (growF cs i)).map eI)), none, none]) (fun j => [some (dat K (eI cs)), some (Ls K ((PL.depthsN cs i).map eI)), some (It' K (PL.g cs i)), some (Ls K ((((PL.depthsN cs i).take j).flatMap (growF cs i)).map eI)), some (dat K (eI ((PL.depthsN cs i).getD j []))), none]) (fun _ => none) PassesOwn.never rfl
      (it_listE (pv_var (pv 1) rfl)) (pg_name (i := 4) scDepths.nd rfl (Or.inr rfl)) (fun j d hd => ?_) (fun _ _ _ h => nomatch h) (fun j hj => ?_) (fun _ _ _ h => h) (rd_up _)) ?_
    · obtain ⟨hj, rfl⟩ := els_map hd
      rw [ww_get hj]
      exact tg_name 4
    · have hj' : j < (PL.depthsN cs i).length := by simpa using hj
      have erow := ww_get hj'
      have hrow : ((PL.depthsN cs i).getD j []).length = i := by
        rw [← erow]
        exact (PL.mem_depthsN.mp (List.getElem_mem hj')).1
      generalize (PL.depthsN cs i).getD j [] = row at erow hrow
      have hgl : (growF cs i row).length ≤ 11 := by
        rw [List.length_map, PL.upto_len]
        omega
      have e1 : ((List.range (PL.g cs i + 1).toNat).filter fun _ => true).map (fun k => eI (row ++ [(0 + (k : Nat) : Int)])) = (growF cs i row).map eI := by
        rw [filt_true]
        unfold growF PL.upto
        rw [List.map_map, List.map_map]
        refine List.map_congr_left fun k _ => ?_
        rw [Int.zero_add]
        rfl
      have e2 : (((PL.depthsN cs i).take j).flatMap (growF cs i)).map eI ++ ((List.range (PL.g cs i + 1).toNat).filter fun _ => true).map (fun k => eI (row ++ [(0 + (k : Nat) : Int)])) = (((PL.depthsN cs i).take (j + 1)).flatMap (growF cs i)).map eI := by
        rw [e1, flat_take hj', List.map_append, erow]
      have h1 : (((PL.depthsN cs i).take j).flatMap (growF cs i)).length ≤ ((PL.depthsN cs i).take j).length * 11 := PL.flat_le fun x _ => by
        rw [List.length_map, PL.upto_len]
        omega
      have h2 : ((PL.depthsN cs i).take j).length ≤ 14641 := by
        rw [List.length_take]
        omega
      have h4 := Nat.mul_le_mul_right 11 h2
      refine tr_cons (t_set (i := 3) (d := Ls K ((((PL.depthsN cs i).take (j + 1)).flatMap (growF cs i)).map eI)) scDepths.nd rfl (Or.inl rfl) (pv_is (pv_op op_cat (pv_var (pv 3) rfl) (pv_lc [("_law_depth", 5)] (List.range (PL.g cs i + 1).toNat) (fun k => It' K (0 + (k : Int))) (fun k => [some (dat K (eI cs)), some (Ls K ((PL.depthsN cs i).map eI)), some (It' K (PL.g cs i)), some (Ls K ((((PL.depthsN cs i).take j).flatMap (growF cs i)).map eI)), some (dat K (eI row)), some (It' K (0 + (k : Int)))]) (fun _ => true) (fun k => eI (row ++ [(0 + (k : Nat) : Int)])) rfl scDepths.nd
        (it_range1 (by rfl) T.nrange (pv_op op_add (pv_var (pv 2) rfl) pv_int (rd_I0 fun _ => .int _))) (blkOk_by (N := nmDe) (sc := defScope sDepths) (by decide +kernel)) (by intro j hj d; simp at hj; subst hj; simp) (by simp; omega) (fun _ _ _ _ _ => pg_name (i := 5) scDepths.nd rfl (Or.inl rfl)) (fun c _ => tg_name 5) (fun c _ _ _ _ _ _ => pvts_nil)
        (fun k _ _ _ _ _ _ _ => pv_is (pv_op op_catA (pv_var (pv 4) rfl) (pv_tup (ds := [.int (0 + (k : Int))]) (pva_cons (pv_var (pv 5) rfl) pva_nil)) (rd_catT (by rw [List.length_map]; simp; omega))) (by show dat K (.tuple (row.map PyData.int ++ [PyData.int _])) = dat K (.tuple ((row ++ [_]).map PyData.int)); rw [List.map_append]; rfl))) (rd_cat ?_)) (congrArg (Ls K) e2)) (by simp [slotOf])) ?_
      · rw [e1, List.length_map, List.length_map]
        exact Nat.le_trans (Nat.add_le_add (Nat.le_trans h1 h4) hgl) (by decide)
      · exact tr_post tr_nil fun Γ σ H p => p.drop (i := 4)
    · refine tr_cons (t_set (i := 1) (d := Ls K ((PL.depthsN cs (i + 1)).map eI)) scDepths.nd rfl (Or.inl rfl) (pv_is (pv_var (pv 3) rfl) ?_) (by simp [slotOf])) ?_
      · rw [List.length_map, List.take_length]
        rfl
      · exact tr_post tr_nil fun Γ σ H p => (p.drop (i := 2)).drop (i := 3)
  · refine tr_cons (t_ret (pv_is (pv_var (pv 1) rfl) ?_) (rd_ok _)) tr_nil
    rw [List.length_map]
    rfl
/-! ### lets, profiles -/
abbrev sLets : Stmt := top 59
abbrev nmLe : List Str := ["_law_rules", "_law_profile", "_law_at", "_law_more"]
theorem scLets : FnScope nmLe ["_law_rules", "_law_profile"] (defScope sLets) := ⟨rfl, rfl, rfl, by decide +kernel, rfl, by decide +kernel, by decide +kernel⟩
def Rlets (K : PySem.W.Frag) : List Dc → Dc → Prop := fun ds d => ∃ (p : List Int) (rs : List (Int × Int)), (rs.length + 1 ≤ p.length ∧ p.length ≤ 1000) ∧ ds = [dat K (eRs rs), dat K (eI p)] ∧ d = Bo K (PL.lets p rs)
theorem dn_lets (F : FnP K "_law_lets" "_law_lets" sLets f fd) (hm : mg "_law_lets" = some (.ref f)) (T : Fx K mg cG cT) : Dn P w K mg base "_law_lets" 1 (Rlets K) := by
  refine dn_of F hm scLets (fun ds d ⟨_, _, _, h, _⟩ => by rw [h]; rfl) (fun _ _ _ _ _ _ us hl => match us, hl with | [_, _], _ => rfl) ?_
  rintro cdv A' outer s H E hr ds d ⟨p, rs, ⟨hl, hl2⟩, rfl, rfl⟩
  have elsl : ∀ K', ((List.range (((rs.map eP).length : Nat) : Int).toNat).map fun (k : Nat) => It' K' (0 + (k : Int))).length = rs.length := fun _ => by simp
  refine tr_cons (t1_pre (t_for (o := none) (ρ := [some (dat K (eRs rs)), some (Wf (∀ j, j < 0 → stepAt p rs j = true) (dat K (eI p))), none, none]) (js := [2]) (fun i => [some (dat K (eRs rs)), some (Wf (∀ j, j < i → stepAt p rs j = true) (dat K (eI p))), none, none]) (fun i => [some (dat K (eRs rs)), some (Wf (∀ j, j < i → stepAt p rs j = true) (dat K (eI p))), some (It' K (0 + (i : Int))), none]) (fun _ => none) PassesOwn.never rfl
    (it_range1 (by rfl) T.nrange (pv_callB call_len_seq (by rfl) T.nlen (by decide +kernel) (pva_cons (pv_var (pv 0) rfl) pva_nil) rc_lenT) (by rw [List.length_map]; omega)) (pg_name (i := 2) scLets.nd rfl (Or.inl rfl)) (fun i d hd => ?_) (fun _ _ _ h => nomatch h) (fun i hi => ?_) (fun _ _ _ h => h) (rd_up _)) fun Γ σ H q => A.put (j := 1) (fun j hj => absurd hj (Nat.not_lt_zero _)) rfl q) ?_
  · obtain ⟨hi, rfl⟩ := els_map hd
    simp only [List.getElem_range]
    exact tg_name 2
  · rw [elsl] at hi
    refine tr_get 1 rfl fun hok => ?_
    have z1 : (0 + (i : Int)).toNat = i := by omega
    have z2 : (0 + (i : Int) + 1).toNat = i + 1 := by omega
    have hrs : (rs.map eP)[(0 + (i : Int)).toNat]? = some (eP (PL.r2 rs i)) := by
      have := rs_get (rs := rs) (i := 0 + (i : Int)) (by omega) (by omega)
      rw [z1] at this ⊢
      exact this
    refine tr_cons (t_set (i := 3) (d := It' K (PL.g p i - PL.g p (i + 1))) scLets.nd rfl (Or.inl rfl) (pv_is (pv_op op_sub (pv_ix ix_tup (pv_var (pv 1) rfl) (pv_var (pv 2) rfl) (rd_ixT (by omega) (gI (by omega) (by omega))) (fun _ _ => rfl)) (pv_ix ix_tup (pv_var (pv 1) rfl) (pv_op op_add (pv_var (pv 2) rfl) pv_int (rd_I0 fun _ => .int _)) (rd_ixT (by omega) (gI (by omega) (by omega))) (fun _ _ => rfl)) (rd_I0 fun _ => .int _)) (by rw [z1, z2]; rfl)) (by simp [slotOf])) ?_
    refine tr_cons (t_if (k := decide ((PL.r2 rs i).1 < PL.g p i - PL.g p (i + 1)) || decide ((PL.r2 rs i).2 < 0 - (PL.g p i - PL.g p (i + 1)))) ((pvw_or (pvt_cmp op_gt (pv_var (pv 3) rfl) (pv_ix ix_tup (pv_ix ix_tup (pv_var (pv 0) rfl) (pv_var (pv 2) rfl) (rd_ixT (by omega) (hrs)) (fun _ _ => rfl)) pv_int (rd_ixT (by decide) (rfl)) (fun _ _ => rfl)) (rd_I0 fun _ => .bl _) (nomark _)) (pw_when fun _ => (pvw_or1 (pvt_cmp op_gt (pv_op op_sub pv_int (pv_var (pv 3) rfl) (rd_I0 fun _ => .int _)) (pv_ix ix_tup (pv_ix ix_tup (pv_var (pv 0) rfl) (pv_var (pv 2) rfl) (rd_ixT (by omega) (hrs)) (fun _ _ => rfl)) pv_int (rd_ixT (by decide) (rfl)) (fun _ _ => rfl)) (rd_I0 fun _ => .bl _) (nomark _)))))).pt (fun hk => ?_) fun hk => ?_) tr_nil
    · have hs : stepAt p rs i = false := by
        show (decide _ && decide _) = false
        rw [Bool.or_eq_true, decide_eq_true_eq, decide_eq_true_eq] at hk
        rw [Bool.and_eq_false_iff, decide_eq_false_iff_not, decide_eq_false_iff_not]
        omega
      have hF : PL.lets p rs = false := by
        cases e : PL.lets p rs with
        | false => rfl
        | true =>
          unfold PL.lets PL.letsK at e
          rw [List.all_eq_true] at e
          have : stepAt p rs i = true := e i (List.mem_range.mpr hi)
          rw [hs] at this
          cases this
      exact tr_cons (t_ret (pv_is pv_bl (by rw [hF]; rfl)) (rd_ok _)) tr_nil
    · refine tr_post tr_nil fun Γ σ H q => ?_
      have hs : stepAt p rs i = true := by
        show (decide _ && decide _) = true
        rw [Bool.or_eq_false_iff, decide_eq_false_iff_not, decide_eq_false_iff_not] at hk
        rw [Bool.and_eq_true, decide_eq_true_eq, decide_eq_true_eq]
        omega
      exact A.put (j := 1) (fun j hj => by
        rcases Nat.lt_succ_iff_lt_or_eq.mp hj with h | h
        · exact hok j h
        · rw [h]
          exact hs) rfl ((q.drop (i := 2)).drop (i := 3))
  · refine tr_get 1 rfl fun hok => ?_
    have hT : PL.lets p rs = true := by
      unfold PL.lets PL.letsK
      rw [List.all_eq_true]
      intro j hj
      exact hok j (by rw [elsl]; exact List.mem_range.mp hj)
    exact tr_cons (t_ret (pv_is pv_bl (by rw [hT]; rfl)) (rd_ok _)) tr_nil
abbrev sProfiles : Stmt := top 60
abbrev nmPf : List Str := ["_law_columns", "_law_rules", "_law_row"]
theorem scProfiles : FnScope nmPf ["_law_columns", "_law_rules"] (defScope sProfiles) := ⟨rfl, rfl, rfl, by decide +kernel, rfl, by decide +kernel, by decide +kernel⟩
def Rprofiles (K : PySem.W.Frag) : List Dc → Dc → Prop := fun ds d => ∃ cs rs, PL.Val cs rs ∧ ds = [dat K (eI cs), dat K (eRs rs)] ∧ d = Ls K ((PL.profs cs rs).map eI)
theorem dn_profiles (F : FnP K "_law_profiles" "_law_profiles" sProfiles f fd) (hm : mg "_law_profiles" = some (.ref f)) (T : Fx K mg cG cT) (d_depths : Dn P w K mg base "_law_depths" 1 (Rdepths K)) (d_lets : Dn P w K mg base "_law_lets" 1 (Rlets K)) : Dn P w K mg base "_law_profiles" 2 (Rprofiles K) := by
  refine dn_of F hm scProfiles (fun ds d ⟨_, _, _, h, _⟩ => by rw [h]; rfl) (fun _ _ _ _ _ _ us hl => match us, hl with | [_, _], _ => rfl) ?_
  rintro cdv A' outer s H E hr ds d ⟨cs, rs, V, rfl, rfl⟩
  have v2 := V.few
  have v3 := V.hr
  have pl : (PL.depths cs).length ≤ 161051 := (PL.profs_le V cs.length (Nat.le_refl _)).2
  refine tr_cons (t_ret ?_ (rd_ok _)) tr_nil
  refine pv_is (pv_lc [("_law_row", 2)] (PL.depths cs) (fun p => dat K (eI p)) (fun p => [some (dat K (eI cs)), some (dat K (eRs rs)), some (dat K (eI p))]) (fun p => PL.lets p rs) eI rfl scProfiles.nd
    (it_listE (pv_dn d_depths (hr.mono (by decide)) (by rfl) (pva_cons (pv_var (pv 0) rfl) pva_nil) ⟨cs, rs, V, rfl, rfl⟩)) (blkOk_by (N := nmPf) (sc := defScope sProfiles) (by decide +kernel)) (by intro j hj d; simp at hj; subst hj; simp [ρ0]) (by omega)
    (fun _ _ _ _ _ => pg_name (i := 2) scProfiles.nd rfl (Or.inl rfl)) (fun c _ => tg_name 2) (fun p hp _ _ _ _ _ => pvts_one (pvt_val (pv_dn d_lets (hr.mono (by decide)) (by rfl) (pva_cons (pv_var (pv 1) rfl) (pva_cons (pv_var (pv 2) rfl) pva_nil)) ⟨p, rs, ?_, rfl, rfl⟩))) (fun p _ _ _ _ _ _ _ => (pv_var (pv 2) rfl))) (by rw [PL.profs_eq V.hr]; rfl)
  have := (PL.mem_depthsN.mp hp).1
  omega
/-! ### alike -/
def Al : Nat → PyData → Prop
  | 0, d => ∃ n, d = .int n
  | k + 1, d => (∃ n, d = .int n) ∨ ∃ ds, d = .tuple ds ∧ ds.length ≤ 1000 ∧ ∀ x ∈ ds, Al k x
theorem Al.two {k : Nat} {d : PyData} (h : Al k d) : (∃ n, d = .int n) ∨ ∃ j ds, k = j + 1 ∧ d = .tuple ds ∧ ds.length ≤ 1000 ∧ ∀ x ∈ ds, Al j x := by
  cases k with
  | zero => exact .inl h
  | succ k =>
    rcases h with h | ⟨ds, h⟩
    · exact .inl h
    · exact .inr ⟨k, ds, rfl, h⟩
abbrev sAlike : Stmt := top 61
abbrev nmAl : List Str := ["_law_found", "_law_due", "_law_k"]
theorem scAlike : FnScope nmAl ["_law_found", "_law_due"] (defScope sAlike) := ⟨rfl, rfl, rfl, by decide +kernel, rfl, by decide +kernel, by decide +kernel⟩
def Ralike (K : PySem.W.Frag) (k : Nat) : List Dc → Dc → Prop := fun ds d => ∃ x, Al k x ∧ ds = [dat K x, dat K x] ∧ d = Bo K true
theorem not_none_int {K : PySem.W.Frag} {n : Int} : ∀ H v, (It' K n).p H v → decide (v = .non) = false := fun H v h => by
  cases (show Dp K H v (.int n) from h)
  rfl
theorem dn_alike (F : FnP K "_law_alike" "_law_alike" sAlike f fd) (hm : mg "_law_alike" = some (.ref f)) (T : Fx K mg cG cT) : ∀ k : Nat, Dn P w K mg base "_law_alike" (k + 1) (Ralike K k) := by
  intro k
  induction k with
  | zero =>
    refine dn_of F hm scAlike (fun ds d ⟨_, _, h, _⟩ => by rw [h]; rfl) (fun _ _ _ _ _ _ us hl => match us, hl with | [_, _], _ => rfl) ?_
    rintro cdv A' outer s H E hr ds d ⟨x, ⟨n, rfl⟩, rfl, rfl⟩
    refine tr_cons (t_if (Nx := A K [some (It' K n), some (It' K n), none] none) (pvt_val (pv_callB call_isiT (by rfl) T.nisinstance (by decide +kernel) (pva_cons (pv_var (pv 1) rfl) (pva_cons (pv_tyT2 (pva_cons (pv_bTy (by rfl) T.ntuple (by decide +kernel)) (pva_cons (pv_bTy (by rfl) T.nlist (by decide +kernel)) pva_nil))) pva_nil)) (rc_isiT2 ty_int kit2_int))) (fun h => nomatch h) fun _ => tr_nil) ?_
    refine tr_cons (t_if (Nx := A K [some (It' K n), some (It' K n), none] none) ((pvw_or (pvt_cmp op_isN (pv_var (pv 1) rfl) pv_non (rd_isN (not_none_int)) (nomark _)) (pw_when fun _ => (pvw_or1 (pvt_val (pv_callB call_isi (by rfl) T.nisinstance (by decide +kernel) (pva_cons (pv_var (pv 1) rfl) (pva_cons (pv_bTy (by rfl) T.nstr (by decide +kernel)) pva_nil)) (rc_isi (b := false) (.ty "str") ty_int (kit_ty (by decide +kernel))))))))).pt (fun h => nomatch h) fun _ => tr_nil) ?_
    refine tr_cons (t_ret (pv_is (pv_and (pv_callB call_isi (by rfl) T.nisinstance (by decide +kernel) (pva_cons (pv_var (pv 0) rfl) (pva_cons (pv_bTy (by rfl) T.nint (by decide +kernel)) pva_nil)) (rc_isi (b := true) (.ty "int") ty_int (kit_ty (by decide +kernel)))) fun _ => (pv_and (pv_cmp op_eq (pv_callB call_isi (by rfl) T.nisinstance (by decide +kernel) (pva_cons (pv_var (pv 0) rfl) (pva_cons (pv_bTy (by rfl) T.nbool (by decide +kernel)) pva_nil)) (rc_isi (b := false) (.ty "bool") ty_int (kit_ty (by decide +kernel)))) (pv_callB call_isi (by rfl) T.nisinstance (by decide +kernel) (pva_cons (pv_var (pv 1) rfl) (pva_cons (pv_bTy (by rfl) T.nbool (by decide +kernel)) pva_nil)) (rc_isi (b := false) (.ty "bool") ty_int (kit_ty (by decide +kernel)))) rd_eqB (nomark _)) fun _ => (pv_one (pv_cmp op_eq (pv_var (pv 0) rfl) (pv_var (pv 1) rfl) rd_eqI (nomark _))))) (by rw [decide_eq_true (show n = n from rfl)]; rfl)) (rd_ok _)) tr_nil
  | succ k ih =>
    refine dn_of F hm scAlike (fun ds d ⟨_, _, h, _⟩ => by rw [h]; rfl) (fun _ _ _ _ _ _ us hl => match us, hl with | [_, _], _ => rfl) ?_
    rintro cdv A' outer s H E hr ds d ⟨x, hx, rfl, rfl⟩
    rcases hx with ⟨n, rfl⟩ | ⟨xs, rfl, hl, hx⟩
    · refine tr_cons (t_if (Nx := A K [some (It' K n), some (It' K n), none] none) (pvt_val (pv_callB call_isiT (by rfl) T.nisinstance (by decide +kernel) (pva_cons (pv_var (pv 1) rfl) (pva_cons (pv_tyT2 (pva_cons (pv_bTy (by rfl) T.ntuple (by decide +kernel)) (pva_cons (pv_bTy (by rfl) T.nlist (by decide +kernel)) pva_nil))) pva_nil)) (rc_isiT2 ty_int kit2_int))) (fun h => nomatch h) fun _ => tr_nil) ?_
      refine tr_cons (t_if (Nx := A K [some (It' K n), some (It' K n), none] none) ((pvw_or (pvt_cmp op_isN (pv_var (pv 1) rfl) pv_non (rd_isN (not_none_int)) (nomark _)) (pw_when fun _ => (pvw_or1 (pvt_val (pv_callB call_isi (by rfl) T.nisinstance (by decide +kernel) (pva_cons (pv_var (pv 1) rfl) (pva_cons (pv_bTy (by rfl) T.nstr (by decide +kernel)) pva_nil)) (rc_isi (b := false) (.ty "str") ty_int (kit_ty (by decide +kernel))))))))).pt (fun h => nomatch h) fun _ => tr_nil) ?_
      refine tr_cons (t_ret (pv_is (pv_and (pv_callB call_isi (by rfl) T.nisinstance (by decide +kernel) (pva_cons (pv_var (pv 0) rfl) (pva_cons (pv_bTy (by rfl) T.nint (by decide +kernel)) pva_nil)) (rc_isi (b := true) (.ty "int") ty_int (kit_ty (by decide +kernel)))) fun _ => (pv_and (pv_cmp op_eq (pv_callB call_isi (by rfl) T.nisinstance (by decide +kernel) (pva_cons (pv_var (pv 0) rfl) (pva_cons (pv_bTy (by rfl) T.nbool (by decide +kernel)) pva_nil)) (rc_isi (b := false) (.ty "bool") ty_int (kit_ty (by decide +kernel)))) (pv_callB call_isi (by rfl) T.nisinstance (by decide +kernel) (pva_cons (pv_var (pv 1) rfl) (pva_cons (pv_bTy (by rfl) T.nbool (by decide +kernel)) pva_nil)) (rc_isi (b := false) (.ty "bool") ty_int (kit_ty (by decide +kernel)))) rd_eqB (nomark _)) fun _ => (pv_one (pv_cmp op_eq (pv_var (pv 0) rfl) (pv_var (pv 1) rfl) rd_eqI (nomark _))))) (by rw [decide_eq_true (show n = n from rfl)]; rfl)) (rd_ok _)) tr_nil
    · refine tr_cons (t_if (Nx := fun _ _ _ => False) (pvt_val (pv_callB call_isiT (by rfl) T.nisinstance (by decide +kernel) (pva_cons (pv_var (pv 1) rfl) (pva_cons (pv_tyT2 (pva_cons (pv_bTy (by rfl) T.ntuple (by decide +kernel)) (pva_cons (pv_bTy (by rfl) T.nlist (by decide +kernel)) pva_nil))) pva_nil)) (rc_isiT2 ty_tup kit2_tup))) (fun _ => ?_) fun h => nomatch h) (fun Γ => pss_weak (pss_never (X := _)) fun D σ H h => h.1.elim)
      refine tr_cons (t_pass ((pvw_or (pvt_not (pvt_val (pv_callB call_isiT (by rfl) T.nisinstance (by decide +kernel) (pva_cons (pv_var (pv 0) rfl) (pva_cons (pv_tyT2 (pva_cons (pv_bTy (by rfl) T.ntuple (by decide +kernel)) (pva_cons (pv_bTy (by rfl) T.nlist (by decide +kernel)) pva_nil))) pva_nil)) (rc_isiT2 ty_tup kit2_tup)))) (pw_when fun _ => (pvw_or1 (pvt_cmp op_ne (pv_callB call_isi (by rfl) T.nisinstance (by decide +kernel) (pva_cons (pv_var (pv 0) rfl) (pva_cons (pv_bTy (by rfl) T.nlist (by decide +kernel)) pva_nil)) (rc_isi (b := false) (.ty "list") ty_tup (kit_ty (by decide +kernel)))) (pv_callB call_isi (by rfl) T.nisinstance (by decide +kernel) (pva_cons (pv_var (pv 1) rfl) (pva_cons (pv_bTy (by rfl) T.nlist (by decide +kernel)) pva_nil)) (rc_isi (b := false) (.ty "list") ty_tup (kit_ty (by decide +kernel)))) rd_neB (nomark _)))))).pt rfl) ?_
      refine tr_cons (t_pass (pvt_cmp op_ne (pv_callB call_len_seq (by rfl) T.nlen (by decide +kernel) (pva_cons (pv_var (pv 0) rfl) pva_nil) rc_lenT) (pv_callB call_len_seq (by rfl) T.nlen (by decide +kernel) (pva_cons (pv_var (pv 1) rfl) pva_nil) rc_lenT) rd_neI (nomark _)) (by simp)) ?_
      refine tr_cons (t_ret ?_ (rd_ok _)) tr_nil
      refine pv_is (pv_cmp (op_eqD (Nat.lt_of_le_of_lt (Nat.add_le_add (Nat.le_add_right _ _) (by decide)) hr.un)) (pv_conv (pv_lc [("_law_k", 2)] (List.range ((xs.length : Nat) : Int).toNat) (fun (c : Nat) => It' K (0 + (c : Int))) (fun c => [some (dat K (.tuple xs)), some (dat K (.tuple xs)), some (It' K (0 + (c : Int)))]) (fun _ => !true) (fun c => PyData.int c) rfl scAlike.nd
        (it_range1 (by rfl) T.nrange (pv_callB call_len_seq (by rfl) T.nlen (by decide +kernel) (pva_cons (pv_var (pv 1) rfl) pva_nil) rc_lenT)) (blkOk_by (N := nmAl) (sc := defScope sAlike) (by decide +kernel)) (by intro j hj d; simp at hj; subst hj; simp [ρ0]) (by simp; omega)
        (fun _ _ _ _ _ => pg_name (i := 2) scAlike.nd rfl (Or.inl rfl)) (fun c _ => tg_name 2) (fun c hc _ _ _ _ _ => pvts_one (pvt_not (pvt_val ?_))) (fun c _ hb => nomatch hb)) (ls_dat _)) (pv_conv (pv_lst (ds := []) pva_nil) (ls_dat _)) (rd_eqD ?_ ?_) (nomark _)) ?_
      · have hc' : c < xs.length := by
          have := List.mem_range.mp hc
          omega
        have hget : xs[(0 + (c : Int)).toNat]? = some xs[c] := by
          rw [show (0 + (c : Int)).toNat = c by omega, List.getElem?_eq_getElem hc']
        exact pv_dn ih (hr.mono (Nat.le_refl _)) (by rfl) (pva_cons (pv_ix ix_tup (pv_var (pv 0) rfl) (pv_var (pv 2) rfl) (rd_ixT (by omega) (hget)) (fun _ _ => rfl)) (pva_cons (pv_ix ix_tup (pv_var (pv 1) rfl) (pv_var (pv 2) rfl) (rd_ixT (by omega) (hget)) (fun _ _ => rfl)) pva_nil)) ⟨xs[c], hx _ (List.getElem_mem hc'), rfl, rfl⟩
      · have : ((List.range ((xs.length : Nat) : Int).toNat).filter fun _ => !true) = [] := by simp
        rw [this]
        decide
      · decide
      · have : ((List.range ((xs.length : Nat) : Int).toNat).filter fun _ => !true) = [] := by simp
        rw [this]
        rfl
end
end PX

namespace PX
open PySem PySem.Spec PyProof.Rows L2
def rSumT (K : PySem.W.Frag) : List V → Hp → VK → Prop := fun vs H Q => ∃ (a : Addr) (ns : List Int), vs = [V.ref a] ∧ SqT K H a (ns.map V.int) ∧ Q (.int ns.sum) H
theorem cr_sumT {X : Cx} (hc : X.calm = true) : CallR X (.builtin "sum") (rSumT X.K) := by
  intro pins s σ H vs us Q I r h
  obtain ⟨a, ns, rfl, hs, q⟩ := h
  obtain ⟨its, rv, hl, _⟩ := I.tuple hs
  rw [Vals.ref1 r]
  obtain ⟨xs, hx⟩ := rv.ints.allInts.items
  have hn : numsOf its.toArray.toList = ns := by rw [show its.toArray.toList = its from rfl, rv.ints.numsOf]
  rw [hx] at hl hn
  rw [nums_intItems] at hn
  have e : preSum (numAt xs) xs.size = ns.sum := by rw [preSum_eq, List.take_of_length_le (by simp), hn]
  refine PySem.W.ktm_sumG (I.ok.hd hc) hl fun h' tk t' hk => ?_
  rw [e]
  exact ⟨.int ns.sum, H, I.kept hk, ⟨_, rfl⟩, q⟩
theorem rc_sumT {K : PySem.W.Frag} {ns : List Int} : RC (rSumT K) [dat K (.tuple (ns.map .int))] (It' K ns.sum) := fun M H vs Q m hv q => by
  cases hv with
  | cons h t =>
    cases t
    cases (show Dp K _ _ (.tuple (ns.map .int)) from h) with
    | @tup a xs _ h1 h2 =>
      have e := dps_ints h2
      subst e
      exact ⟨a, ns, rfl, same_t (res_le M H) h1, q _ H (Same.refl H) (.int _)⟩
/-! ### tuples of whole numbers as data -/
theorem ints_lay : ∀ l : List Int, PyData.canLayAll0 (l.map PyData.int) = true
  | [] => rfl
  | x :: l => by
    rw [List.map_cons]
    simp only [PyData.canLayAll0, PyData.canLay0, Bool.true_and]
    exact ints_lay l
theorem ints_depth : ∀ l : List Int, PyData.depthAll (l.map PyData.int) = 0
  | [] => rfl
  | x :: l => by
    rw [List.map_cons]
    simp only [PyData.depthAll, PyData.depth, ints_depth l, Nat.max_self]
theorem eI_shaped (l : List Int) : SeqAt.shaped (eI l) = true := by
  show (PyData.canLay0 (eI l) && decide (PyData.depth (eI l) ≤ 64)) = true
  rw [Bool.and_eq_true]
  refine ⟨by simp only [PyData.canLay0]; exact ints_lay l, decide_eq_true ?_⟩
  simp only [PyData.depth, ints_depth l]
  omega
theorem eIs_lay : ∀ l : List (List Int), PyData.canLayAll0 (l.map eI) = true
  | [] => rfl
  | x :: l => by
    rw [List.map_cons]
    simp only [PyData.canLayAll0, PyData.canLay0]
    rw [ints_lay x, eIs_lay l]
    rfl
theorem eIs_depth : ∀ l : List (List Int), PyData.depthAll (l.map eI) ≤ 1
  | [] => Nat.zero_le _
  | x :: l => by
    rw [List.map_cons]
    have := eIs_depth l
    simp only [PyData.depthAll, PyData.depth, ints_depth x]
    omega
theorem eIs_shaped (l : List (List Int)) : SeqAt.shaped (.list (l.map eI)) = true := by
  have h1 := eIs_depth l
  show (PyData.canLay0 (.list (l.map eI)) && decide (PyData.depth (.list (l.map eI)) ≤ 64)) = true
  rw [Bool.and_eq_true]
  refine ⟨by simp only [PyData.canLay0]; exact eIs_lay l, decide_eq_true ?_⟩
  simp only [PyData.depth]
  omega
theorem eI_eqv (l : List Int) : PyData.eqv (eI l) (eI l) = true := by
  refine PySem.SeqAt.eqv_refl _ ?_
  simp only [PyData.canLay0]
  exact ints_lay l
theorem eI_in {l : List (List Int)} {x : List Int} (h : x ∈ l) : ((l.map eI).any fun z => PyData.eqv z (eI x)) = true := List.any_eq_true.mpr ⟨eI x, List.mem_map.mpr ⟨x, h, rfl⟩, eI_eqv x⟩
/-! ### the pits in their order -/
theorem pits_sorted (cv : List (List Int)) : (pitsL cv).Pairwise fun a b => a.length ≤ b.length := by
  unfold pitsL sortL
  exact List.Pairwise.imp (fun h => key_le h) (PySem.W.sort_pairwise (PySem.W.sortLe_total _ _ _) _)
/-! ### worths by place -/
abbrev worthIx (ww : List (List Int)) (p : List Int) : Int := ((List.range p.length).map fun i => ((ww.getD i []).take (PL.g p i).toNat).sum).sum
theorem worth_ix : ∀ {ww : List (List Int)} {p : List Int}, p.length = ww.length → worthIx ww p = PL.worthOf ww p
  | [], [], _ => rfl
  | w :: ww, a :: p, h => by
    have ih := worth_ix (ww := ww) (p := p) (by simpa using h)
    unfold worthIx at ih ⊢
    rw [List.length_cons, List.range_succ_eq_map, List.map_cons, List.sum_cons, List.map_map, PL.worth_cons, ← ih]
    rfl
  | [], _ :: _, h => by cases h
  | _ :: _, [], h => by cases h
end PX

namespace PX
open PySem PySem.Spec PyProof.Rows L2
theorem tx_unp {X : Cx} {R : RowS} {ρ : DE} {o : Mu} {Rt : Rl} {pos : Pos} {α : Type} {tg e : Expr} {d : Dc} {g : TG} {js : List Nat} {ρ' : α → DE} {f : α → Dc} {φ : α → Prop} (he : PXE X R e ρ d) (hd : ∀ H v, d.p H v → ∃ a, φ a ∧ (f a).p H v) (hg : PG X tg g) (ht : ∀ a, TGD g js ρ (ρ' a) (f a)) (hj : ∀ j, j ∈ js → j ∉ slotOf o)
    (hs : swapsWithSole [tg] e pos.line X.env = pure false := by rfl) (hw : swappedStores [tg] e X.env = pure none := by rfl) (h1 : (assignEach [tg] X.env).map (·.2) = [assign tg X.env] := by rfl) :
    T1 X (.Assign [tg] e pos) (AR X.K R ρ o) (fun Γ σ H => ∃ a, φ a ∧ AR X.K R (ρ' a) o Γ σ H) Rt := fun Γ =>
  ps_weak (ps_asg he hg hs hw h1) fun D σ H ⟨p, n, r⟩ => by
    obtain ⟨M', fr, hh, _, k⟩ := ar_eval p
    refine ⟨M', fr, hh, fun v H' s dv => ?_⟩
    obtain ⟨a, ha, da⟩ := hd _ _ dv
    exact ht a M' v σ H' _ (fr.step s).1.m (hh.mono (fr.step s).2) da fun σ' ag hh' => n _ _ ⟨a, ha, k _ _ _ s hh' fun j hjs => ag.2 j fun z => hj j z hjs⟩
theorem px_tup2 {X : Cx} {R : RowS} {ρ : DE} {es : List Expr} {da db : Dc} {x1 : _} {pos : Pos} (h : PXA X R es ρ [da, db]) : PXE X R (.Tuple es x1 pos) ρ (Tp X.K da db) :=
  pe_weak (pe_tup h) fun σ H Q ⟨M, f, hh, q⟩ => ⟨M, f, hh, fun vs H1 s1 dvs => by
    cases dvs with
    | cons d1 t =>
      cases t with
      | cons d2 t =>
        cases t
        have f1 := (f.step s1).1
        exact ⟨by show 2 ≤ sizeLine; decide, fun p hp => q _ _ (s1.trans (f1.same (same_upd hp))) ⟨p, _, _, rfl, .inl (.inl (res_upd_at (f1.m.new hp))), da.mono (res_mono (same_upd hp)) d1, db.mono (res_mono (same_upd hp)) d2⟩⟩⟩
def spL (K : PySem.W.Frag) : Sp := fun vs H Q _ => ∃ (a : Addr) (ns : List Int), vs = [.ref a] ∧ SqL K H a (ns.map V.int) ∧ ∀ H', Q (.bl true) H'
abbrev RtL : Rl := fun _ v _ => v = .bl true
/-- row = [script, 0, n, 0] -/
theorem t_row {X : Cx} {ρ : DE} {a : Addr} {ns : List Int} {rest : List Stmt} {es : List Expr} {y : Str} {py pos : Pos} {p2 : Pos} {n0 : Int} (hN : X.N.Nodup) (hi : X.N[1]? = some y) (hx : Loc X.env.scope y) (hs : swapsWith (.List es p2) (some (.Name y py)) pos.line X.env = pure false := by rfl)
    (hf : X.fn y = true ∨ X.env.scope.names.lookup y = some .local := by first | exact .inl rfl | exact .inr rfl | assumption) (he : PVA X es ρ [Vl (.ref a), It' X.K 0, It' X.K n0, It' X.K 0])
    (h : ∀ R : RowS, TR X rest (AR X.K R (ρ.set 1 (some (Vl (.ref R.p)))) none) (fun _ _ _ => False) RtL) :
    PSs X (.Assign [.Name y py] (.List es p2) pos :: rest) (fun D σ H => Holds ρ σ H ∧ SqL X.K H a (ns.map V.int) ∧ ∀ v H', v = V.bl true → D.rt v H') :=
  pss_weak (pss_cons (ps_set hN hi hx (pe_lst he) hs hf) (pss_ex (t := fun z : RowS × Gm => fun D σ H => AR X.K z.1 (ρ.set 1 (some (Vl (.ref z.1.p)))) none z.2 σ H ∧ (∀ σ' H', False → D.nx σ' H') ∧ ∀ v H', v = V.bl true → D.rt v H') fun z => h z.1 z.2)) fun D σ H ⟨hh, hsq, r⟩ => by
    have e0 : ∀ H : Hp, res (fun _ => false) H = H := fun H => by
      funext x
      unfold res
      simp
    refine ⟨fun _ => false, (fun x hx => by cases hx), (by rw [e0]; exact hh), fun vs H1 s1 dvs => ?_⟩
    rw [e0] at dvs
    obtain ⟨rfl⟩ : vs = rowV a 0 n0 0 := by
      cases dvs with
      | cons d1 t =>
        cases t with
        | cons d2 t =>
          cases t with
          | cons d3 t =>
            cases t with
            | cons d4 t =>
              cases t
              cases (show _ = V.ref a from d1)
              cases (show Dp X.K _ _ (.int 0) from d2)
              cases (show Dp X.K _ _ (.int n0) from d3)
              cases (show Dp X.K _ _ (.int 0) from d4)
              rfl
    refine ⟨by show 4 ≤ sizeLine; decide, fun p hp => ⟨(⟨p, a, ns⟩, ⟨H1, addM (fun _ => false) p, RowAt ⟨p, a, ns⟩, fun H2 H3 h ⟨i, s, r, e, h0⟩ => ⟨i, s, r, (h p (addM_self _ _)) ▸ e, h0⟩⟩), ⟨⟨(show addM (fun _ => false) p p = true from addM_self _ _), hp, fun _ => Iff.rfl, ?_⟩, same_upd hp, fun x hx => ?_, ⟨0, n0, 0, upd_same, Int.le_refl _⟩, ?_⟩, fun _ _ z => z.elim, r⟩⟩
    · refine same_l (fun x o hx => ?_) (same_l s1 hsq)
      have hne : x ≠ p := fun z => by rw [z, hp] at hx; cases hx
      show (if addM (fun _ => false) p x = true then none else H1 x) = some o
      rw [addM_ne hne]
      simpa using hx
    · have : x = p := by
        by_cases z : x = p
        · exact z
        · have hx' : addM (fun _ => false) p x = true := hx
          rw [addM_ne z] at hx'
          cases hx'
      rw [this, upd_same]
      simp
    · show Holds _ _ (res (addM (fun _ => false) p) (upd H1 p (.lst (rowV a 0 n0 0))))
      rw [res_upd_mut (addM_self _ _)]
      have e1 : res (addM (fun _ => false) p) H1 = H1 := by
        funext x
        unfold res
        by_cases z : x = p
        · rw [z, addM_self, hp]
          rfl
        · rw [addM_ne z]
          simp
      rw [e1]
      exact (hh.mono s1).set rfl
theorem rng0 {K : PySem.W.Frag} {m : Nat} : ((List.range m).map fun (k : Nat) => It' K (0 + (k : Int))) = (List.range m).map fun (k : Nat) => It' K (k : Nat) := List.map_congr_left fun k _ => by rw [Int.zero_add]
/-! ### what the law's turn comes to -/
abbrev wRow (cs : List Int) (ws : List Int) (c : Nat) : List Int := (List.range (PL.g cs c).toNat).map fun (k : Nat) => PL.g ws (PL.ix (PL.cells cs) ((c : Int), (k : Int) + 1))
structure Turn (cs : List Int) (rs : List (Int × Int)) (ws : List Int) : Prop where
  wa : WaOk cs (PL.wanted cs ws)
  wo : WoOk (PL.cov cs rs) ws
  top : PL.maxL ((pitsL (PL.cov cs rs)).map (PL.sumOf ws)) = PL.most (PL.wanted cs ws) (PL.profs cs rs)
  fst : ∃ L, (PL.bestP ws (pitsL (PL.cov cs rs)))[0]? = some L ∧ PitOk (PL.cov cs rs) L ∧ PL.pr (PL.cells cs) cs.length L = PL.leastOf cs.length (PL.bests (PL.wanted cs ws) (PL.profs cs rs))
  lst : ∃ L, (PL.bestP ws (pitsL (PL.cov cs rs)))[(PL.bestP ws (pitsL (PL.cov cs rs))).length - 1]? = some L ∧ PitOk (PL.cov cs rs) L ∧ PL.pr (PL.cells cs) cs.length L = PL.greatOf cs.length (PL.bests (PL.wanted cs ws) (PL.profs cs rs))
  le : PL.leastOf cs.length (PL.bests (PL.wanted cs ws) (PL.profs cs rs)) ∈ PL.bests (PL.wanted cs ws) (PL.profs cs rs)
  gr : PL.greatOf cs.length (PL.bests (PL.wanted cs ws) (PL.profs cs rs)) ∈ PL.bests (PL.wanted cs ws) (PL.profs cs rs)
theorem g_bd {ws : List Int} (h : ∀ x ∈ ws, -50 ≤ x ∧ x ≤ 50) (i : Nat) : -50 ≤ PL.g ws i ∧ PL.g ws i ≤ 50 := by
  by_cases hi : i < ws.length
  · rw [← g_get hi]
    exact h _ (List.getElem_mem hi)
  · unfold PL.g
    rw [List.getD_eq_getElem?_getD, List.getElem?_eq_none (by omega)]
    decide
theorem wanted_get {cs ws : List Int} {i : Nat} (h : i < cs.length) : (PL.wanted cs ws).getD i [] = wRow cs ws i := by
  unfold PL.wanted
  rw [List.getD_eq_getElem?_getD, List.getElem?_map, List.getElem?_range h]
  rfl
theorem wanted_len {cs ws : List Int} : (PL.wanted cs ws).length = cs.length := by simp [PL.wanted]
theorem pit_ok {cs : List Int} {rs : List (Int × Int)} (V : PL.Val cs rs) {L : List Int} (h : PL.OkPit (PL.cov cs rs) (PL.N cs) L) (hl : L.length ≤ 1000) : PitOk (PL.cov cs rs) L := by
  have n := PL.N_bd V
  refine ⟨⟨by rw [PL.cov_len]; exact n.2, h.asc, fun x hx => ?_, hl⟩, fun b => ?_, h.cl⟩
  · rw [PL.cov_len]
    exact h.bd x hx
  · have := PL.cov_small (cs := cs) (rs := rs) (b := b)
    omega
theorem turn_ok {cs : List Int} {rs : List (Int × Int)} (V : PL.Val cs rs) {ws : List Int} (hl : ws.length = PL.N cs) (hb : ∀ x ∈ ws, -50 ≤ x ∧ x ≤ 50) : Turn cs rs ws := by
  have cvl : (PL.cov cs rs).length = PL.N cs := PL.cov_len
  have n := PL.N_bd V
  have hp : (pitsL (PL.cov cs rs)).Perm (PL.raw (PL.cov cs rs) (PL.N cs)) := by
    have := sortL_perm (PL.raw (PL.cov cs rs) (PL.cov cs rs).length)
    rw [cvl] at this
    unfold pitsL
    rw [cvl]
    exact this
  have hs := pits_sorted (PL.cov cs rs)
  have bne := PL.bestP_ne V ws hp
  have blp := List.length_pos_iff.mpr bne
  have el : ∀ L ∈ PL.bestP ws (pitsL (PL.cov cs rs)), L.length ≤ 1000 := fun L hL => by
    have := (pitsL_el L (List.mem_filter.mp hL).1).1
    omega
  have hr := V.hr
  have hc : ∀ i, i < rs.length → 0 ≤ (PL.r2 rs i).1 ∧ 0 ≤ (PL.r2 rs i).2 := fun i hi => by have := V.rl i hi; omega
  have hz : ∀ i, i < cs.length → 0 ≤ PL.g cs i := fun i hi => by have := V.sz i hi; omega
  refine ⟨⟨wanted_len, fun i hi => ?_⟩, ⟨cov_ok V, by rw [cvl, hl], hb⟩, PL.top_pits V ws hp, ?_, ?_, ?_, ?_⟩
  · rw [wanted_get hi]
    have := V.sz i hi
    refine ⟨by simp; omega, fun x hx => ?_⟩
    obtain ⟨k, _, rfl⟩ := List.mem_map.mp hx
    exact g_bd hb _
  · have e : (PL.bestP ws (pitsL (PL.cov cs rs)))[0]? = some (PL.bestP ws (pitsL (PL.cov cs rs)))[0] := List.getElem?_eq_getElem blp
    obtain ⟨h1, h2⟩ := PL.first_best V ws hp hs e
    exact ⟨_, e, pit_ok V h1 (el _ (List.getElem_mem blp)), h2⟩
  · have hlt : (PL.bestP ws (pitsL (PL.cov cs rs))).length - 1 < (PL.bestP ws (pitsL (PL.cov cs rs))).length := by omega
    have e : (PL.bestP ws (pitsL (PL.cov cs rs)))[(PL.bestP ws (pitsL (PL.cov cs rs))).length - 1]? = some (PL.bestP ws (pitsL (PL.cov cs rs)))[(PL.bestP ws (pitsL (PL.cov cs rs))).length - 1] := List.getElem?_eq_getElem hlt
    obtain ⟨h1, h2⟩ := PL.last_best V ws hp hs e
    exact ⟨_, e, pit_ok V h1 (el _ (List.getElem_mem hlt)), h2⟩
  · exact (PL.mem_bests hr).mpr (PL.least_spec (ww := PL.wanted cs ws) hr hc hz).1
  · exact (PL.mem_bests hr).mpr (PL.great_spec (ww := PL.wanted cs ws) hr hc hz).1
theorem al_best {cs : List Int} {rs : List (Int × Int)} {ww : List (List Int)} (h : cs.length ≤ 5) : Al 2 (bestD cs rs ww) := by
  have ht : ∀ l : List Int, l.length ≤ 1000 → Al 1 (eI l) := fun l hl => .inr ⟨_, rfl, by rw [List.length_map]; exact hl, fun x hx => by
    obtain ⟨n, _, rfl⟩ := List.mem_map.mp hx
    exact ⟨n, rfl⟩⟩
  refine .inr ⟨_, rfl, by simp, fun x hx => ?_⟩
  rcases List.mem_cons.mp hx with rfl | hx
  · exact .inl ⟨_, rfl⟩
  · rcases List.mem_cons.mp hx with rfl | hx
    · exact ht _ (by unfold PL.leastOf; simp; omega)
    · rw [List.mem_singleton.mp hx]
      exact ht _ (by unfold PL.greatOf; simp; omega)
end PX

namespace PX
open PySem PySem.Spec PyProof.Rows L2
/-- what the law stands on -/
structure LawF (P : Program) (w : World) (K : PySem.W.Frag) (mg : Str → Option Value) (base : Heap) (cG cT : Addr) : Prop where
  T : Fx K mg cG cT
  mt : MkI P w K mg base cT 3 (RTinit K)
  table_of : DnX P w K mg base "_law_table_of" 2 (RtableOf K)
  worths : DnX P w K mg base "_law_worths" 2 (Rworths K)
  blocks : Dn P w K mg base "_law_blocks" 1 (Rblocks K)
  profiles : Dn P w K mg base "_law_profiles" 2 (Rprofiles K)
  alike : Dn P w K mg base "_law_alike" 3 (Ralike K 2)
  best_profile : Dn P w K mg base "best_profile" 3 (RbestProfile K cT)
  ground_of : Dn P w K mg base "ground_of" 6 (RmadeGround K cG cT)
  best_worth : Dn P w K mg base "best_worth" 5 (RbestWorth K cG)
  least_best : Dn P w K mg base "least_best" 6 (RleastBest K cG)
  greatest_best : Dn P w K mg base "greatest_best" 6 (RgreatestBest K cG)
  as_profile : Dn P w K mg base "as_profile" 7 (RasProfile K cT)
section
variable {P : Program} {w : World} {K : PySem.W.Frag} {mg : Str → Option Value} {base : Heap} {cG cT f : Addr} {fd : FuncData}
abbrev sLaw : Stmt := top 62
abbrev nmLw : List Str := ["_law_script", "_law_row", "_law_columns", "_law_rules", "_law_table", "_law_cells", "_law_turn", "_law_flat", "_law_wanted", "_law_column", "_law_depth", "_law_worths_here", "_law_one", "_law_at", "_law_most", "_law_worth", "_law_some", "_law_least", "_law_great", "_law_found", "_law_ground"]
theorem scLaw : FnScope nmLw ["_law_script"] (defScope sLaw) := ⟨rfl, rfl, rfl, by decide +kernel, rfl, by decide +kernel, by decide +kernel⟩
abbrev lρ (K : PySem.W.Frag) (cT a p : Addr) (cs : List Int) (rs : List (Int × Int)) (x6 x7 x8 x9 x10 x11 x12 x13 x14 x15 x16 x17 x18 x19 x20 : Option Dc) : DE := [some (Vl (.ref a)), some (Vl (.ref p)), some (dat K (eI cs)), some (dat K (eRs rs)), some (Tb K cT cs rs), some (Ls K ((PL.cells cs).map eP)), x6, x7, x8, x9, x10, x11, x12, x13, x14, x15, x16, x17, x18, x19, x20]
theorem ok_law (F : FnP K "law" "law" sLaw f fd) (L : LawF P w K mg base cG cT) : FnOk P w K mg base CX0 8 f fd ["_law_script"] (spL K) := by
  have T := L.T
  refine F.ok scLaw (fun vs H Q E h => ?_) (fun cdv A' outer s H vs Q E hr h => ?_)
  · obtain ⟨a, ns, rfl, _⟩ := h
    rfl
  obtain ⟨a, ns, rfl, hsq, q⟩ := h
  refine ⟨_, PSs.nox (t_row (X := cxf P w K mg base nmLw "law" sLaw f cdv A' outer s H E) (ρ := ρ0 nmLw [Vl (.ref a)]) (ns := ns) scLaw.nd rfl (Or.inl rfl) (he := (pva_cons (pv_var (pv 0) rfl) (pva_cons pv_int (pva_cons pv_int (pva_cons pv_int pva_nil))))) (h := fun R => ?_)), ⟨holds_start (.cons rfl .nil), hsq, fun v H' hv => by rw [hv]; exact q H'⟩⟩
  refine tr_cons (tx_unp (α := List Int × List (Int × Int)) (f := fun z => Tp K (dat K (eI z.1)) (dat K (eRs z.2))) (φ := fun z => PL.Val z.1 z.2) (px_call L.table_of (hr.mono (by decide)) (by rfl) (pv_var (pv 1) rfl) pxa_nil ⟨rfl, rfl⟩) (fun H v ⟨z, h1, h2⟩ => ⟨z, h1, tp_dat _ _ _ _ h2⟩) (pg_tup rfl (pgs_cons (pg_name (i := 2) scLaw.nd rfl (Or.inl rfl)) (pgs_cons (pg_name (i := 3) scLaw.nd rfl (Or.inl rfl)) pgs_nil))) (fun z => tg_tup 2 3) (fun _ _ h => nomatch h)) (tr_ex fun z => tr_whenw fun V => ?_)
  obtain ⟨cs, rs⟩ := z
  have V : PL.Val cs rs := V
  have v2 := V.few
  have v3 := V.hr
  have cl := cells_len V
  have pl' : (PL.profs cs rs).length ≤ 161051 := (PL.profs_le V cs.length (Nat.le_refl _)).1
  have hu : (A'.deeper (envOfC "law" (defScope sLaw) s.heap.objs.size f cdv)).units + 65 < cLine := Nat.lt_of_le_of_lt (Nat.add_le_add (Nat.le_add_right _ _) (by decide)) hr.un
  have hu' : (A'.deeper (envOfC "law" (defScope sLaw) s.heap.objs.size f cdv)).units + 64 < cLine := by omega
  refine tr_cons (tx_unp (α := Unit) (f := fun _ => Tp K (Tb K cT cs rs) (Ls K ((PL.cells cs).map eP))) (φ := fun _ => True) (px_tup2 (pxa_cons (px_of (pv_mk L.mt (hr.mono (by decide)) (by rfl) T.gTable (pva_cons (pv_var (pv 2) rfl) (pva_cons (pv_var (pv 3) rfl) pva_nil)) ⟨cs, rs, V, rfl, rfl⟩)) (pxa_cons (px_of (pv_dn L.blocks (hr.mono (by decide)) (by rfl) (pva_cons (pv_var (pv 2) rfl) pva_nil) ⟨cs, rs, V, rfl, rfl⟩)) pxa_nil))) (fun H v h => ⟨(), trivial, h⟩) (pg_tup rfl (pgs_cons (pg_name (i := 4) scLaw.nd rfl (Or.inl rfl)) (pgs_cons (pg_name (i := 5) scLaw.nd rfl (Or.inr rfl)) pgs_nil))) (fun z => tg_tup 4 5) (fun _ _ h => nomatch h)) (tr_ex fun _ => tr_whenw fun _ => ?_)
  have n := PL.N_bd V
  refine tr_cons (tx_for (j := 6) (lo := 2) (hi := 2) (fun _ => AR K R (lρ K cT a R.p cs rs none none none none none none none none none none none none none none none) none) (fun i => AR K R (lρ K cT a R.p cs rs (some (It' K (0 + (i : Int)))) none none none none none none none none none none none none none none) none) PassesOwn.never rfl (by rfl) T.nrange (px_of pv_int) (fun H v hv => by
      cases (show Dp K H v (.int 2) from hv)
      exact ⟨2, by decide, by decide, rfl⟩) (by decide) (pg_name (i := 6) scLaw.nd rfl (Or.inl rfl)) (fun Γ σ H p => p) (fun i Γ σ H _ p => ar_put 6 _ (by simp [slotOf]) p) (fun i hi => ?_)) (tr_ex fun _ => tr_whenw fun _ => tr_cons (tx_ret (px_of pv_bl) fun Γ v H' _ _ _ _ hv => by
      cases (show Dp K _ v (.bool true) from hv)
      rfl) tr_nil)
  refine tr_cons (tx_set (i := 7) (d := WoD K (PL.N cs)) scLaw.nd rfl (Or.inr rfl) (px_call L.worths (hr.mono (by decide)) (by rfl) (pv_var (pv 1) rfl) (pxa_cons (px_of (pv_callB call_len_seq (by rfl) T.nlen (by decide +kernel) (pva_cons (pv_var (pv 5) rfl) pva_nil) rc_lenL)) pxa_nil) ⟨PL.N cs, by omega, by rw [List.length_map]; rfl, rfl⟩) (by simp [slotOf])) ?_
  refine ar_open 7 (f := fun ws : List Int => dat K (eI ws)) (φ := fun ws => ws.length = PL.N cs ∧ ∀ x ∈ ws, -50 ≤ x ∧ x ≤ 50) rfl (fun H v h => h) fun ws hws => ?_
  have t := turn_ok V hws.1 hws.2
  refine tr_cons (ar1 (t_new (i := 8) scLaw.nd rfl (Or.inr rfl) (by show 8 < 21; decide) (hρ := rfl))) ?_
  refine tr_cons (ar1 (t_for (js := [9]) (fun _ => lρ K cT a R.p cs rs (some (It' K (0 + (i : Int)))) (some (dat K (eI ws))) none none none none none none none none none none none none none) (fun c => lρ K cT a R.p cs rs (some (It' K (0 + (i : Int)))) (some (dat K (eI ws))) none (some (It' K (c : Nat))) none none none none none none none none none none none) (fun c => some (8, (List.range c).map fun c => eI (wRow cs ws c))) PassesOwn.never rfl
    (it_eq (it_range1 (by rfl) T.nrange (pv_callB call_len_seq (by rfl) T.nlen (by decide +kernel) (pva_cons (pv_var (pv 2) rfl) pva_nil) rc_lenT) (by rw [List.length_map]; omega)) rng0) (pg_name (i := 9) scLaw.nd rfl (Or.inr rfl)) (fun c d hd => ?_) (fun c j hj => ?_) (fun c hc => ?_) (fun _ _ _ h => h) (fun _ _ _ _ _ _ _ h => h))) ?_
  · obtain ⟨hc, rfl⟩ := els_map hd
    simp only [List.getElem_range]
    exact tg_name 9
  · simp at hj
    subst hj
    simp [slotOf]
  · have hc' : c < cs.length := by simpa using hc
    have szc := V.sz c hc'
    have zc : ((c : Nat) : Int).toNat = c := by omega
    have e1 : ((List.range (PL.g cs c + 1 - 1).toNat).filter fun _ => true).map (fun (k : Nat) => PyData.int (PL.g ws (PL.ix (PL.cells cs) ((c : Int), 1 + (k : Int))))) = (wRow cs ws c).map PyData.int := by
      rw [filt_true, show PL.g cs c + 1 - 1 = PL.g cs c by omega]
      unfold wRow
      rw [List.map_map]
      refine List.map_congr_left fun k _ => ?_
      rw [Int.add_comm 1]
      rfl
    refine tr_cons (t_append (dd := eI (wRow cs ws c)) (pe_bm PySem.F.plainAttrs_list PySem.F.slot_list_append PySem.F.type_list_append mt_append (pv 8) (pva_cons (pv_callTy call_tuple_of (by rfl) T.ntuple (by decide +kernel) (pva_cons (pv_is (pv_lc [("_law_depth", 10)] (List.range (PL.g cs c + 1 - 1).toNat) (fun (k : Nat) => It' K (1 + (k : Int))) (fun (k : Nat) => lρ K cT a R.p cs rs (some (It' K (0 + (i : Int)))) (some (dat K (eI ws))) none (some (It' K (c : Nat))) (some (It' K (1 + (k : Int)))) none none none none none none none none none none)
      (fun _ => true) (fun (k : Nat) => .int (PL.g ws (PL.ix (PL.cells cs) ((c : Int), 1 + (k : Int))))) rfl scLaw.nd (it_range2 (by rfl) T.nrange pv_int (pv_is (pv_op op_add (pv_ix ix_tup (pv_var (pv 2) rfl) (pv_var (pv 9) rfl) (rd_ixT (by omega) (gI (by omega) (by omega))) (fun _ _ => rfl)) pv_int (rd_I0 fun _ => .int _)) (by rw [zc]))) (blkOk_by (N := nmLw) (sc := defScope sLaw) (by decide +kernel)) (by intro j hj d; simp at hj; subst hj; simp) (by simp; omega)
      (fun _ _ _ _ _ => pg_name (i := 10) scLaw.nd rfl (Or.inl rfl)) (fun k _ => tg_name 10) (fun k _ _ _ _ _ _ => pvts_nil) (fun k hk _ _ _ _ _ _ => ?_)) (congrArg (Ls K) e1)) pva_nil) rc_tuple) pva_nil)) (by rw [List.length_map, List.length_range]; omega)) ?_
    · have hkk := List.mem_range.mp hk
      have hy : ((c : Int), 1 + (k : Int)) ∈ PL.cells cs := (PL.mem_cells' V).mpr ⟨by omega, by omega, by omega, by rw [zc]; omega⟩
      have hix : PL.ix (PL.cells cs) ((c : Int), 1 + (k : Int)) < ws.length := by
        rw [hws.1]
        exact PL.ix_lt hy
      refine pv_is (pv_ix ix_tup (pv_var (pv 7) rfl) (pv_idx (y := ((c : Int), 1 + (k : Int))) hu (pv_var (pv 5) rfl) (pv_tup (ds := [.int (c : Nat), .int (1 + (k : Int))]) (pva_cons (pv_var (pv 9) rfl) (pva_cons (pv_var (pv 10) rfl) pva_nil))) hy) (rd_ixT (by omega) (gI (by omega) (by omega))) (fun _ _ => rfl)) ?_
      rw [Int.toNat_natCast]
    · refine tr_post tr_nil fun Γ σ H p => ?_
      have e2 : (List.range (c + 1)).map (fun c => eI (wRow cs ws c)) = (List.range c).map (fun c => eI (wRow cs ws c)) ++ [eI (wRow cs ws c)] := by
        rw [List.range_succ, List.map_append]
        rfl
      rw [e2]
      exact p.drop (i := 9)
  have t1 := t.wa
  have t2 := t.top
  obtain ⟨L1, t31, t32, t33⟩ := t.fst
  obtain ⟨L2', t41, t42, t43⟩ := t.lst
  have t5 := t.le
  have t6 := t.gr
  generalize hww : PL.wanted cs ws = ww at t1 t2 t33 t43 t5 t6
  have wwl : ww.length = cs.length := by rw [← hww]; exact wanted_len
  refine tr_pre (P := AR K R (lρ K cT a R.p cs rs (some (It' K (0 + (i : Int)))) (some (dat K (eI ws))) (some (Ls K (ww.map eI))) none none none none none none none none none none none none) none) ?_ fun Γ σ H p => ?_
  rotate_left
  · have e3 : (List.range ((List.range (((cs.map PyData.int).length : Nat) : Int).toNat).map fun (k : Nat) => It' K (k : Nat)).length).map (fun c => eI (wRow cs ws c)) = ww.map eI := by
      rw [List.length_map, List.length_range, List.length_map, Int.toNat_natCast, ← hww]
      unfold PL.wanted
      rw [List.map_map]
      rfl
    have p' : AR K R (lρ K cT a R.p cs rs (some (It' K (0 + (i : Int)))) (some (dat K (eI ws))) (some (Ls K ((List.range ((List.range (((cs.map PyData.int).length : Nat) : Int).toNat).map fun (k : Nat) => It' K (k : Nat)).length).map (fun c => eI (wRow cs ws c))))) none none none none none none none none none none none none) none Γ σ H := ar_freeze p
    rw [e3] at p'
    exact p'
  refine tr_cons (ar1 (t_new (i := 11) scLaw.nd rfl (Or.inl rfl) (by show 11 < 21; decide) (hρ := rfl))) ?_
  refine tr_cons (ar1 (t_for (js := [12]) (fun _ => lρ K cT a R.p cs rs (some (It' K (0 + (i : Int)))) (some (dat K (eI ws))) (some (Ls K (ww.map eI))) none none none none none none none none none none none none) (fun j => lρ K cT a R.p cs rs (some (It' K (0 + (i : Int)))) (some (dat K (eI ws))) (some (Ls K (ww.map eI))) none none none (some (dat K (eI ((PL.profs cs rs).getD j [])))) none none none none none none none none) (fun j => some (11, ((PL.profs cs rs).take j).map (rowD ww))) PassesOwn.never rfl
    (it_listE (pv_dn L.profiles (hr.mono (by decide)) (by rfl) (pva_cons (pv_var (pv 2) rfl) (pva_cons (pv_var (pv 3) rfl) pva_nil)) ⟨cs, rs, V, rfl, rfl⟩)) (pg_name (i := 12) scLaw.nd rfl (Or.inr rfl)) (fun j d hd => ?_) (fun j k hk => ?_) (fun j hj => ?_) (fun _ _ _ h => h) (fun _ _ _ _ _ _ _ h => h))) ?_
  · obtain ⟨hj, rfl⟩ := els_map hd
    rw [ww_get hj]
    exact tg_name 12
  · simp at hk
    subst hk
    simp [slotOf]
  · have hj' : j < (PL.profs cs rs).length := by simpa using hj
    have ep := ww_get hj'
    have hp := prof_el V (p := (PL.profs cs rs).getD j []) (by rw [← ep]; exact List.getElem_mem hj')
    generalize (PL.profs cs rs).getD j [] = p at ep hp
    have e1 : ((List.range p.length).filter fun _ => true).map (fun k => PyData.int ((ww.getD k []).take (PL.g p k).toNat).sum) = ((List.range p.length).map fun k => ((ww.getD k []).take (PL.g p k).toNat).sum).map PyData.int := by rw [filt_true, List.map_map]; rfl
    have rn : ∀ K', ((List.range (((p.map PyData.int).length : Nat) : Int).toNat).map fun (k : Nat) => It' K' (0 + (k : Int))) = (List.range p.length).map fun (k : Nat) => It' K' (k : Nat) := fun K' => by rw [rng0, List.length_map, Int.toNat_natCast]
    refine tr_cons (t_append (dd := rowD ww p) (pe_bm PySem.F.plainAttrs_list PySem.F.slot_list_append PySem.F.type_list_append mt_append (pv 11) (pva_cons (pv_tup (ds := [.int (PL.worthOf ww p), eI p]) (pva_cons (pv_is (pv_callB (cr_sum rfl) (by rfl) T.nsum (by decide +kernel) (pva_cons (pv_is (pv_lc [("_law_at", 13)] (List.range p.length) (fun (k : Nat) => It' K (k : Nat)) (fun (k : Nat) => lρ K cT a R.p cs rs (some (It' K (0 + (i : Int)))) (some (dat K (eI ws))) (some (Ls K (ww.map eI))) none none none (some (dat K (eI p))) (some (It' K (k : Nat))) none none none none none none none)
      (fun _ => true) (fun k => .int ((ww.getD k []).take (PL.g p k).toNat).sum) rfl scLaw.nd (it_eq (it_range1 (by rfl) T.nrange (pv_callB call_len_seq (by rfl) T.nlen (by decide +kernel) (pva_cons (pv_var (pv 12) rfl) pva_nil) rc_lenT) (by rw [List.length_map]; omega)) (rn _)) (blkOk_by (N := nmLw) (sc := defScope sLaw) (by decide +kernel)) (by intro j hj d; simp at hj; subst hj; simp) (by simp; omega)
      (fun _ _ _ _ _ => pg_name (i := 13) scLaw.nd rfl (Or.inl rfl)) (fun c _ => tg_name 13) (fun c _ _ _ _ _ _ => pvts_nil) (fun k hk _ _ _ _ _ _ => ?_)) (congrArg (Ls K) e1)) pva_nil) rc_sum) (congrArg (It' K) (worth_ix (by rw [hp.1, wwl])))) (pva_cons (pv_var (pv 12) rfl) pva_nil))) pva_nil)) (by rw [List.length_map, List.length_take]; omega)) ?_
    · have hkk := List.mem_range.mp hk
      have hwg : (ww.map eI)[((k : Nat) : Int).toNat]? = some (eI (ww.getD k [])) := by
        rw [Int.toNat_natCast, List.getElem?_map, List.getElem?_eq_getElem (by omega : k < ww.length), ww_get (by omega)]
        rfl
      have hge : 0 ≤ PL.g p k := by
        rw [← g_get hkk]
        exact hp.2 _ (List.getElem_mem hkk)
      exact pv_callB (cr_sumT rfl) (by rfl) T.nsum (by decide +kernel) (pva_cons (pv_is (pv_sl (pv_ix ix_list (pv_var (pv 8) rfl) (pv_var (pv 13) rfl) (rd_ixL (by omega) (hwg)) (fun _ _ => rfl)) pb_none (pb_some (pv_is (pv_ix ix_tup (pv_var (pv 12) rfl) (pv_var (pv 13) rfl) (rd_ixT (by omega) (gI (by omega) (by omega))) (fun _ _ => rfl)) (by rw [Int.toNat_natCast])))) (by rw [cutA_map, cut_to hge])) pva_nil) rc_sumT
    refine tr_post tr_nil fun Γ σ H q => ?_
    have e2 : ((PL.profs cs rs).take (j + 1)).map (rowD ww) = ((PL.profs cs rs).take j).map (rowD ww) ++ [rowD ww p] := by
      rw [List.take_add_one, List.getElem?_eq_getElem hj', ep, List.map_append]
      rfl
    rw [e2]
    exact q.drop (i := 12)
  refine tr_pre (P := AR K R (lρ K cT a R.p cs rs (some (It' K (0 + (i : Int)))) (some (dat K (eI ws))) (some (Ls K (ww.map eI))) none none (some (Ls K ((PL.profs cs rs).map (rowD ww)))) none none none none none none none none none) none) ?_ fun Γ σ H q => ?_
  rotate_left
  · have e3 : (PL.profs cs rs).take ((PL.profs cs rs).map fun x => dat K (eI x)).length = PL.profs cs rs := by rw [List.length_map, List.take_length]
    have q' : AR K R (lρ K cT a R.p cs rs (some (It' K (0 + (i : Int)))) (some (dat K (eI ws))) (some (Ls K (ww.map eI))) none none (some (Ls K (((PL.profs cs rs).take ((PL.profs cs rs).map fun x => dat K (eI x)).length).map (rowD ww)))) none none none none none none none none none) none Γ σ H := ar_freeze q
    rw [e3] at q'
    exact q'
  have ew : ((PL.profs cs rs).filter fun _ => true).map (fun p => PyData.int (PL.worthOf ww p)) = ((PL.profs cs rs).map (PL.worthOf ww)).map PyData.int := by rw [filt_true, List.map_map]; rfl
  refine tr_cons (ar1 (t_set (i := 14) (d := It' K (PL.most ww (PL.profs cs rs))) scLaw.nd rfl (Or.inr rfl) (pv_callB (cr_max rfl) (by rfl) T.nmax (by decide +kernel) (pva_cons (pv_is (pv_lc [("_law_worth", 15), ("_law_one", 12)] (PL.profs cs rs) (fun p => Tp K (It' K (PL.worthOf ww p)) (dat K (eI p))) (fun p => lρ K cT a R.p cs rs (some (It' K (0 + (i : Int)))) (some (dat K (eI ws))) (some (Ls K (ww.map eI))) none none (some (Ls K ((PL.profs cs rs).map (rowD ww)))) (some (dat K (eI p))) none none (some (It' K (PL.worthOf ww p))) none none none none none)
    (fun _ => true) (fun p => .int (PL.worthOf ww p)) rfl scLaw.nd (it_conv (it_listE (enc := rowD ww) (pv_var (pv 11) rfl)) fun p => tp_dat _ _) (blkOk_by (N := nmLw) (sc := defScope sLaw) (by decide +kernel)) (by intro j hj d; simp at hj; rcases hj with rfl | rfl <;> simp) (by omega)
    (fun _ _ _ _ _ => pg_tup rfl (pgs_cons (pg_name (i := 15) scLaw.nd rfl (Or.inl rfl)) (pgs_cons (pg_name (i := 12) scLaw.nd rfl (Or.inl rfl)) pgs_nil))) (fun c _ => tg_tup 15 12) (fun c _ _ _ _ _ _ => pvts_nil) (fun p _ _ _ _ _ _ _ => (pv_var (pv 15) rfl))) (congrArg (Ls K) ew)) pva_nil) (rc_max (by simpa using val_nn V))) (by simp [slotOf]))) ?_
  have gets : ∀ (k : Nat), (((PL.bests ww (PL.profs cs rs)).filter fun _ => true).map fun p => PyData.int (PL.g p k)) = ((PL.bests ww (PL.profs cs rs)).map fun p => PL.g p k).map PyData.int := fun k => by rw [filt_true, List.map_map]; rfl
  have bl : ∀ p ∈ PL.bests ww (PL.profs cs rs), p.length = cs.length := fun p hp => (prof_el V (List.mem_filter.mp hp).1).1
  have bn := val_bne V ww
  have bll : (PL.bests ww (PL.profs cs rs)).length ≤ 161051 := Nat.le_trans (List.length_filter_le _ _) pl'
  refine tr_cons (ar1 (t_set (i := 16) (d := Ls K ((PL.bests ww (PL.profs cs rs)).map eI)) scLaw.nd rfl (Or.inr rfl) (pv_lc [("_law_worth", 15), ("_law_one", 12)] (PL.profs cs rs) (fun p => Tp K (It' K (PL.worthOf ww p)) (dat K (eI p))) (fun p => lρ K cT a R.p cs rs (some (It' K (0 + (i : Int)))) (some (dat K (eI ws))) (some (Ls K (ww.map eI))) none none (some (Ls K ((PL.profs cs rs).map (rowD ww)))) (some (dat K (eI p))) none (some (It' K (PL.most ww (PL.profs cs rs)))) (some (It' K (PL.worthOf ww p))) none none none none none)
    (fun p => decide (PL.worthOf ww p = PL.most ww (PL.profs cs rs))) eI rfl scLaw.nd (it_conv (it_listE (enc := rowD ww) (pv_var (pv 11) rfl)) fun p => tp_dat _ _) (blkOk_by (N := nmLw) (sc := defScope sLaw) (by decide +kernel)) (by intro j hj d; simp at hj; rcases hj with rfl | rfl <;> simp) (by omega)
    (fun _ _ _ _ _ => pg_tup rfl (pgs_cons (pg_name (i := 15) scLaw.nd rfl (Or.inl rfl)) (pgs_cons (pg_name (i := 12) scLaw.nd rfl (Or.inl rfl)) pgs_nil))) (fun c _ => tg_tup 15 12) (fun c _ _ _ _ _ _ => pvts_one (pvt_cmp op_eq (pv_var (pv 15) rfl) (pv_var (pv 14) rfl) rd_eqI (nomark _))) (fun p _ _ _ _ _ _ _ => (pv_var (pv 12) rfl))) (by simp [slotOf]))) ?_
  have rng : ∀ K', ((List.range (((cs.map PyData.int).length : Nat) : Int).toNat).map fun (k : Nat) => It' K' (0 + (k : Int))) = (List.range cs.length).map fun (k : Nat) => It' K' (k : Nat) := fun K' => by rw [rng0, List.length_map, Int.toNat_natCast]
  have el : ((List.range cs.length).filter fun _ => true).map (fun (k : Nat) => PyData.int (PL.minL ((PL.bests ww (PL.profs cs rs)).map fun p => PL.g p k))) = (PL.leastOf cs.length (PL.bests ww (PL.profs cs rs))).map PyData.int := by rw [filt_true]; unfold PL.leastOf; rw [List.map_map]; rfl
  have eg : ((List.range cs.length).filter fun _ => true).map (fun (k : Nat) => PyData.int (PL.maxL ((PL.bests ww (PL.profs cs rs)).map fun p => PL.g p k))) = (PL.greatOf cs.length (PL.bests ww (PL.profs cs rs))).map PyData.int := by rw [filt_true]; unfold PL.greatOf; rw [List.map_map]; rfl
  refine tr_cons (ar1 (t_set (i := 17) (d := dat K (eI (PL.leastOf cs.length (PL.bests ww (PL.profs cs rs))))) scLaw.nd rfl (Or.inl rfl) (pv_callTy call_tuple_of (by rfl) T.ntuple (by decide +kernel) (pva_cons (pv_is (pv_lc [("_law_at", 13)] (List.range cs.length) (fun (k : Nat) => It' K (k : Nat)) (fun k => lρ K cT a R.p cs rs (some (It' K (0 + (i : Int)))) (some (dat K (eI ws))) (some (Ls K (ww.map eI))) none none (some (Ls K ((PL.profs cs rs).map (rowD ww)))) none (some (It' K (k : Nat))) (some (It' K (PL.most ww (PL.profs cs rs)))) none (some (Ls K ((PL.bests ww (PL.profs cs rs)).map eI))) none none none none)
    (fun _ => true) (fun k => .int (PL.minL ((PL.bests ww (PL.profs cs rs)).map fun p => PL.g p k))) rfl scLaw.nd (it_eq (it_range1 (by rfl) T.nrange (pv_callB call_len_seq (by rfl) T.nlen (by decide +kernel) (pva_cons (pv_var (pv 2) rfl) pva_nil) rc_lenT) (by rw [List.length_map]; omega)) (rng _)) (blkOk_by (N := nmLw) (sc := defScope sLaw) (by decide +kernel)) (by intro j hj d; simp at hj; subst hj; simp) (by simp; omega)
    (fun _ _ _ _ _ => pg_name (i := 13) scLaw.nd rfl (Or.inr rfl)) (fun c _ => tg_name 13) (fun c _ _ _ _ _ _ => pvts_nil) (fun k hk _ _ _ _ _ _ => pv_callB (cr_min rfl) (by rfl) T.nmin (by decide +kernel) (pva_cons (pv_is (pv_lc [("_law_one", 12)] (PL.bests ww (PL.profs cs rs)) (fun p => dat K (eI p)) (fun p => lρ K cT a R.p cs rs (some (It' K (0 + (i : Int)))) (some (dat K (eI ws))) (some (Ls K (ww.map eI))) none none (some (Ls K ((PL.profs cs rs).map (rowD ww)))) (some (dat K (eI p))) (some (It' K (k : Nat))) (some (It' K (PL.most ww (PL.profs cs rs)))) none (some (Ls K ((PL.bests ww (PL.profs cs rs)).map eI))) none none none none)
      (fun _ => true) (fun p => .int (PL.g p k)) rfl scLaw.nd (it_listE (pv_var (pv 16) rfl)) (blk2 (N := nmLw) (sc := defScope sLaw) (blkOk_by (by decide +kernel)) rfl rfl) (by intro j hj d; simp at hj; subst hj; simp) (by omega)
      (fun _ _ _ _ _ => pg_name (i := 12) scLaw.nd rfl (Or.inl rfl)) (fun c _ => tg_name 12) (fun c _ _ _ _ _ _ => pvts_nil) (fun p hp _ _ _ _ _ _ => pv_is (pv_ix ix_tup (pv_var (pv 12) rfl) (pv_var (pv 13) rfl) (rd_ixT (by omega) (gI (by omega) (by have := bl p hp; have := List.mem_range.mp hk; omega))) (fun _ _ => rfl)) (by rw [Int.toNat_natCast]))) (congrArg (Ls K) (gets k))) pva_nil) (rc_min (by simpa using bn)))) (congrArg (Ls K) el)) pva_nil) rc_tuple) (by simp [slotOf]))) ?_
  refine tr_cons (ar1 (t_set (i := 18) (d := dat K (eI (PL.greatOf cs.length (PL.bests ww (PL.profs cs rs))))) scLaw.nd rfl (Or.inl rfl) (pv_callTy call_tuple_of (by rfl) T.ntuple (by decide +kernel) (pva_cons (pv_is (pv_lc [("_law_at", 13)] (List.range cs.length) (fun (k : Nat) => It' K (k : Nat)) (fun k => lρ K cT a R.p cs rs (some (It' K (0 + (i : Int)))) (some (dat K (eI ws))) (some (Ls K (ww.map eI))) none none (some (Ls K ((PL.profs cs rs).map (rowD ww)))) none (some (It' K (k : Nat))) (some (It' K (PL.most ww (PL.profs cs rs)))) none (some (Ls K ((PL.bests ww (PL.profs cs rs)).map eI))) (some (dat K (eI (PL.leastOf cs.length (PL.bests ww (PL.profs cs rs)))))) none none none)
    (fun _ => true) (fun k => .int (PL.maxL ((PL.bests ww (PL.profs cs rs)).map fun p => PL.g p k))) rfl scLaw.nd (it_eq (it_range1 (by rfl) T.nrange (pv_callB call_len_seq (by rfl) T.nlen (by decide +kernel) (pva_cons (pv_var (pv 2) rfl) pva_nil) rc_lenT) (by rw [List.length_map]; omega)) (rng _)) (blkOk_by (N := nmLw) (sc := defScope sLaw) (by decide +kernel)) (by intro j hj d; simp at hj; subst hj; simp) (by simp; omega)
    (fun _ _ _ _ _ => pg_name (i := 13) scLaw.nd rfl (Or.inr rfl)) (fun c _ => tg_name 13) (fun c _ _ _ _ _ _ => pvts_nil) (fun k hk _ _ _ _ _ _ => pv_callB (cr_max rfl) (by rfl) T.nmax (by decide +kernel) (pva_cons (pv_is (pv_lc [("_law_one", 12)] (PL.bests ww (PL.profs cs rs)) (fun p => dat K (eI p)) (fun p => lρ K cT a R.p cs rs (some (It' K (0 + (i : Int)))) (some (dat K (eI ws))) (some (Ls K (ww.map eI))) none none (some (Ls K ((PL.profs cs rs).map (rowD ww)))) (some (dat K (eI p))) (some (It' K (k : Nat))) (some (It' K (PL.most ww (PL.profs cs rs)))) none (some (Ls K ((PL.bests ww (PL.profs cs rs)).map eI))) (some (dat K (eI (PL.leastOf cs.length (PL.bests ww (PL.profs cs rs)))))) none none none)
      (fun _ => true) (fun p => .int (PL.g p k)) rfl scLaw.nd (it_listE (pv_var (pv 16) rfl)) (blk2 (N := nmLw) (sc := defScope sLaw) (blkOk_by (by decide +kernel)) rfl rfl) (by intro j hj d; simp at hj; subst hj; simp) (by omega)
      (fun _ _ _ _ _ => pg_name (i := 12) scLaw.nd rfl (Or.inl rfl)) (fun c _ => tg_name 12) (fun c _ _ _ _ _ _ => pvts_nil) (fun p hp _ _ _ _ _ _ => pv_is (pv_ix ix_tup (pv_var (pv 12) rfl) (pv_var (pv 13) rfl) (rd_ixT (by omega) (gI (by omega) (by have := bl p hp; have := List.mem_range.mp hk; omega))) (fun _ _ => rfl)) (by rw [Int.toNat_natCast]))) (congrArg (Ls K) (gets k))) pva_nil) (rc_max (by simpa using bn)))) (congrArg (Ls K) eg)) pva_nil) rc_tuple) (by simp [slotOf]))) ?_
  refine tr_cons (ar1 (t_pass (pvw_or (pvt_cmp (op_notInD (hu)) (pv_var (pv 17) rfl) (pv_conv (pv_var (pv 16) rfl) (ls_dat _)) (rd_notInD (eI_shaped _) (eIs_shaped _)) rfl) (pw_when fun _ => pvw_or1 (pvt_cmp (op_notInD (hu)) (pv_var (pv 18) rfl) (pv_conv (pv_var (pv 16) rfl) (ls_dat _)) (rd_notInD (eI_shaped _) (eIs_shaped _)) rfl))).pt (by rw [eI_in t5, eI_in t6]; rfl))) ?_
  refine tr_cons (tx_par (i := 19) (j := 20) (da := dat K (bestD cs rs ww)) (db := Gr K cG (PL.cov cs rs)) rfl scLaw.nd rfl rfl (by decide) rfl rfl (px_of (pv_dn L.best_profile (hr.mono (by decide)) (by rfl) (pva_cons (pv_var (pv 4) rfl) (pva_cons (pv_callTy call_tuple_of (by rfl) T.ntuple (by decide +kernel) (pva_cons (pv_var (pv 8) rfl) pva_nil) rc_tuple) pva_nil)) ⟨cs, rs, ww, V, t1, rfl, rfl⟩)) (px_of (pv_dn L.ground_of (hr.mono (by decide)) (by rfl) (pva_cons (pv_var (pv 4) rfl) pva_nil) ⟨cs, rs, V, rfl, rfl⟩)) (by simp [slotOf]) (by simp [slotOf]) rfl) ?_
  refine tr_cons (ar1 (t_pass (pvw_or (pvt_not (pvt_val (pv_dn L.alike (hr.mono (by decide)) (by rfl) (pva_cons (pv_var (pv 19) rfl) (pva_cons (pv_tup (ds := [.int (PL.most ww (PL.profs cs rs)), eI (PL.leastOf cs.length (PL.bests ww (PL.profs cs rs))), eI (PL.greatOf cs.length (PL.bests ww (PL.profs cs rs)))]) (pva_cons (pv_var (pv 14) rfl) (pva_cons (pv_var (pv 17) rfl) (pva_cons (pv_var (pv 18) rfl) pva_nil)))) pva_nil)) ⟨bestD cs rs ww, al_best v2, rfl, rfl⟩)))
    (pw_when fun _ => pvw_or1 (pvt_cmp op_ne (pv_dn L.best_worth (hr.mono (by decide)) (by rfl) (pva_cons (pv_var (pv 20) rfl) (pva_cons (pv_var (pv 7) rfl) pva_nil)) ⟨PL.cov cs rs, ws, t.wo, rfl, rfl⟩) (pv_var (pv 14) rfl) rd_neI (nomark _)))).pt (by rw [t2]; simp))) ?_
  refine tr_cons (ar1 (t_pass (pvt_cmp (op_neD hu') (pv_dn L.as_profile (hr.mono (by decide)) (by rfl) (pva_cons (pv_var (pv 4) rfl) (pva_cons (pv_dn L.least_best (hr.mono (by decide)) (by rfl) (pva_cons (pv_var (pv 20) rfl) (pva_cons (pv_var (pv 7) rfl) pva_nil)) ⟨PL.cov cs rs, ws, L1, ⟨t.wo, t31⟩, rfl, rfl⟩) pva_nil)) ⟨cs, rs, L1, V, t32, rfl, rfl⟩) (pv_var (pv 17) rfl) (rd_neD (eI_shaped _) (eI_shaped _)) (nomark _)) (by rw [t33, eI_eqv]; rfl))) ?_
  refine tr_cons (ar1 (t_pass (pvt_cmp (op_neD hu') (pv_dn L.as_profile (hr.mono (by decide)) (by rfl) (pva_cons (pv_var (pv 4) rfl) (pva_cons (pv_dn L.greatest_best (hr.mono (by decide)) (by rfl) (pva_cons (pv_var (pv 20) rfl) (pva_cons (pv_var (pv 7) rfl) pva_nil)) ⟨PL.cov cs rs, ws, L2', ⟨t.wo, t41⟩, rfl, rfl⟩) pva_nil)) ⟨cs, rs, L2', V, t42, rfl, rfl⟩) (pv_var (pv 18) rfl) (rd_neD (eI_shaped _) (eI_shaped _)) (nomark _)) (by rw [t43, eI_eqv]; rfl))) ?_
  exact tr_post tr_nil fun Γ σ H q => ar_drop 20 (ar_drop 19 (ar_drop 18 (ar_drop 17 (ar_drop 16 (ar_drop 14 (ar_drop 11 (ar_drop 8 (ar_drop 7 (ar_drop 6 q)))))))))
end
end PX

namespace PX
open PySem PySem.Spec PyProof.Rows L2
/-! ### the head: what the module's names stand for -/
def dOf (x : Str) (st : Stmt) : He.DefD := ⟨(x, none), x, x, defArgs st, defBody st, defScope st, [], []⟩
def dCl (C m q : Str) (st : Stmt) : He.DefD := ⟨(C, some m), m, q, defArgs st, defBody st, defScope st, [], []⟩
def fn1 : List He.DefD := [dOf "is_from" (top 14), dOf "rises" (top 15), dOf "is_cover" (top 16), dCl "Ground" "__init__" "Ground.__init__" (inClass sGround 0), dCl "Ground" "__len__" "Ground.__len__" (inClass sGround 2), dOf "need_ground" (top 18), dOf "is_block" (top 19), dOf "is_lot" (top 21), dOf "need_lot" (top 22), dOf "is_full" (top 23), dOf "need_pit" (top 24), dOf "sized" (top 25), dOf "pits_of" (top 26), dOf "is_rule" (top 30), dOf "first_steep" (top 31), dCl "Table" "__init__" "Table.__init__" (inClass sTable 0), dOf "need_table" (top 33), dOf "cells_of" (top 34), dOf "beside" (top 35), dOf "needed_cells" (top 36), dOf "made_ground" (top 37)]
def fn2 : List He.DefD := [dOf "ground_of" (top 38), dOf "as_profile" (top 39), dOf "profiles_of" (top 40), dOf "need_worths" (top 43), dOf "sum_of" (top 44), dOf "greatest_of" (top 45), dOf "best_pits" (top 46), dOf "best_worth" (top 47), dOf "least_best" (top 48), dOf "greatest_best" (top 49), dOf "need_wanted" (top 51), dOf "best_profile" (top 52), dOf "_law_taken" (top 54), dOf "_law_table_of" (top 55), dOf "_law_blocks" (top 56), dOf "_law_worths" (top 57), dOf "_law_depths" (top 58), dOf "_law_lets" (top 59), dOf "_law_profiles" (top 60), dOf "_law_alike" (top 61), dOf "law" (top 62)]
def fnA : List He.DefD := fn1 ++ fn2
def fa1 : List He.Fa := [.glo "is_from", .glo "rises", .glo "is_cover", .glo "need_ground", .glo "is_block", .glo "is_lot", .glo "need_lot", .glo "is_full", .glo "need_pit", .glo "sized", .glo "pits_of", .glo "is_rule", .glo "first_steep", .glo "need_table", .glo "cells_of", .glo "beside", .glo "needed_cells", .glo "made_ground", .glo "ground_of", .glo "as_profile"]
def fa2 : List He.Fa := [.glo "profiles_of", .glo "need_worths", .glo "sum_of", .glo "greatest_of", .glo "best_pits", .glo "best_worth", .glo "least_best", .glo "greatest_best", .glo "need_wanted", .glo "best_profile", .glo "_law_taken", .glo "_law_table_of", .glo "_law_blocks", .glo "_law_worths", .glo "_law_depths", .glo "_law_lets", .glo "_law_profiles", .glo "_law_alike", .glo "law"]
def fa3 : List He.Fa := [.free "isinstance", .free "int", .free "bool", .free "tuple", .free "list", .free "str", .free "len", .free "sum", .free "max", .free "min", .free "all", .free "sorted", .free "range", .free "enumerate", .free "zip", .int "MOST_BLOCKS" 10, .int "MOST_COLUMNS" 5, .int "MOST_RULE" 9, .int "MOST_WORTH" 50, .glo "Ground", .glo "Table", .cls "Ground", .cls "Table", .noat "Ground" "table", .noat "Table" "sizes", .noat "Table" "angles", .meth "Ground" "__len__", .mkr "Ground", .mkr "Table"]
def faA : List He.Fa := fa1 ++ fa2 ++ fa3
def loose1 : List PySem.Str := ["PitError", "BadGround", "BadLot", "NotPit", "BadWorths", "BadCovers", "BadColumns", "BadRules", "TooSteep", "BadTable", "BadWanted", "MOST_BLOCKS", "is_from", "rises"]
def loose2 : List PySem.Str := ["is_cover", "Ground", "need_ground", "is_block", "is_lot", "need_lot", "is_full", "need_pit", "sized", "pits_of", "MOST_COLUMNS", "MOST_RULE", "is_rule", "first_steep"]
def loose3 : List PySem.Str := ["Table", "need_table", "cells_of", "beside", "needed_cells", "made_ground", "ground_of", "as_profile", "profiles_of", "MOST_WORTH", "need_worths", "sum_of", "greatest_of", "best_pits"]
def loose4 : List PySem.Str := ["best_worth", "least_best", "greatest_best", "need_wanted", "best_profile", "_law_taken", "_law_table_of", "_law_blocks", "_law_worths", "_law_depths", "_law_lets", "_law_profiles", "_law_alike"]
def looseA : List PySem.Str := loose1 ++ loose2 ++ loose3 ++ loose4
/-- a class whose instances isinstance knows -/
def isB (K : PySem.W.Frag) (x : Str) : Bool := decide (PySem.W.findIn K (.ref (He.ga K x)) "__class__" = some (some (.builtin "object.__class__"))) && (decide (PySem.W.specialIn K (.builtin "object.__class__") "__get__" = some (some (.builtin "getset_descriptor.__get__"))) && (decide (PySem.W.takesIn K (.builtin "object.__class__") = some true) && (decide (PySem.W.mroIn K (He.ga K x) (.type "object") = some true) && decide (PySem.W.kitOne K (.ref (He.ga K x)) (.ref (He.ga K x)) = some true))))
theorem isB_ok {K : PySem.W.Frag} {x : Str} (c : Cls K (He.ga K x)) (h : isB K x = true) : C8.InsC K (He.ga K x) := by
  obtain ⟨h1, h⟩ := He.ba h
  obtain ⟨h2, h⟩ := He.ba h
  obtain ⟨h3, h⟩ := He.ba h
  obtain ⟨h4, h5⟩ := He.ba h
  exact ⟨c, of_decide_eq_true h1, of_decide_eq_true h2, of_decide_eq_true h3, of_decide_eq_true h4, of_decide_eq_true h5⟩
def exB (K : PySem.W.Frag) : Bool := isB K "Ground" && isB K "Table"
def obsY (K : PySem.W.Frag) : He.AlD × Bool := (He.obsD faA fnA K, exB K)
def obsX (g : Addr → Option Obj) : He.AlD × Bool := obsY (He.frG g (He.asD g 4))
def hkX : PySem.W.Hook where
  α := He.AlD × Bool
  obs := fun s => obsX s.heap.get?
  val := fun _ => (He.valD fnA, true)
  says := fun _ h => ∃ K : PySem.W.Frag, K.In h ∧ He.SaysD faA fnA K ∧ exB K = true
  of := fun _ _ e => ⟨_, He.frG_in, congrArg Prod.fst e, congrArg Prod.snd e⟩
  keeps := fun _ _ _ ⟨K, hK, c⟩ k => ⟨K, PySem.W.Frag.In.keeps hK k, c⟩
abbrev RwA : PySem.W.OpenRow := PySem.W.OpenLaw.row PySem.Challenge.rw_pitlots_k47_whole_best_profiles
def obX (s : PySem.W.SharedT) : He.AlD × Bool := obsX (HandSHeadRun.getT s)
theorem obX_eq (s : PySem.W.SharedT) : obX s = hkX.obs s.abs := by
  have e : HandSHeadRun.getT s = s.abs.heap.get? := funext (HandSHeadRun.getT_eq s)
  show obsX (HandSHeadRun.getT s) = obsX s.abs.heap.get?
  rw [e]
theorem runX (w : World) : HandSHeadRun.RunEq RwA (PySem.W.view RwA.prog [62]) hkX obX 5000 looseA w := by
  intro os
  kernel_rfl
end PX

namespace PX
open PySem PySem.Spec PyProof.Rows L2
theorem fx_of {K : PySem.W.Frag} {h : Heap} {mg : Str → Option Value} (X : K.In h) (G : h.Ns mainGlobals mg) (c : He.SaysD faA fnA K) (e : exB K = true) : Fx K mg (He.ga K "Ground") (He.ga K "Table") where
  nisinstance := He.free_ok X G (c.fact 39 (f := .free "isinstance") rfl)
  nint := He.free_ok X G (c.fact 40 (f := .free "int") rfl)
  nbool := He.free_ok X G (c.fact 41 (f := .free "bool") rfl)
  ntuple := He.free_ok X G (c.fact 42 (f := .free "tuple") rfl)
  nlist := He.free_ok X G (c.fact 43 (f := .free "list") rfl)
  nstr := He.free_ok X G (c.fact 44 (f := .free "str") rfl)
  nlen := He.free_ok X G (c.fact 45 (f := .free "len") rfl)
  nsum := He.free_ok X G (c.fact 46 (f := .free "sum") rfl)
  nmax := He.free_ok X G (c.fact 47 (f := .free "max") rfl)
  nmin := He.free_ok X G (c.fact 48 (f := .free "min") rfl)
  nall := He.free_ok X G (c.fact 49 (f := .free "all") rfl)
  nsorted := He.free_ok X G (c.fact 50 (f := .free "sorted") rfl)
  nrange := He.free_ok X G (c.fact 51 (f := .free "range") rfl)
  nenumerate := He.free_ok X G (c.fact 52 (f := .free "enumerate") rfl)
  nzip := He.free_ok X G (c.fact 53 (f := .free "zip") rfl)
  mostBlocks := He.int_ok X G (c.fact 54 (f := .int "MOST_BLOCKS" 10) rfl)
  mostColumns := He.int_ok X G (c.fact 55 (f := .int "MOST_COLUMNS" 5) rfl)
  mostRule := He.int_ok X G (c.fact 56 (f := .int "MOST_RULE" 9) rfl)
  mostWorth := He.int_ok X G (c.fact 57 (f := .int "MOST_WORTH" 50) rfl)
  gGround := He.glo_ok X G (c.fact 58 (f := .glo "Ground") rfl)
  gTable := He.glo_ok X G (c.fact 59 (f := .glo "Table") rfl)
  clG := He.cls_ok (c.fact 60 (f := .cls "Ground") rfl)
  clT := He.cls_ok (c.fact 61 (f := .cls "Table") rfl)
  isG := isB_ok (He.cls_ok (c.fact 60 (f := .cls "Ground") rfl)) (He.ba e).1
  isT := isB_ok (He.cls_ok (c.fact 61 (f := .cls "Table") rfl)) (He.ba e).2
  naTable := He.noat_ok (c.fact 62 (f := .noat "Ground" "table") rfl)
  naSizes := He.noat_ok (c.fact 63 (f := .noat "Table" "sizes") rfl)
  naAngles := He.noat_ok (c.fact 64 (f := .noat "Table" "angles") rfl)
theorem factsA {P : Program} {w : World} {K : PySem.W.Frag} {h : Heap} {mg : Str → Option Value} {f : Addr} (X : K.In h) (G : h.Ns mainGlobals mg) (hfa : mg ("law" : Str) = some (.ref f)) (c : He.SaysD faA fnA K) (e : exB K = true) :
    ∃ fd : FuncData, (∀ (s : Shared) (v : Value), BindsTo s fd ⟨[v], []⟩ [("_law_script", v)]) ∧ ∀ base : Heap, K.In base → base.Ns mainGlobals mg → FnOk P w K mg base CX0 8 f fd ["_law_script"] (spL K) := by
  have T := fx_of X G c e
  obtain ⟨fd0, F0⟩ := c.def_ 0 (d := dOf "is_from" (top 14)) rfl
  obtain ⟨fd1, F1⟩ := c.def_ 1 (d := dOf "rises" (top 15)) rfl
  obtain ⟨fd2, F2⟩ := c.def_ 2 (d := dOf "is_cover" (top 16)) rfl
  obtain ⟨fd3, F3⟩ := c.def_ 3 (d := dCl "Ground" "__init__" "Ground.__init__" (inClass sGround 0)) rfl
  obtain ⟨fd4, F4⟩ := c.def_ 4 (d := dCl "Ground" "__len__" "Ground.__len__" (inClass sGround 2)) rfl
  obtain ⟨fd5, F5⟩ := c.def_ 5 (d := dOf "need_ground" (top 18)) rfl
  obtain ⟨fd6, F6⟩ := c.def_ 6 (d := dOf "is_block" (top 19)) rfl
  obtain ⟨fd7, F7⟩ := c.def_ 7 (d := dOf "is_lot" (top 21)) rfl
  obtain ⟨fd8, F8⟩ := c.def_ 8 (d := dOf "need_lot" (top 22)) rfl
  obtain ⟨fd9, F9⟩ := c.def_ 9 (d := dOf "is_full" (top 23)) rfl
  obtain ⟨fd10, F10⟩ := c.def_ 10 (d := dOf "need_pit" (top 24)) rfl
  obtain ⟨fd11, F11⟩ := c.def_ 11 (d := dOf "sized" (top 25)) rfl
  obtain ⟨fd12, F12⟩ := c.def_ 12 (d := dOf "pits_of" (top 26)) rfl
  obtain ⟨fd13, F13⟩ := c.def_ 13 (d := dOf "is_rule" (top 30)) rfl
  obtain ⟨fd14, F14⟩ := c.def_ 14 (d := dOf "first_steep" (top 31)) rfl
  obtain ⟨fd15, F15⟩ := c.def_ 15 (d := dCl "Table" "__init__" "Table.__init__" (inClass sTable 0)) rfl
  obtain ⟨fd16, F16⟩ := c.def_ 16 (d := dOf "need_table" (top 33)) rfl
  obtain ⟨fd17, F17⟩ := c.def_ 17 (d := dOf "cells_of" (top 34)) rfl
  obtain ⟨fd18, F18⟩ := c.def_ 18 (d := dOf "beside" (top 35)) rfl
  obtain ⟨fd19, F19⟩ := c.def_ 19 (d := dOf "needed_cells" (top 36)) rfl
  obtain ⟨fd20, F20⟩ := c.def_ 20 (d := dOf "made_ground" (top 37)) rfl
  obtain ⟨fd21, F21⟩ := c.def_ 21 (d := dOf "ground_of" (top 38)) rfl
  obtain ⟨fd22, F22⟩ := c.def_ 22 (d := dOf "as_profile" (top 39)) rfl
  obtain ⟨fd23, F23⟩ := c.def_ 23 (d := dOf "profiles_of" (top 40)) rfl
  obtain ⟨fd24, F24⟩ := c.def_ 24 (d := dOf "need_worths" (top 43)) rfl
  obtain ⟨fd25, F25⟩ := c.def_ 25 (d := dOf "sum_of" (top 44)) rfl
  obtain ⟨fd26, F26⟩ := c.def_ 26 (d := dOf "greatest_of" (top 45)) rfl
  obtain ⟨fd27, F27⟩ := c.def_ 27 (d := dOf "best_pits" (top 46)) rfl
  obtain ⟨fd28, F28⟩ := c.def_ 28 (d := dOf "best_worth" (top 47)) rfl
  obtain ⟨fd29, F29⟩ := c.def_ 29 (d := dOf "least_best" (top 48)) rfl
  obtain ⟨fd30, F30⟩ := c.def_ 30 (d := dOf "greatest_best" (top 49)) rfl
  obtain ⟨fd31, F31⟩ := c.def_ 31 (d := dOf "need_wanted" (top 51)) rfl
  obtain ⟨fd32, F32⟩ := c.def_ 32 (d := dOf "best_profile" (top 52)) rfl
  obtain ⟨fd33, F33⟩ := c.def_ 33 (d := dOf "_law_taken" (top 54)) rfl
  obtain ⟨fd34, F34⟩ := c.def_ 34 (d := dOf "_law_table_of" (top 55)) rfl
  obtain ⟨fd35, F35⟩ := c.def_ 35 (d := dOf "_law_blocks" (top 56)) rfl
  obtain ⟨fd36, F36⟩ := c.def_ 36 (d := dOf "_law_worths" (top 57)) rfl
  obtain ⟨fd37, F37⟩ := c.def_ 37 (d := dOf "_law_depths" (top 58)) rfl
  obtain ⟨fd38, F38⟩ := c.def_ 38 (d := dOf "_law_lets" (top 59)) rfl
  obtain ⟨fd39, F39⟩ := c.def_ 39 (d := dOf "_law_profiles" (top 60)) rfl
  obtain ⟨fd40, F40⟩ := c.def_ 40 (d := dOf "_law_alike" (top 61)) rfl
  obtain ⟨fd41, F41⟩ := c.def_ 41 (d := dOf "law" (top 62)) rfl
  have eL := hfa.symm.trans (He.glo_ok X G (c.fact 38 (f := .glo "law") rfl))
  cases eL
  have bL := FunD.bindsA (ps := ["_law_script"]) F41 fun _ _ _ _ _ _ us hl => match us, hl with | [_], _ => rfl
  refine ⟨fd41, fun s v => bL s [v] rfl, fun base _ _ => ?_⟩
  have d_is_from : Dn P w K mg base "is_from" 1 (RisFrom K) := dn_is_from F0 (He.glo_ok X G (c.fact 0 (f := .glo "is_from") rfl)) T
  have d_rises : Dn P w K mg base "rises" 1 (Rrises K) := dn_rises F1 (He.glo_ok X G (c.fact 1 (f := .glo "rises") rfl)) T
  have d_is_cover : Dn P w K mg base "is_cover" 2 (RisCover K) := dn_is_cover F2 (He.glo_ok X G (c.fact 2 (f := .glo "is_cover") rfl)) T d_is_from d_rises
  have MG : MkI P w K mg base (He.ga K "Ground") 3 (RGinit K) := ⟨_, _, _, He.mkr_ok (c.fact 66 (f := .mkr "Ground") rfl), ok_ginit F3 T d_is_cover, FunD.bindsN F3 fun _ _ _ _ _ _ us hl => match us, hl with | [_, _], _ => rfl⟩
  have LG : LenG P w K mg base (He.ga K "Ground") := ⟨_, _, _, ok_glen F4 T, He.meth_ok (c.fact 65 (f := .meth "Ground" "__len__") rfl), FunD.bindsN F4 fun _ _ _ _ _ _ us hl => match us, hl with | [_], _ => rfl⟩
  have d_need_ground : Dn P w K mg base "need_ground" 1 (RneedGround K (He.ga K "Ground")) := dn_need_ground F5 (He.glo_ok X G (c.fact 3 (f := .glo "need_ground") rfl)) T
  have d_is_block : Dn P w K mg base "is_block" 3 (RisBlock K (He.ga K "Ground")) := dn_is_block F6 (He.glo_ok X G (c.fact 4 (f := .glo "is_block") rfl)) T LG d_is_from
  have d_is_lot : Dn P w K mg base "is_lot" 4 (RisLot K (He.ga K "Ground")) := dn_is_lot F7 (He.glo_ok X G (c.fact 5 (f := .glo "is_lot") rfl)) T d_is_block d_rises
  have d_need_lot : Dn P w K mg base "need_lot" 5 (RneedLot K (He.ga K "Ground")) := dn_need_lot F8 (He.glo_ok X G (c.fact 6 (f := .glo "need_lot") rfl)) T d_need_ground d_is_lot
  have d_is_full : Dn P w K mg base "is_full" 1 (RisFull K (He.ga K "Ground")) := dn_is_full F9 (He.glo_ok X G (c.fact 7 (f := .glo "is_full") rfl)) T
  have d_need_pit : Dn P w K mg base "need_pit" 6 (RneedPit K (He.ga K "Ground")) := dn_need_pit F10 (He.glo_ok X G (c.fact 8 (f := .glo "need_pit") rfl)) T d_need_lot d_is_full
  have d_sized : Dn P w K mg base "sized" 1 (Rsized K) := dn_sized F11 (He.glo_ok X G (c.fact 9 (f := .glo "sized") rfl)) T
  have d_pits_of : Dn P w K mg base "pits_of" 4 (RpitsOf K (He.ga K "Ground")) := dn_pits_of F12 (He.glo_ok X G (c.fact 10 (f := .glo "pits_of") rfl)) T LG d_sized
  have d_is_rule : Dn P w K mg base "is_rule" 2 (RisRule K) := dn_is_rule F13 (He.glo_ok X G (c.fact 11 (f := .glo "is_rule") rfl)) T d_is_from
  have d_first_steep : Dn P w K mg base "first_steep" 1 (RfirstSteep K) := dn_first_steep F14 (He.glo_ok X G (c.fact 12 (f := .glo "first_steep") rfl)) T
  have MT : MkI P w K mg base (He.ga K "Table") 3 (RTinit K) := ⟨_, _, _, He.mkr_ok (c.fact 67 (f := .mkr "Table") rfl), ok_tinit F15 T d_is_from d_is_rule d_first_steep, FunD.bindsN F15 fun _ _ _ _ _ _ us hl => match us, hl with | [_, _, _], _ => rfl⟩
  have d_need_table : Dn P w K mg base "need_table" 1 (RneedTable K (He.ga K "Table")) := dn_need_table F16 (He.glo_ok X G (c.fact 13 (f := .glo "need_table") rfl)) T
  have d_cells_of : Dn P w K mg base "cells_of" 1 (RcellsOf K (He.ga K "Table")) := dn_cells_of F17 (He.glo_ok X G (c.fact 14 (f := .glo "cells_of") rfl)) T
  have d_beside : Dn P w K mg base "beside" 1 (Rbeside K (He.ga K "Table")) := dn_beside F18 (He.glo_ok X G (c.fact 15 (f := .glo "beside") rfl)) T
  have d_needed_cells : Dn P w K mg base "needed_cells" 2 (RneededCells K (He.ga K "Table")) := dn_needed_cells F19 (He.glo_ok X G (c.fact 16 (f := .glo "needed_cells") rfl)) T d_beside
  have d_made_ground : Dn P w K mg base "made_ground" 5 (RmadeGround K (He.ga K "Ground") (He.ga K "Table")) := dn_made_ground F20 (He.glo_ok X G (c.fact 17 (f := .glo "made_ground") rfl)) T MG d_cells_of d_needed_cells
  have d_ground_of : Dn P w K mg base "ground_of" 6 (RmadeGround K (He.ga K "Ground") (He.ga K "Table")) := dn_ground_of F21 (He.glo_ok X G (c.fact 18 (f := .glo "ground_of") rfl)) T d_need_table d_made_ground
  have d_as_profile : Dn P w K mg base "as_profile" 7 (RasProfile K (He.ga K "Table")) := dn_as_profile F22 (He.glo_ok X G (c.fact 19 (f := .glo "as_profile") rfl)) T d_need_table d_made_ground d_need_pit d_cells_of
  have d_profiles_of : Dn P w K mg base "profiles_of" 2 (RprofilesOf K (He.ga K "Table")) := dn_profiles_of F23 (He.glo_ok X G (c.fact 20 (f := .glo "profiles_of") rfl)) T d_first_steep
  have d_need_worths : Dn P w K mg base "need_worths" 3 (RneedWorths K (He.ga K "Ground")) := dn_need_worths F24 (He.glo_ok X G (c.fact 21 (f := .glo "need_worths") rfl)) T LG d_need_ground d_is_from
  have d_sum_of : Dn P w K mg base "sum_of" 1 (RsumOf K) := dn_sum_of F25 (He.glo_ok X G (c.fact 22 (f := .glo "sum_of") rfl)) T
  have d_greatest_of : Dn P w K mg base "greatest_of" 2 (RgreatestOf K) := dn_greatest_of F26 (He.glo_ok X G (c.fact 23 (f := .glo "greatest_of") rfl)) T d_sum_of
  have d_best_pits : Dn P w K mg base "best_pits" 5 (RbestPits K (He.ga K "Ground")) := dn_best_pits F27 (He.glo_ok X G (c.fact 24 (f := .glo "best_pits") rfl)) T d_pits_of d_greatest_of d_sum_of
  have d_best_worth : Dn P w K mg base "best_worth" 5 (RbestWorth K (He.ga K "Ground")) := dn_best_worth F28 (He.glo_ok X G (c.fact 25 (f := .glo "best_worth") rfl)) T d_need_worths d_pits_of d_greatest_of
  have d_least_best : Dn P w K mg base "least_best" 6 (RleastBest K (He.ga K "Ground")) := dn_least_best F29 (He.glo_ok X G (c.fact 26 (f := .glo "least_best") rfl)) T d_need_worths d_best_pits
  have d_greatest_best : Dn P w K mg base "greatest_best" 6 (RgreatestBest K (He.ga K "Ground")) := dn_greatest_best F30 (He.glo_ok X G (c.fact 27 (f := .glo "greatest_best") rfl)) T d_need_worths d_best_pits
  have d_need_wanted : Dn P w K mg base "need_wanted" 2 (RneedWanted K (He.ga K "Table")) := dn_need_wanted F31 (He.glo_ok X G (c.fact 28 (f := .glo "need_wanted") rfl)) T d_need_table d_is_from
  have d_best_profile : Dn P w K mg base "best_profile" 3 (RbestProfile K (He.ga K "Table")) := dn_best_profile F32 (He.glo_ok X G (c.fact 29 (f := .glo "best_profile") rfl)) T d_need_wanted d_profiles_of
  have d_taken : DnX P w K mg base "_law_taken" 1 (Rtaken K) := dnx_taken F33 (He.glo_ok X G (c.fact 30 (f := .glo "_law_taken") rfl)) T
  have d_table_of : DnX P w K mg base "_law_table_of" 2 (RtableOf K) := dnx_table_of F34 (He.glo_ok X G (c.fact 31 (f := .glo "_law_table_of") rfl)) T d_taken
  have d_worths : DnX P w K mg base "_law_worths" 2 (Rworths K) := dnx_worths F36 (He.glo_ok X G (c.fact 33 (f := .glo "_law_worths") rfl)) T d_taken
  have d_blocks : Dn P w K mg base "_law_blocks" 1 (Rblocks K) := dn_blocks F35 (He.glo_ok X G (c.fact 32 (f := .glo "_law_blocks") rfl)) T
  have d_depths : Dn P w K mg base "_law_depths" 1 (Rdepths K) := dn_depths F37 (He.glo_ok X G (c.fact 34 (f := .glo "_law_depths") rfl)) T
  have d_lets : Dn P w K mg base "_law_lets" 1 (Rlets K) := dn_lets F38 (He.glo_ok X G (c.fact 35 (f := .glo "_law_lets") rfl)) T
  have d_profiles : Dn P w K mg base "_law_profiles" 2 (Rprofiles K) := dn_profiles F39 (He.glo_ok X G (c.fact 36 (f := .glo "_law_profiles") rfl)) T d_depths d_lets
  have d_alike : Dn P w K mg base "_law_alike" 3 (Ralike K 2) := dn_alike F40 (He.glo_ok X G (c.fact 37 (f := .glo "_law_alike") rfl)) T 2
  exact ok_law F41 ⟨T, MT, d_table_of, d_worths, d_blocks, d_profiles, d_alike, d_best_profile, d_ground_of, d_best_worth, d_least_best, d_greatest_best, d_as_profile⟩
end PX
open PySem PySem.W PySem.Calls PyProof.Rows
theorem PySem.Challenge.cw_pitlots_k47_whole_best_profiles_holds : PySem.Challenge.rw_pitlots_k47_whole_best_profiles.Holds := by
  w_on; o_law
  refine HandSHeadRun.head_any (r := OpenLaw.row PySem.Challenge.rw_pitlots_k47_whole_best_profiles) (q := view (OpenLaw.row PySem.Challenge.rw_pitlots_k47_whole_best_profiles).prog [62]) (H := PX.hkX) (ob := PX.obX) (M := 5000) (loose := PX.looseA) (d := HandSHeadRun.topDef (OpenLaw.row PySem.Challenge.rw_pitlots_k47_whole_best_profiles).prog 62) (kwd := []) PX.obX_eq
    (by kernel_rfl) (fun s => by kernel_rfl) PX.runX (by kernel_rfl) (by kernel_rfl) (by kernel_rfl) (by rfl) (by first | assumption | decide +kernel) (by decide +kernel) ⟨rfl, rfl, rfl, rfl, rfl, by decide +kernel⟩ ?hw ?hc
  case hw => w_witness2
  case hc =>
    refine L2.walk_ofE (l := PySem.Challenge.rw_pitlots_k47_whole_best_profiles) (n := 63) (k := 8) (x := "_law_script") (CX := L2.CX0) rfl (by decide) (by kernel_rfl) ⟨rfl, by decide, by decide⟩ ?F (fun _ _ _ _ z => z)
    intro w mg fa h Y G hmg0
    obtain ⟨K, KX, c, e⟩ := Y
    have hmg : mg ("law" : PySem.Str) = some (.ref fa) := by
      have e : (HandSHeadRun.topDef (OpenLaw.row PySem.Challenge.rw_pitlots_k47_whole_best_profiles).prog 62).name = ("law" : PySem.Str) := by kernel_rfl
      rw [← e]
      exact hmg0
    obtain ⟨fd, hb, hF⟩ := PX.factsA (P := (PySem.Challenge.rw_pitlots_k47_whole_best_profiles).prog) (w := w) KX G hmg c e
    exact ⟨K, fd, PX.spL K, KX, hb, fun H a ns hl _ hS => ⟨a, ns, rfl, hS, fun _ => rfl⟩, hF⟩

