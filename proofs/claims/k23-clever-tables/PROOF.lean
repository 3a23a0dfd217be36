import PyProof.Rows.All
import Wide.All
import OpenK.AllK
import Wide.FinOn
import KE.SortData
import HandS.ForMost
import HandS.More
import HandS.Flow
import HandS.Style
import HandS.Zip
import HandS.Walk
import HandS.DictComp
import HandS.SetKeys
import HandS.SortKw
import HandS.Conv
import HandS.IsInst
import HandS.Codes
import HandS.Defaults
import HandS.HeadHook4
import KE.BitLaws
import KE.KStateDown
import Lean
import HandS.WordsExc
import HandS.Ends
import HandS.Head0
import HandS.Head1
import HandS.Head2
import HandS.HeadEnd
import PySem.Challenge.RW_likeslips_k23_whole_clever_tables
set_option Elab.async false
set_option linter.all false
set_option maxRecDepth 100000
/-! The plain law: rows, sides, depths, standings. No program here. -/
namespace Lik
abbrev Row := List Bool
abbrev Stg := List (Option Bool)

/-! ### sides and open places -/
def side (b : Bool) (p : Nat) (rows : List Row) : List Row := rows.filter fun r => r.getD p false == b
def isOpen (rows : List Row) (p : Nat) : Bool := !(side false p rows).isEmpty && !(side true p rows).isEmpty
def opens (n : Nat) (rows : List Row) : List Nat := (List.range n).filter (isOpen rows)
theorem mem_side {b : Bool} {p : Nat} {rows : List Row} {r : Row} : r ∈ side b p rows ↔ r ∈ rows ∧ r.getD p false = b := by
  unfold side
  rw [List.mem_filter, beq_iff_eq]
theorem side_sub (b : Bool) (p : Nat) (rows : List Row) : (side b p rows).Sublist rows := List.filter_sublist
theorem side_len (p : Nat) : ∀ rows : List Row, (side false p rows).length + (side true p rows).length = rows.length
  | [] => rfl
  | r :: rs => by
    have ih := side_len p rs
    unfold side at ih ⊢
    rw [List.filter_cons, List.filter_cons]
    cases h : r.getD p false
    · simp only [BEq.rfl, if_true, List.length_cons]
      rw [if_neg (by decide)]
      omega
    · simp only [BEq.rfl, if_true, List.length_cons]
      rw [if_neg (by decide)]
      omega
theorem isOpen_iff {rows : List Row} {p : Nat} : isOpen rows p = true ↔ side false p rows ≠ [] ∧ side true p rows ≠ [] := by
  unfold isOpen
  simp
theorem side_ne {rows : List Row} {p : Nat} (h : isOpen rows p = true) (b : Bool) : side b p rows ≠ [] := by
  have := isOpen_iff.mp h
  cases b
  · exact this.1
  · exact this.2
theorem side_lt {rows : List Row} {p : Nat} (h : isOpen rows p = true) (b : Bool) : (side b p rows).length < rows.length := by
  have e := side_len p rows
  have h0 := List.length_pos_iff.mpr (side_ne h false)
  have h1 := List.length_pos_iff.mpr (side_ne h true)
  cases b <;> omega
theorem mem_opens {n : Nat} {rows : List Row} {p : Nat} : p ∈ opens n rows ↔ p < n ∧ isOpen rows p = true := by
  unfold opens
  rw [List.mem_filter, List.mem_range]
theorem opens_nodup (n : Nat) (rows : List Row) : (opens n rows).Nodup := List.Pairwise.filter _ List.nodup_range
theorem opens_nil (n : Nat) : opens n [] = [] := by
  unfold opens
  rw [List.filter_eq_nil_iff]
  intro a _
  simp [isOpen, side]
theorem opens_len (n : Nat) (rows : List Row) : (opens n rows).length ≤ n := by
  have := List.length_filter_le (isOpen rows) (List.range n)
  rw [List.length_range] at this
  exact this

/-! ### the greatest of a fold -/
def mx (f : Nat → Nat) (l : List Nat) (b : Nat) : Nat := l.foldl (fun best p => max best (f p)) b
theorem mx_init (f : Nat → Nat) : ∀ (l : List Nat) (b : Nat), b ≤ mx f l b
  | [], b => Nat.le_refl b
  | p :: r, b => Nat.le_trans (Nat.le_max_left b (f p)) (mx_init f r (max b (f p)))
theorem mx_ge (f : Nat → Nat) : ∀ (l : List Nat) (b p : Nat), p ∈ l → f p ≤ mx f l b
  | q :: r, b, p, h => by
    rcases List.mem_cons.mp h with e | h
    · subst e
      exact Nat.le_trans (Nat.le_max_right b (f p)) (mx_init f r (max b (f p)))
    · exact mx_ge f r (max b (f q)) p h
theorem mx_le (f : Nat → Nat) (c : Nat) : ∀ (l : List Nat) (b : Nat), b ≤ c → (∀ p ∈ l, f p ≤ c) → mx f l b ≤ c
  | [], b, h, _ => h
  | q :: r, b, h, hl => mx_le f c r (max b (f q)) (Nat.max_le.mpr ⟨h, hl q List.mem_cons_self⟩) fun p hp => hl p (List.mem_cons_of_mem _ hp)
theorem mx_at (f : Nat → Nat) : ∀ (l : List Nat) (b : Nat), mx f l b = b ∨ ∃ p ∈ l, mx f l b = f p
  | [], b => .inl rfl
  | q :: r, b => by
    rcases mx_at f r (max b (f q)) with e | ⟨p, hp, e⟩
    · have e' : mx f (q :: r) b = max b (f q) := e
      rcases Nat.le_total b (f q) with h | h
      · right
        exact ⟨q, List.mem_cons_self, by rw [e', Nat.max_eq_right h]⟩
      · left
        rw [e', Nat.max_eq_left h]
    · exact .inr ⟨p, List.mem_cons_of_mem _ hp, e⟩
theorem mx_congr {f g : Nat → Nat} : ∀ (l : List Nat) (b : Nat), (∀ p ∈ l, f p = g p) → mx f l b = mx g l b
  | [], _, _ => rfl
  | q :: r, b, h => by
    show mx f r (max b (f q)) = mx g r (max b (g q))
    rw [h q List.mem_cons_self]
    exact mx_congr r _ fun p hp => h p (List.mem_cons_of_mem _ hp)
theorem mx_take (f : Nat → Nat) {l : List Nat} {i p : Nat} (h : l[i]? = some p) : mx f (l.take (i + 1)) 0 = max (mx f (l.take i) 0) (f p) := by
  have e : l.take (i + 1) = l.take i ++ [p] := by rw [List.take_add_one, h]; rfl
  unfold mx
  rw [e, List.foldl_append]
  rfl

/-! ### the depth of the deepest full tree -/
def dep (n : Nat) : Nat → List Row → Nat
  | 0, _ => 0
  | f + 1, rows => mx (fun p => 1 + min (dep n f (side false p rows)) (dep n f (side true p rows))) (opens n rows) 0
theorem dep_nil (n : Nat) : ∀ f, dep n f [] = 0
  | 0 => rfl
  | f + 1 => by
    unfold dep
    rw [opens_nil]
    rfl
theorem dep_same (n : Nat) : ∀ (f g : Nat) (rows : List Row), rows.length ≤ f → rows.length ≤ g → dep n f rows = dep n g rows
  | 0, g, rows, h, _ => by
    have e : rows = [] := List.length_eq_zero_iff.mp (Nat.le_zero.mp h)
    rw [e, dep_nil, dep_nil]
  | f + 1, 0, rows, _, h => by
    have e : rows = [] := List.length_eq_zero_iff.mp (Nat.le_zero.mp h)
    rw [e, dep_nil, dep_nil]
  | f + 1, g + 1, rows, h1, h2 => by
    unfold dep
    refine mx_congr _ _ fun p hp => ?_
    have ho := (mem_opens.mp hp).2
    have l0 := side_lt ho false
    have l1 := side_lt ho true
    rw [dep_same n f g (side false p rows) (by omega) (by omega), dep_same n f g (side true p rows) (by omega) (by omega)]
def D (n : Nat) (rows : List Row) : Nat := dep n rows.length rows
abbrev stepD (n : Nat) (rows : List Row) (p : Nat) : Nat := 1 + min (D n (side false p rows)) (D n (side true p rows))
theorem D_eq (n : Nat) (rows : List Row) : D n rows = mx (stepD n rows) (opens n rows) 0 := by
  rw [show D n rows = dep n (rows.length + 1) rows from dep_same n _ _ rows (Nat.le_refl _) (Nat.le_succ _)]
  refine mx_congr _ _ fun p hp => ?_
  have ho := (mem_opens.mp hp).2
  have l0 := side_lt ho false
  have l1 := side_lt ho true
  show 1 + min (dep n rows.length _) (dep n rows.length _) = _
  rw [dep_same n rows.length _ (side false p rows) (by omega) (Nat.le_refl _), dep_same n rows.length _ (side true p rows) (by omega) (Nat.le_refl _)]
  rfl
theorem D_ge {n : Nat} {rows : List Row} {p : Nat} (h : p ∈ opens n rows) : stepD n rows p ≤ D n rows := by
  rw [D_eq]
  exact mx_ge _ _ _ p h
theorem D_le {n : Nat} {rows : List Row} {c : Nat} (h : ∀ p ∈ opens n rows, stepD n rows p ≤ c) : D n rows ≤ c := by
  rw [D_eq]
  exact mx_le _ _ _ _ (Nat.zero_le _) h
theorem side_in {b : Bool} {p : Nat} {S T : List Row} (h : ∀ r ∈ S, r ∈ T) : ∀ r ∈ side b p S, r ∈ side b p T := fun r hr =>
  mem_side.mpr ⟨h r (mem_side.mp hr).1, (mem_side.mp hr).2⟩
theorem ne_in {S T : List Row} (h : ∀ r ∈ S, r ∈ T) (hs : S ≠ []) : T ≠ [] := by
  obtain ⟨r, hr⟩ := List.exists_mem_of_ne_nil S hs
  exact List.ne_nil_of_mem (h r hr)
theorem open_in {p : Nat} {S T : List Row} (h : ∀ r ∈ S, r ∈ T) (ho : isOpen S p = true) : isOpen T p = true :=
  isOpen_iff.mpr ⟨ne_in (side_in h) (side_ne ho false), ne_in (side_in h) (side_ne ho true)⟩
theorem D_mono (n : Nat) : ∀ (k : Nat) (S T : List Row), S.length ≤ k → (∀ r ∈ S, r ∈ T) → D n S ≤ D n T
  | 0, S, T, hk, _ => by
    have e : S = [] := List.length_eq_zero_iff.mp (Nat.le_zero.mp hk)
    rw [e, D_eq, opens_nil]
    exact Nat.zero_le _
  | k + 1, S, T, hk, h => by
    refine D_le fun p hp => ?_
    obtain ⟨hpn, ho⟩ := mem_opens.mp hp
    have l0 := side_lt ho false
    have l1 := side_lt ho true
    have m0 := D_mono n k (side false p S) (side false p T) (by omega) (side_in h)
    have m1 := D_mono n k (side true p S) (side true p T) (by omega) (side_in h)
    have g := D_ge (n := n) (mem_opens.mpr ⟨hpn, open_in h ho⟩)
    unfold stepD at g ⊢
    omega
theorem D_sub {n : Nat} {S T : List Row} (h : ∀ r ∈ S, r ∈ T) : D n S ≤ D n T := D_mono n S.length S T (Nat.le_refl _) h
theorem D_side {n : Nat} (b : Bool) (p : Nat) (rows : List Row) : D n (side b p rows) ≤ D n rows := D_sub fun _ hr => (mem_side.mp hr).1
theorem D_pow (n : Nat) : ∀ (k : Nat) (rows : List Row), rows.length ≤ k → rows ≠ [] → 2 ^ D n rows ≤ rows.length
  | 0, rows, hk, hn => absurd (List.length_eq_zero_iff.mp (Nat.le_zero.mp hk)) hn
  | k + 1, rows, hk, hn => by
    rcases mx_at (stepD n rows) (opens n rows) 0 with e | ⟨p, hp, e⟩
    · rw [D_eq, e]
      exact List.length_pos_iff.mpr hn
    · have ho := (mem_opens.mp hp).2
      have l0 := side_lt ho false
      have l1 := side_lt ho true
      have m0 := D_pow n k (side false p rows) (by omega) (side_ne ho false)
      have m1 := D_pow n k (side true p rows) (by omega) (side_ne ho true)
      have es := side_len p rows
      rw [D_eq, e]
      unfold stepD
      rw [Nat.pow_add, Nat.pow_one]
      have a0 : 2 ^ min (D n (side false p rows)) (D n (side true p rows)) ≤ 2 ^ D n (side false p rows) := Nat.pow_le_pow_right (by decide) (Nat.min_le_left _ _)
      have a1 : 2 ^ min (D n (side false p rows)) (D n (side true p rows)) ≤ 2 ^ D n (side true p rows) := Nat.pow_le_pow_right (by decide) (Nat.min_le_right _ _)
      omega
/-- a place whose lesser side is too small adds nothing -/
theorem D_prune {n : Nat} {rows : List Row} {p best : Nat} (hp : p ∈ opens n rows) (h : min (side false p rows).length (side true p rows).length < 2 ^ best) : stepD n rows p ≤ best := by
  have ho := (mem_opens.mp hp).2
  have m0 := D_pow n _ (side false p rows) (Nat.le_refl _) (side_ne ho false)
  have m1 := D_pow n _ (side true p rows) (Nat.le_refl _) (side_ne ho true)
  have a0 : 2 ^ min (D n (side false p rows)) (D n (side true p rows)) ≤ 2 ^ D n (side false p rows) := Nat.pow_le_pow_right (by decide) (Nat.min_le_left _ _)
  have a1 : 2 ^ min (D n (side false p rows)) (D n (side true p rows)) ≤ 2 ^ D n (side true p rows) := Nat.pow_le_pow_right (by decide) (Nat.min_le_right _ _)
  have lt : 2 ^ min (D n (side false p rows)) (D n (side true p rows)) < 2 ^ best := by omega
  have := (Nat.pow_lt_pow_iff_right (a := 2) (by decide)).mp lt
  unfold stepD
  omega
/-- the law's own search -/
def lterm (z o : Nat) : Nat := min (max z (o + 1)) (max o (z + 1))
theorem D_least (n : Nat) (rows : List Row) : mx (fun p => lterm (D n (side false p rows)) (D n (side true p rows))) (opens n rows) 0 = D n rows := by
  refine Nat.le_antisymm (mx_le _ _ _ _ (Nat.zero_le _) fun p hp => ?_) ?_
  · have g := D_ge hp
    have m0 := D_side (n := n) false p rows
    have m1 := D_side (n := n) true p rows
    unfold stepD at g
    unfold lterm
    omega
  · rw [D_eq]
    refine mx_le _ _ _ _ (Nat.zero_le _) fun p hp => Nat.le_trans ?_ (mx_ge _ _ _ p hp)
    unfold stepD lterm
    omega

/-! ### the word of the cleverest -/
def wordOf (n : Nat) (rows : List Row) (p : Nat) : Bool := !decide (D n (side true p rows) ≤ D n (side false p rows))
theorem word_sure (n : Nat) (rows : List Row) (p : Nat) : D n (side (wordOf n rows p) p rows) ≤ D n rows := D_side _ p rows
theorem word_slip {n : Nat} {rows : List Row} {p : Nat} (hp : p ∈ opens n rows) : D n (side (!wordOf n rows p) p rows) < D n rows := by
  have g := D_ge hp
  unfold stepD at g
  unfold wordOf
  by_cases h : D n (side true p rows) ≤ D n (side false p rows)
  · rw [decide_eq_true h]
    show D n (side true p rows) < _
    omega
  · rw [decide_eq_false h]
    show D n (side false p rows) < _
    omega

/-! ### standings -/
def fits (r : Row) (s : Stg) : Bool := (List.range s.length).all fun i => s.getD i none == none || s.getD i none == some (r.getD i false)
def rowsOf (R : List Row) (s : Stg) : List Row := R.filter fun r => fits r s
def st0 (n : Nat) : Stg := List.replicate n none
theorem fits_iff {r : Row} {s : Stg} : fits r s = true ↔ ∀ i < s.length, s.getD i none = none ∨ s.getD i none = some (r.getD i false) := by
  unfold fits
  rw [List.all_eq_true]
  simp only [List.mem_range, Bool.or_eq_true, beq_iff_eq]
theorem getD_set_same {α : Type} {l : List α} {p : Nat} {x d : α} (h : p < l.length) : (l.set p x).getD p d = x := by
  rw [List.getD_eq_getElem?_getD, List.getElem?_set_self h]
  rfl
theorem getD_set_ne {α : Type} {l : List α} {p i : Nat} {x d : α} (h : p ≠ i) : (l.set p x).getD i d = l.getD i d := by
  rw [List.getD_eq_getElem?_getD, List.getElem?_set_ne h, List.getD_eq_getElem?_getD]
theorem fits_set {r : Row} {s : Stg} {p : Nat} {b : Bool} (hp : p < s.length) (hn : s.getD p none = none) : fits r (s.set p (some b)) = true ↔ fits r s = true ∧ r.getD p false = b := by
  rw [fits_iff, fits_iff, List.length_set]
  constructor
  · intro h
    refine ⟨fun i hi => ?_, ?_⟩
    · by_cases e : p = i
      · subst e
        exact .inl hn
      · have := h i hi
        rw [getD_set_ne e] at this
        exact this
    · have := h p hp
      rw [getD_set_same hp] at this
      rcases this with z | z
      · cases z
      · exact (Option.some.inj z).symm
  · rintro ⟨h1, h2⟩ i hi
    by_cases e : p = i
    · subst e
      rw [getD_set_same hp, h2]
      exact .inr rfl
    · rw [getD_set_ne e]
      exact h1 i hi
theorem rowsOf_set {R : List Row} {s : Stg} {p : Nat} {b : Bool} (hp : p < s.length) (hn : s.getD p none = none) : rowsOf R (s.set p (some b)) = side b p (rowsOf R s) := by
  unfold rowsOf side
  rw [List.filter_filter]
  refine List.filter_congr fun r _ => ?_
  have := fits_set (r := r) (b := b) hp hn
  cases h1 : fits r (s.set p (some b)) <;> cases h2 : fits r s <;> cases h3 : (r.getD p false == b) <;> simp_all
theorem rowsOf_st0 (n : Nat) (R : List Row) : rowsOf R (st0 n) = R := by
  unfold rowsOf
  rw [List.filter_eq_self]
  intro r _
  refine fits_iff.mpr fun i hi => .inl ?_
  unfold st0 at hi ⊢
  rw [List.length_replicate] at hi
  rw [List.getD_eq_getElem?_getD, List.getElem?_replicate, if_pos hi]
  rfl
theorem open_none {n : Nat} {R : List Row} {s : Stg} {p : Nat} (hl : s.length = n) (hp : p ∈ opens n (rowsOf R s)) : s.getD p none = none := by
  obtain ⟨hpn, ho⟩ := mem_opens.mp hp
  have one : ∀ b, side b p (rowsOf R s) ≠ [] → s.getD p none = none ∨ s.getD p none = some b := fun b hb => by
    obtain ⟨r, hr⟩ := List.exists_mem_of_ne_nil _ hb
    obtain ⟨h1, h2⟩ := mem_side.mp hr
    have := fits_iff.mp (List.mem_filter.mp h1).2 p (by omega)
    rw [h2] at this
    exact this
  rcases one false (side_ne ho false) with z | z
  · exact z
  · rcases one true (side_ne ho true) with y | y
    · exact y
    · rw [z] at y
      cases y
inductive Reach (n : Nat) (R : List Row) : Stg → Prop
  | base : Reach n R (st0 n)
  | step {s : Stg} {p : Nat} (b : Bool) : Reach n R s → p ∈ opens n (rowsOf R s) → Reach n R (s.set p (some b))
theorem Reach.len {n : Nat} {R : List Row} {s : Stg} (h : Reach n R s) : s.length = n := by
  induction h with
  | base => unfold st0; rw [List.length_replicate]
  | step b _ _ ih => rw [List.length_set, ih]
theorem Reach.rows {n : Nat} {R : List Row} {s : Stg} {p : Nat} (h : Reach n R s) (hp : p ∈ opens n (rowsOf R s)) (b : Bool) : rowsOf R (s.set p (some b)) = side b p (rowsOf R s) :=
  rowsOf_set (by rw [h.len]; exact (mem_opens.mp hp).1) (open_none h.len hp)
theorem Reach.ne {n : Nat} {R : List Row} {s : Stg} (hR : R ≠ []) (h : Reach n R s) : rowsOf R s ≠ [] := by
  induction h with
  | base => rw [rowsOf_st0]; exact hR
  | step b hs hp ih =>
    rw [hs.rows hp]
    exact side_ne (mem_opens.mp hp).2 b
def told (s : Stg) : Nat := s.countP (·.isSome)
theorem told_le (s : Stg) : told s ≤ s.length := List.countP_le_length
theorem told_st0 (n : Nat) : told (st0 n) = 0 := by
  unfold told st0
  rw [List.countP_replicate]
  rfl
theorem told_set : ∀ {s : Stg} {p : Nat} {b : Bool}, p < s.length → s.getD p none = none → told (s.set p (some b)) = told s + 1
  | [], p, b, h, _ => by simp at h
  | x :: r, 0, b, _, h => by
    have e : x = none := h
    subst e
    unfold told
    simp
  | x :: r, p + 1, b, h, hn => by
    have ih := told_set (s := r) (p := p) (b := b) (by simpa using h) hn
    unfold told at ih ⊢
    rw [List.set_cons_succ, List.countP_cons, List.countP_cons, ih]
    omega
theorem Reach.told_step {n : Nat} {R : List Row} {s : Stg} {p : Nat} (h : Reach n R s) (hp : p ∈ opens n (rowsOf R s)) (b : Bool) : told (s.set p (some b)) = told s + 1 :=
  told_set (by rw [h.len]; exact (mem_opens.mp hp).1) (open_none h.len hp)
theorem Reach.back {n : Nat} {R : List Row} {s : Stg} {k : Nat} (h : Reach n R s) (hk : told s = k + 1) :
    ∃ (s' : Stg) (p : Nat) (b : Bool), Reach n R s' ∧ told s' = k ∧ p ∈ opens n (rowsOf R s') ∧ s = s'.set p (some b) := by
  cases h with
  | base => rw [told_st0] at hk; cases hk
  | step b hs hp =>
    refine ⟨_, _, b, hs, ?_, hp, rfl⟩
    rw [hs.told_step hp b] at hk
    omega
theorem Reach.zero {n : Nat} {R : List Row} {s : Stg} (h : Reach n R s) (hk : told s = 0) : s = st0 n := by
  cases h with
  | base => rfl
  | step b hs hp =>
    rw [hs.told_step hp b] at hk
    cases hk

/-! ### counting -/
theorem nodup_len {α : Type} [DecidableEq α] : ∀ {l m : List α}, l.Nodup → (∀ x ∈ l, x ∈ m) → l.length ≤ m.length
  | [], _, _, _ => Nat.zero_le _
  | a :: r, m, h, hs => by
    obtain ⟨h1, h2⟩ := List.nodup_cons.mp h
    have ha := hs a List.mem_cons_self
    have ih := nodup_len (l := r) (m := m.erase a) h2 fun x hx => (List.mem_erase_of_ne (fun e => h1 (by rw [← e]; exact hx))).mpr (hs x (List.mem_cons_of_mem _ hx))
    have e := List.length_erase_of_mem ha
    have hp := List.length_pos_of_mem ha
    rw [List.length_cons]
    omega
def allSt : Nat → List Stg
  | 0 => [[]]
  | n + 1 => (allSt n).map (none :: ·) ++ ((allSt n).map (some false :: ·) ++ (allSt n).map (some true :: ·))
theorem allSt_len : ∀ n, (allSt n).length = 3 ^ n
  | 0 => rfl
  | n + 1 => by
    unfold allSt
    rw [List.length_append, List.length_append, List.length_map, List.length_map, List.length_map, allSt_len n, Nat.pow_succ]
    omega
theorem allSt_mem : ∀ (s : Stg), s ∈ allSt s.length
  | [] => List.mem_singleton.mpr rfl
  | x :: r => by
    have ih := allSt_mem r
    show x :: r ∈ allSt (r.length + 1)
    unfold allSt
    rw [List.mem_append, List.mem_append]
    cases x with
    | none => exact .inl (List.mem_map.mpr ⟨r, ih, rfl⟩)
    | some b =>
      cases b
      · exact .inr (.inl (List.mem_map.mpr ⟨r, ih, rfl⟩))
      · exact .inr (.inr (List.mem_map.mpr ⟨r, ih, rfl⟩))
theorem stg_count {n : Nat} {l : List Stg} (hd : l.Nodup) (h : ∀ s ∈ l, s.length = n) : l.length ≤ 3 ^ n := by
  rw [← allSt_len n]
  exact nodup_len hd fun s hs => by
    have := allSt_mem s
    rw [h s hs] at this
    exact this
def subs {α : Type} : List α → List (List α)
  | [] => [[]]
  | a :: r => subs r ++ (subs r).map (a :: ·)
theorem subs_len {α : Type} : ∀ l : List α, (subs l).length = 2 ^ l.length
  | [] => rfl
  | a :: r => by
    unfold subs
    rw [List.length_append, List.length_map, subs_len r, List.length_cons, Nat.pow_succ]
    omega
theorem subs_mem {α : Type} {l m : List α} (h : l.Sublist m) : l ∈ subs m := by
  induction h with
  | slnil => exact List.mem_singleton.mpr rfl
  | cons a _ ih => exact List.mem_append_left _ ih
  | cons_cons a _ ih => exact List.mem_append_right _ (List.mem_map.mpr ⟨_, ih, rfl⟩)
end Lik
/-! Rules of one's own over the hand layer, the words for rows and standings on the heap, the defs of the text. -/
namespace Lik
open PySem PySem.Spec PyProof.Rows L2

/-! ### signs, rows, standings as texts -/
def sgn (b : Bool) : Nat := if b = true then 49 else 48
def mrk : Option Bool → Nat
  | none => 46
  | some b => sgn b
def sgS (b : Bool) : Str := ⟨#[sgn b]⟩
def encR (r : Row) : Str := ⟨(r.map sgn).toArray⟩
def encS (s : Stg) : Str := ⟨(s.map mrk).toArray⟩
theorem lit0 : (("0" : String) : Str) = sgS false := by decide +kernel
theorem lit1 : (("1" : String) : Str) = sgS true := by decide +kernel
theorem litD : (("." : String) : Str) = ⟨#[46]⟩ := by decide +kernel
theorem lit01 : (("01" : String) : Str) = ⟨#[48, 49]⟩ := by decide +kernel
theorem sgn_inj {a b : Bool} (h : sgn a = sgn b) : a = b := by
  cases a <;> cases b <;> first | rfl | cases h
theorem mrk_inj {a b : Option Bool} (h : mrk a = mrk b) : a = b := by
  cases a with
  | none => cases b with
    | none => rfl
    | some y => cases y <;> cases h
  | some x => cases b with
    | none => cases x <;> cases h
    | some y => rw [sgn_inj h]
theorem map_inj {α β : Type} {f : α → β} (hf : ∀ a b, f a = f b → a = b) : ∀ {l m : List α}, l.map f = m.map f → l = m
  | [], [], _ => rfl
  | [], _ :: _, h => by cases h
  | _ :: _, [], h => by cases h
  | a :: l, b :: m, h => by
    injection h with h1 h2
    rw [hf a b h1, map_inj hf h2]
theorem encR_inj {a b : Row} (h : encR a = encR b) : a = b := by
  injection h with h
  exact map_inj (fun _ _ => sgn_inj) (by simpa using congrArg Array.toList h)
theorem encS_inj {a b : Stg} (h : encS a = encS b) : a = b := by
  injection h with h
  exact map_inj (fun _ _ => mrk_inj) (by simpa using congrArg Array.toList h)
theorem sgS_inj {a b : Bool} (h : sgS a = sgS b) : a = b := by
  injection h with h
  exact sgn_inj (by simpa using congrArg Array.toList h)
theorem encR_len (r : Row) : (encR r).length = r.length := by
  show ((r.map sgn).toArray).size = _
  simp
theorem encS_len (s : Stg) : (encS s).length = s.length := by
  show ((s.map mrk).toArray).size = _
  simp
theorem encR_at {r : Row} {p : Nat} (h : p < r.length) : atI (encR r).cps.toList (p : Int) = some (sgn (r.getD p false)) := by
  refine atI_nat ?_
  show ((r.map sgn).toArray).toList[p]? = _
  rw [List.getD_eq_getElem?_getD]
  simp [List.getElem?_eq_getElem h]
def rowsV (R : List Row) : List V := R.map fun r => .str (encR r)
def rowsK (R : List Row) : List Key := R.map fun r => .inr (encR r)
theorem rowsK_V (R : List Row) : (rowsK R).map kV = rowsV R := by
  unfold rowsK rowsV
  rw [List.map_map]
  rfl
theorem rowsK_inj {R S : List Row} (h : rowsK R = rowsK S) : R = S := map_inj (f := fun r => (Sum.inr (encR r) : Key)) (fun _ _ h => encR_inj (Sum.inr.inj h)) h
theorem rowsV_len (R : List Row) : (rowsV R).length = R.length := List.length_map _
theorem rowsV_get {R : List Row} {i : Nat} {x : V} (h : (rowsV R)[i]? = some x) : ∃ r, R[i]? = some r ∧ x = .str (encR r) := by
  unfold rowsV at h
  rw [List.getElem?_map] at h
  cases e : R[i]? with
  | none =>
    rw [e] at h
    cases h
  | some r =>
    rw [e] at h
    exact ⟨r, rfl, (Option.some.inj h).symm⟩
/-- the rows have n places each -/
def Wide (n : Nat) (R : List Row) : Prop := ∀ r ∈ R, r.length = n
theorem Wide.side {n : Nat} {R : List Row} (h : Wide n R) (b : Bool) (p : Nat) : Wide n (side b p R) := fun r hr => h r (mem_side.mp hr).1
theorem Wide.sub {n : Nat} {R S : List Row} (h : Wide n R) (hs : S.Sublist R) : Wide n S := fun r hr => h r (hs.subset hr)

/-! ### heaps -/
/-- all but a stays -/
def But (a : Addr) (H H' : Hp) : Prop := ∀ b o, b ≠ a → H b = some o → H' b = some o
/-- what may be read stays so -/
def Keep (H H' : Hp) : Prop := ∀ a u, Mut (some u) ∨ (∃ xs, u = .tup xs) → Rd H a u → Rd H' a u
theorem same_new {H : Hp} {p : Addr} (h : H p = none) (o : HO) : Same H (upd H p o) := fun b u q => by
  rw [upd_ne (ne_of_none q h)]
  exact q
theorem same_rd {H H' : Hp} {a : Addr} {u : HO} (s : Same H H') (r : Rd H a u) : Rd H' a u := by
  rcases r with r | ⟨o, r⟩
  · exact .inl (s _ _ r)
  · exact .inr ⟨o, s _ _ r⟩
theorem same_keep {H H' : Hp} (s : Same H H') : Keep H H' := fun _ _ _ r => same_rd s r
theorem Keep.refl (H : Hp) : Keep H H := fun _ _ _ r => r
theorem Keep.trans {H H1 H2 : Hp} (a : Keep H H1) (b : Keep H1 H2) : Keep H H2 := fun c u m r => b c u m (a c u m r)
theorem Keep.sqT {K : PySem.W.Frag} {H H' : Hp} {a : Addr} {xs : List V} (k : Keep H H') (h : SqT K H a xs) : SqT K H' a xs := by
  rcases h with h | h
  · exact .inl (k _ _ (.inr ⟨xs, rfl⟩) h)
  · exact .inr h
theorem Keep.sqL {K : PySem.W.Frag} {H H' : Hp} {a : Addr} {xs : List V} (k : Keep H H') (h : SqL K H a xs) : SqL K H' a xs := by
  rcases h with h | h
  · exact .inl (k _ _ (.inl True.intro) h)
  · exact .inr h
theorem Keep.dK {H H' : Hp} {a : Addr} {kvs : List (Key × V)} (k : Keep H H') (h : Rd H a (.dK kvs)) : Rd H' a (.dK kvs) := k _ _ (.inl True.intro) h
theorem Keep.lk {H : Hp} {d : Addr} {u : HO} (od : Obj) (h : H d = some u) (mu : Mut (some u)) : Keep H (upd H d (.frz od u)) := fun a w mw r => by
  by_cases e : a = d
  · subst e
    have ew : w = u := by
      rcases r with r | ⟨o, r⟩
      · rw [h] at r
        exact (Option.some.inj r).symm
      · rw [h] at r
        rw [Option.some.inj r] at mu
        exact mu.elim
    subst ew
    exact .inr ⟨od, upd_same⟩
  · unfold Rd
    rw [upd_ne e]
    exact r
theorem But.of {H H' : Hp} {a : Addr} (s : Same H H') : But a H H' := fun b o _ q => s b o q
theorem But.trans {H H1 H2 : Hp} {a : Addr} (x : But a H H1) (y : But a H1 H2) : But a H H2 := fun b o n q => y b o n (x b o n q)
theorem but_upd {H : Hp} {a : Addr} (o : HO) : But a H (upd H a o) := fun b u n q => by
  rw [upd_ne n]
  exact q
theorem But.rd {H H' : Hp} {a b : Addr} {u : HO} (s : But a H H') (n : b ≠ a) (r : Rd H b u) : Rd H' b u := by
  rcases r with r | ⟨o, r⟩
  · exact .inl (s _ _ n r)
  · exact .inr ⟨o, s _ _ n r⟩
/-- behind a lock the old heap is had again -/
theorem same_unlk {H H' : Hp} {d : Addr} {o0 o1 : HO} (h : H d = some o0) (s : Same (upd H d o1) H') : Same H (upd H' d o0) := fun b o q => by
  by_cases e : b = d
  · subst e
    rw [h] at q
    rw [upd_same]
    exact q
  · rw [upd_ne e]
    exact s b o (by rw [upd_ne e]; exact q)

/-! ### a new list at D, made turn by turn of the items of l, all else as it was -/
def PvF {α : Type} (H1 : Hp) (D : Addr) (l : List α) (F : α → List V) (i : Nat) (H : Hp) : Prop := Same H1 H ∧ H D = some (.lst ((l.take i).flatMap F))
theorem take_flat {α : Type} {l : List α} {F : α → List V} {i : Nat} {a : α} (h : l[i]? = some a) : (l.take (i + 1)).flatMap F = (l.take i).flatMap F ++ F a := by
  have e : l.take (i + 1) = l.take i ++ [a] := by rw [List.take_add_one, h]; rfl
  rw [e, List.flatMap_append]
  simp
theorem flat_len {α : Type} {F : α → List V} (hF : ∀ a, (F a).length ≤ 1) : ∀ l : List α, (l.flatMap F).length ≤ l.length
  | [] => Nat.le_refl _
  | a :: r => by
    have ih := flat_len hF r
    have h := hF a
    rw [List.flatMap_cons, List.length_append, List.length_cons]
    omega
theorem PvF.zero {α : Type} {H1 : Hp} {D : Addr} {l : List α} {F : α → List V} (hD : H1 D = none) : PvF H1 D l F 0 (upd H1 D (.lst [])) := ⟨same_new hD _, upd_same⟩
theorem PvF.add {α : Type} {H1 H H4 : Hp} {D : Addr} {l : List α} {F : α → List V} {i : Nat} {a : α} {y : V} (p : PvF H1 D l F i H) (hD : H1 D = none) (s : Same H H4) (hF : ∀ a, (F a).length ≤ 1) (hl : l.length ≤ sizeLine) (ha : l[i]? = some a) (e : F a = [y]) :
    ∃ acc, H4 D = some (.lst acc) ∧ acc.length < sizeLine ∧ PvF H1 D l F (i + 1) (upd H4 D (.lst (acc ++ [y]))) := by
  refine ⟨_, s _ _ p.2, ?_, ?_, ?_⟩
  · have h1 := flat_len hF (l.take i)
    have h2 := (List.getElem?_eq_some_iff.mp ha).1
    rw [List.length_take] at h1
    omega
  · intro b o q
    rw [upd_ne (ne_of_none q hD)]
    exact s _ _ (p.1 _ _ q)
  · rw [upd_same, take_flat ha, e]
theorem PvF.skip {α : Type} {H1 H H4 : Hp} {D : Addr} {l : List α} {F : α → List V} {i : Nat} {a : α} (p : PvF H1 D l F i H) (s : Same H H4) (ha : l[i]? = some a) (e : F a = []) : PvF H1 D l F (i + 1) H4 := by
  refine ⟨p.1.trans s, ?_⟩
  rw [take_flat ha, e, List.append_nil]
  exact s _ _ p.2
theorem PvF.done {α : Type} {H1 H : Hp} {D : Addr} {l : List α} {F : α → List V} {n : Nat} (p : PvF H1 D l F n H) (hn : n = l.length) : H D = some (.lst (l.flatMap F)) := by
  have h := p.2
  rw [hn, List.take_length] at h
  exact h
theorem flat_if {α : Type} (q : α → Bool) (f : α → V) : ∀ l : List α, (l.flatMap fun a => if q a = true then [f a] else []) = (l.filter q).map f
  | [] => rfl
  | a :: r => by
    have ih := flat_if q f r
    rw [List.flatMap_cons, ih, List.filter_cons]
    cases q a <;> rfl
theorem flat_map {α : Type} (f : α → V) : ∀ l : List α, (l.flatMap fun a => [f a]) = l.map f
  | [] => rfl
  | a :: r => by
    rw [List.flatMap_cons, flat_map f r]
    rfl

/-! ### locks -/
/-- the thing at d, locked already or not, is locked while the statement runs -/
def tLkR (t : TS) : TS := fun D σ H => ∃ d u o0, H d = some o0 ∧ (o0 = u ∨ ∃ o, o0 = .frz o u) ∧ Mut (some u) ∧ ∀ od,
  t ⟨fun σ' H' => H' d = some (.frz od u) ∧ D.nx σ' (upd H' d o0), fun v H' => H' d = some (.frz od u) ∧ D.rt v (upd H' d o0), fun σ' H' => H' d = some (.frz od u) ∧ D.bk σ' (upd H' d o0), fun σ' H' => H' d = some (.frz od u) ∧ D.ct σ' (upd H' d o0)⟩ σ (upd H d (.frz od u))
def tLkE (t : TE) : TE := fun σ H Q => ∃ d u o0, H d = some o0 ∧ (o0 = u ∨ ∃ o, o0 = .frz o u) ∧ Mut (some u) ∧ ∀ od, t σ (upd H d (.frz od u)) fun v H' => H' d = some (.frz od u) ∧ Q v (upd H' d o0)
theorem upd_eq {H : Hp} {a : Addr} {o : HO} (h : H a = some o) : upd H a o = H := by
  funext b
  by_cases e : b = a
  · rw [e, upd_same, h]
  · rw [upd_ne e]
section
variable {X : Cx}
theorem ps_lkr {st : Stmt} {t : TS} (h : PS X st t) : PS X st (tLkR t) := by
  refine ⟨fun pins s σ H D I hw => ?_⟩
  obtain ⟨d, u, o0, hd, ho, mu, hw⟩ := hw
  rcases ho with rfl | ⟨o, rfl⟩
  · exact (ps_lock h).run pins s σ H D I ⟨d, o0, hd, mu, hw⟩
  · have q := hw o
    rw [upd_eq hd] at q
    refine thn (h.run pins s σ H _ I q) fun f s1 q => ?_
    cases f with
    | next => obtain ⟨σ', H', I2, e, q⟩ := q; rw [upd_eq e] at q; exact ⟨σ', H', I2, q⟩
    | brk => obtain ⟨σ', H', I2, e, q⟩ := q; rw [upd_eq e] at q; exact ⟨σ', H', I2, q⟩
    | cont => obtain ⟨σ', H', I2, e, q⟩ := q; rw [upd_eq e] at q; exact ⟨σ', H', I2, q⟩
    | ret v => obtain ⟨x, σ', H', I2, r, e, q⟩ := q; rw [upd_eq e] at q; exact ⟨x, σ', H', I2, r, q⟩
theorem pe_lkr {e : Expr} {t : TE} (h : PE X e t) : PE X e (tLkE t) := by
  refine ⟨fun pins s σ H Q I hw => ?_⟩
  obtain ⟨d, u, o0, hd, ho, mu, hw⟩ := hw
  rcases ho with rfl | ⟨o, rfl⟩
  · exact (pe_lock h).run pins s σ H Q I ⟨d, o0, hd, mu, hw⟩
  · have q := hw o
    rw [upd_eq hd] at q
    refine thn (h.run pins s σ H _ I q) fun v s1 ⟨x, H1, I2, r, e2, q⟩ => ?_
    rw [upd_eq e2] at q
    exact ⟨x, H1, I2, r, q⟩
/-- what an expression gives is locked for good -/
def tFrz (t : TE) : TE := fun σ H Q => t σ H fun x H1 => ∃ d u, x = .ref d ∧ H1 d = some u ∧ Mut (some u) ∧ ∀ od, Q x (upd H1 d (.frz od u))
theorem pe_frz {e : Expr} {t : TE} (h : PE X e t) : PE X e (tFrz t) := by
  refine ⟨fun pins s σ H Q I hw => thn (h.run pins s σ H _ I hw) fun v s1 ⟨x, H1, I1, r, d, u, ex, hd, mu, q⟩ => ?_⟩
  obtain ⟨od, I2⟩ := I1.lock hd mu
  exact ⟨x, _, I2, r, q od⟩

/-! ### a name bound to a dict comprehension -/
theorem ps_setDc {i : Nat} {y : Str} {py : Pos} {kx vx tg iter : Expr} {ifs : List Expr} {scope : Scope} {own : List (Str × Nat)} {pos spos : Pos} {wi : TI} {g : TG} {tt : TT} {tk tv : TE} (hc : X.calm = true) (hN : X.N.Nodup) (hy : X.N[i]? = some y) (hyl : X.env.scope.names.lookup y = some .local)
    (hsw : swapsWith (.DictComp kx vx [⟨tg, iter, ifs, 0⟩] scope pos) (some (.Name y py)) spos.line X.env = pure true) (hi : PI X tg iter wi) (ok : BlkOk X.N X.env.scope scope own)
    (hg : ∀ (s : Shared) (H : Hp) (C : Addr) (cl : List (Str × Addr)) (fp : List Addr), PG (X.blk s H scope (compEnvC scope cl C X.env) fp) tg g) (ht : ∀ (s : Shared) (H : Hp) (C : Addr) (cl : List (Str × Addr)) (fp : List Addr), PTs (X.blk s H scope (compEnvC scope cl C X.env) fp) ifs tt)
    (hk : ∀ (s : Shared) (H : Hp) (C : Addr) (cl : List (Str × Addr)) (fp : List Addr), PE (X.blk s H scope (compEnvC scope cl C X.env) fp) kx tk) (he : ∀ (s : Shared) (H : Hp) (C : Addr) (cl : List (Str × Addr)) (fp : List Addr), PE (X.blk s H scope (compEnvC scope cl C X.env) fp) vx tv)
    (hs : ∀ x, foldedSetIterable iter X.env x = pure x := by intro _; rfl) :
    PS X (.Assign [.Name y py] (.DictComp kx vx [⟨tg, iter, ifs, 0⟩] scope pos) spos) (tAsg (tDc wi g tt tk tv (own.map (·.2))) (gName i)) := by
  refine ⟨fun pins s σ H D I h => ?_⟩
  rw [exec_Assign_Name_used _ _ _ _ hsw]
  refine wpAny_bind (wpAny_standAt (wpAny_bind ?_))
  show wpAny _ X.A (do let _ ← comprehension (.DictComp kx vx [⟨tg, iter, ifs, 0⟩] scope pos) scope X.env (firstIterPos [⟨tg, iter, ifs, 0⟩] pos) newDict false (eval iter X.env) (some (assign (.Name y py) X.env))) _ _ s
  have h : tDc wi g tt tk tv (own.map (·.2)) σ H (fun x H1 => gName i x σ H1 D.nx) := h
  refine wpAny_bind (thn (dc_core (Qf := fun _ s' => SP X pins D .next s') hc hN I hi ok hg ht hk he hs h fun L C s' m H' I' q hn f => ?_) fun _ s' hq => wpAny_pure (wpAny_pure hq))
  show wpAny _ _ (assign (.Name y py) X.env (.ref L)) _ _ _
  refine wpAny_assign_Name (store_ok2 (v := V.ref L) I' hN hy (.inl hyl) rfl (fun s2 I2 ⟨a, sb, ha⟩ => ?_) (.inr hyl))
  obtain ⟨f0, f1, f2, f3, f4, f5⟩ := f
  have ac : C ≠ a := by
    rcases ha with z | z
    · rw [z]
      exact f1
    · exact fun e => f4 y a z e.symm
  refine ⟨m, hn.sameBut sb ac, fun h3 sb3 => ?_⟩
  exact ⟨_, H', I2.turned (t' := s2.toks) (fun b o hb e => (sb3.2 b hb).trans e) f0 f1 f3 f4 f5, q⟩
theorem swd_true {kx vx : Expr} {gs : List Comprehension} {scope : Scope} {pos py : Pos} {y : Str} {l : Nat} {env : Env} (hk : env.scope.kind = .function) (hy : env.scope.names.lookup y = some .local) (hl : (py.line == pos.line) = true)
    (ha : (scope.names.any fun (n, k) => n == y && (k == .local || k == .cell)) = false) : swapsWith (.DictComp kx vx gs scope pos) (some (.Name y py)) l env = pure true := by
  have ky : env.kindOf y = some .local := hy
  have hb : env.blockKind = .function := by
    unfold Env.blockKind
    rw [hk]
    rfl
  unfold swapsWith
  simp only [hb, ky, ha, Expr.pos, hl]
  rfl

/-! ### more operators and calls -/
theorem op_mul_str : OpR X (binaryOp .Mult) (fun x y H Q => ∃ z n, x = .str z ∧ y = .int n ∧ MulOk z n ∧ Q (.str (Txt.mul z n)) H) := by
  intro pins s σ H x y v u Q I rx ry h
  obtain ⟨z, n, rfl, rfl, hok, q⟩ := h
  obtain ⟨t, rfl⟩ := rx
  obtain ⟨t', rfl⟩ := ry
  exact SB.mul hok fun t2 k => ⟨.str (Txt.mul z n), H, I.tok _, ⟨_, rfl⟩, q⟩
/-- len of a dict, locked or not -/
theorem call_lenR : CallR X (.builtin "len") (fun xs H Q => ∃ a kvs, xs = [V.ref a] ∧ Rd H a (.dK kvs) ∧ Q (.int kvs.length) H) := by
  intro pins s σ H xs us Q I r h
  obtain ⟨a, kvs, rfl, ha, q⟩ := h
  obtain ⟨u, rfl, ru⟩ := vals1 r
  cases ru
  exact d_len I ha fun t s' I' => ⟨.int kvs.length, H, I', ⟨t, rfl⟩, q⟩
/-- d.copy() -/
def rDCopy : V → List V → Hp → VK → Prop := fun x vs H Q => ∃ a kvs, x = .ref a ∧ vs = [] ∧ Rd H a (.dK kvs) ∧ ∀ p, H p = none → Q (.ref p) (upd H p (.dK kvs))
theorem mt_dcopy : MtM X "dict.copy" rDCopy := by
  intro pins s σ H x vs v us Q I rx rv h
  obtain ⟨a, kvs, rfl, rfl, hH, q⟩ := h
  cases rx
  have hus := rv.zero
  subst hus
  obtain ⟨z, hd, vs, rel, dd⟩ := dk_rd I.hok hH
  refine call_meetsIn PySem.F.slot_dict_copy dd.typeIs PySem.F.entry_dict_copy (PySem.F.args_dict_copy_1 _) (meets_dict_copy (mixKind X.prog X.w) a hd) ⟨vs, dd, by rw [← rel.length]; exact z, fun h' d1 d2 k => ?_⟩
  have hb : (s.heap.objs.size == sysModules) = false := beq_eq_false_iff_ne.mpr (Ne.symm (Nat.ne_of_lt I.big))
  exact ⟨.ref s.heap.objs.size, _, I.laid (t' := s.toks) k (Nat.le_refl _) (dk_new z hb rel d1), rfl, q _ (I.hok.fresh (Nat.le_refl _))⟩
end

/-! ### rules with the written part named (within a comprehension's block it must not hang on the block) -/
section
variable {X : Cx}
theorem op_inK (K : PySem.W.Frag) (h : X.K = K := by rfl) : OpR X (compareOp .In) (rIn K false) := by subst h; exact op_in_seq
theorem ix_listK (K : PySem.W.Frag) (h : X.K = K := by rfl) : IxR X (rIxL K) := by subst h; exact ix_list
theorem ix_tupK (K : PySem.W.Frag) (h : X.K = K := by rfl) : IxR X (rIxT K) := by subst h; exact ix_tup
theorem cr_allK (K : PySem.W.Frag) (hc : X.calm = true := by rfl) (h : X.K = K := by rfl) : CallR X (.builtin "all") (rAll K) := by subst h; exact cr_all hc
theorem cr_anyK (K : PySem.W.Frag) (hc : X.calm = true := by rfl) (h : X.K = K := by rfl) : CallR X (.builtin "any") (rAny K) := by subst h; exact cr_any hc
theorem call_isiK1 (K : PySem.W.Frag) (h : X.K = K := by rfl) : CallR X (.builtin "isinstance") (rIsi K) := by subst h; exact call_isi
def rLenV (K : PySem.W.Frag) : List V → Hp → VK → Prop := fun xs H Q => ∃ x n, xs = [x] ∧ LenV K x H n ∧ Q (.int (n : Nat)) H
theorem call_lenK (K : PySem.W.Frag) (h : X.K = K := by rfl) : CallR X (.builtin "len") (rLenV K) := by subst h; exact call_len
theorem pi_listK (K : PySem.W.Frag) {tg l : Expr} {tl : TE} (hl : PE X l tl) (h : X.K = K := by rfl) : PI X tg l (iList K tl) := by subst h; exact pi_list hl
theorem pi_tupK (K : PySem.W.Frag) {tg l : Expr} {tl : TE} (hl : PE X l tl) (h : X.K = K := by rfl) : PI X tg l (iTup K tl) := by subst h; exact pi_tup hl
end

/-! ### the defs of the text -/
def top (i : Nat) : Stmt := PySem.Challenge.pw_likeslips_k23_whole_clever_tables.main.body.getD i (.Pass ⟨0, 0, 0, 0⟩)
def dOf (x : Str) (i : Nat) : He.DefD := ⟨(x, none), x, x, defArgs (top i), defBody (top i), defScope (top i), [], []⟩
def dLot : He.DefD := ⟨("Lot", some "__init__"), "__init__", "Lot.__init__", defArgs (inClass (top 11) 0), defBody (inClass (top 11) 0), defScope (inClass (top 11) 0), [], []⟩
def fnG : List He.DefD := [dOf "is_integer" 8, dOf "is_sign" 9, dOf "is_row" 10, dOf "start" 12, dOf "differing" 13, dOf "parted" 14, dOf "with_sign" 15, dOf "reached" 16, dOf "has_just" 18, dOf "deepest_from" 20, dOf "clever_memory" 21, dOf "cleverest" 22, dOf "word_at" 24, dOf "clever_table" 25, dOf "is_entry" 26, dOf "is_clever_table" 27, dOf "_law_deck" 29, dOf "_law_pick" 30, dOf "_law_fold" 31, dOf "_law_row" 32, dOf "_law_rows" 33, dOf "_law_few" 34, dOf "_law_ways" 35, dOf "_law_reached" 36, dOf "_law_is_entry" 37, dOf "_law_is_table" 38, dOf "_law_most" 39, dOf "_law_least" 40, dOf "law" 41, dLot]
def faG : List He.Fa := [.free "isinstance", .free "int", .free "bool", .free "str", .free "all", .free "any", .free "list", .free "tuple", .free "dict", .free "len", .free "enumerate", .free "sorted", .free "range", .free "zip", .free "min", .free "max",
  .glo "SIGNS", .str "DOT" ".", .int "MOST_ROWS" 64, .int "MOST_PLACES" 10, .glo "Lot", .cls "Lot", .mkr "Lot", .noat "Lot" "rows", .noat "Lot" "places", .noat "Lot" "known"] ++ ((fnG.take 29).map fun d => He.Fa.glo d.name)
def exG (K : PySem.W.Frag) : Bool := He.tupB K "SIGNS" [.str "0", .str "1"]
/-- what the top has left -/
structure Txt (K : PySem.W.Frag) (mg : Str → Option Value) : Prop where
  c : He.SaysD faG fnG K
  sg : exG K = true
  X : ∃ h : Heap, K.In h ∧ h.Ns mainGlobals mg
section
variable {K : PySem.W.Frag} {mg : Str → Option Value}
theorem Txt.free (T : Txt K mg) (i : Nat) {x : Str} (h : faG[i]? = some (.free x) := by rfl) : mg x = none := by
  obtain ⟨hp, X, G⟩ := T.X
  exact He.free_ok X G (T.c.fact i h)
theorem Txt.glo (T : Txt K mg) (i : Nat) {x : Str} (h : faG[i]? = some (.glo x) := by rfl) : mg x = some (.ref (He.ga K x)) := by
  obtain ⟨hp, X, G⟩ := T.X
  exact He.glo_ok X G (T.c.fact i h)
theorem Txt.int (T : Txt K mg) (i : Nat) {x : Str} {n : Int} (h : faG[i]? = some (.int x n) := by rfl) : ∃ t, mg x = some (.int n t) := by
  obtain ⟨hp, X, G⟩ := T.X
  exact He.int_ok X G (T.c.fact i h)
theorem Txt.str (T : Txt K mg) (i : Nat) {x z : Str} (h : faG[i]? = some (.str x z) := by rfl) : ∃ t, mg x = some (.str z t) := by
  obtain ⟨hp, X, G⟩ := T.X
  exact He.str_ok X G (T.c.fact i h)
theorem Txt.isi (T : Txt K mg) : mg "isinstance" = none := T.free 0
theorem Txt.intB (T : Txt K mg) : mg "int" = none := T.free 1
theorem Txt.boolB (T : Txt K mg) : mg "bool" = none := T.free 2
theorem Txt.strB (T : Txt K mg) : mg "str" = none := T.free 3
theorem Txt.allB (T : Txt K mg) : mg "all" = none := T.free 4
theorem Txt.anyB (T : Txt K mg) : mg "any" = none := T.free 5
theorem Txt.listB (T : Txt K mg) : mg "list" = none := T.free 6
theorem Txt.tupleB (T : Txt K mg) : mg "tuple" = none := T.free 7
theorem Txt.dictB (T : Txt K mg) : mg "dict" = none := T.free 8
theorem Txt.lenB (T : Txt K mg) : mg "len" = none := T.free 9
theorem Txt.enumB (T : Txt K mg) : mg "enumerate" = none := T.free 10
theorem Txt.sortedB (T : Txt K mg) : mg "sorted" = none := T.free 11
theorem Txt.rangeB (T : Txt K mg) : mg "range" = none := T.free 12
theorem Txt.zipB (T : Txt K mg) : mg "zip" = none := T.free 13
theorem Txt.minB (T : Txt K mg) : mg "min" = none := T.free 14
theorem Txt.maxB (T : Txt K mg) : mg "max" = none := T.free 15
theorem Txt.signs (T : Txt K mg) : mg "SIGNS" = some (.ref (He.ga K "SIGNS")) := T.glo 16
theorem Txt.signsT (T : Txt K mg) (H : Hp) : SqT K H (He.ga K "SIGNS") [.str (sgS false), .str (sgS true)] := by
  have h := He.tupB_ok T.sg H
  rw [← lit0, ← lit1]
  exact h
variable {P : Program} {w : World} {base : Heap}
end
/-- a def that may be called by its name -/
structure CalL (P : Program) (w : World) (K : PySem.W.Frag) (mg : Str → Option Value) (base : Heap) (k : Nat) (x : Str) (sp : Sp) : Prop where
  ex : ∃ (f : Addr) (fd : FuncData) (ps : List Str), FnOk P w K mg base CX0 k f fd ps sp ∧ mg x = some (.ref f) ∧ PySem.W.keepIn K (.ref f) = true ∧ Binds K fd ps []
def tF (sp : Sp) (t : TA) : TE := fun σ H Q => t σ H fun vs H1 => sp vs H1 Q E0
section
variable {X : Cx} {k j : Nat} {x : Str} {sp : Sp} {p pos : Pos} {e : Expr} {es : List Expr} {t : TA}
theorem pe_f (c : CalL X.prog X.w X.K X.mg X.base k x sp) (hr : Room j X.A) (hk : k ≤ j) (hg : Gl X x) (ha : PA X (e :: es) t)
    (hdb : (x == ("__debug__" : Str)) = false := by decide) (he : starEach (e :: es) X.env = (false, eval e X.env) :: starEach es X.env := by rfl) (hpl : (backTo pos (starEach es X.env)).any (·.1) = false := by rfl) :
    PE X (.Call (.Name x p) (e :: es) [] pos) (tF sp t) := by
  obtain ⟨f, fd, ps, F, hm, kp, b⟩ := c.ex
  have h := pe_call (p := p) (pos := pos) F (hr.mono hk) hg hm kp b .nil pass0 ha hdb he hpl
  have e1 : tCall sp [] E0 t = tF sp t := by
    funext σ H Q
    unfold tCall tF
    simp only [List.append_nil]
  rw [e1] at h
  exact h
end
theorem CalL.mono {P : Program} {w : World} {K : PySem.W.Frag} {mg : Str → Option Value} {base : Heap} {k m : Nat} {x : Str} {sp : Sp} (c : CalL P w K mg base k x sp) (h : k ≤ m) : CalL P w K mg base m x sp := by
  obtain ⟨f, fd, ps, F, r⟩ := c.ex
  exact ⟨f, fd, ps, F.mono h, r⟩
theorem CalL.imp {P : Program} {w : World} {K : PySem.W.Frag} {mg : Str → Option Value} {base : Heap} {k : Nat} {x : Str} {sp sp' : Sp} (c : CalL P w K mg base k x sp) (h : ∀ vs H Q E, sp' vs H Q E → sp vs H Q E) : CalL P w K mg base k x sp' := by
  obtain ⟨f, fd, ps, F, r⟩ := c.ex
  exact ⟨f, fd, ps, F.imp h, r⟩
section
variable {K : PySem.W.Frag} {mg : Str → Option Value} {P : Program} {w : World} {base : Heap}
/-- a def of the top keeps its promise, by its body -/
theorem mkCal {x : Str} {i j : Nat} {N ps : List Str} {k : Nat} {sp : Sp} (T : Txt K mg) (hj : fnG[j]? = some (dOf x i)) (hg : faG[26 + j]? = some (.glo x))
    (hb : ∀ (kV doc pm : Value) (an : Option Addr) (cdv ct : Value) (us : List Value), us.length = ps.length → bindArgs (PySem.W.fnOf x x (defArgs (top i)) (defBody (top i)) (defScope (top i)) .none kV doc pm an cdv ct) ⟨us, []⟩ = pure (ps.zip us))
    (S : FnScope N ps (defScope (top i))) (len : ∀ vs H Q E, sp vs H Q E → vs.length = ps.length)
    (hbody : ∀ (f : Addr) (cdv : Value) (A : Around) (outer : List Env) (s : Shared) (H : Hp) (vs : List V) (Q : VK) (E : XK), Room k (A.deeper (envOfC x (defScope (top i)) s.heap.objs.size f cdv)) → sp vs H Q E →
      ∃ t, PSs (cxOf CX0 P w K mg base N x (defScope (top i)) f cdv A outer s H E).nox (defBody (top i)) t ∧ t { nx := fun _ H' => Q .non H', rt := Q } (L2.start N vs) H) : CalL P w K mg base (k + 1) x sp := by
  obtain ⟨fd, F⟩ := T.c.def_ j hj
  have F' : FunD K x x (defArgs (top i)) (defBody (top i)) (defScope (top i)) [] [] (He.ga K x) fd := F
  refine ⟨⟨He.ga K x, fd, ps, F'.ok S len fun cdv A outer s H vs Q E hr h => ?_, T.glo (26 + j) hg, F'.kp, F'.bindsN hb⟩⟩
  obtain ⟨t, h1, h2⟩ := hbody _ cdv A outer s H vs Q E hr h
  exact ⟨t, h1.nox, h2⟩
end
end Lik
namespace Lik
open PySem PySem.Spec PyProof.Rows L2
theorem bt_isi : bootBuiltins "isinstance" = some (.builtin "isinstance") := by decide +kernel
theorem bt_int : bootBuiltins "int" = some (.type "int") := by decide +kernel
theorem bt_bool : bootBuiltins "bool" = some (.type "bool") := by decide +kernel
theorem bt_str : bootBuiltins "str" = some (.type "str") := by decide +kernel
theorem bt_list : bootBuiltins "list" = some (.type "list") := by decide +kernel
theorem bt_tuple : bootBuiltins "tuple" = some (.type "tuple") := by decide +kernel
theorem bt_dict : bootBuiltins "dict" = some (.type "dict") := by decide +kernel
theorem bt_all : bootBuiltins "all" = some (.builtin "all") := by decide +kernel
theorem bt_any : bootBuiltins "any" = some (.builtin "any") := by decide +kernel
theorem bt_len : bootBuiltins "len" = some (.builtin "len") := by decide +kernel
theorem bt_min : bootBuiltins "min" = some (.builtin "min") := by decide +kernel
theorem bt_max : bootBuiltins "max" = some (.builtin "max") := by decide +kernel
theorem bt_sorted : bootBuiltins "sorted" = some (.builtin "sorted") := by decide +kernel
section
variable {X : Cx} {e : Expr} {te : TE} {p1 p2 p3 : Pos}
/-- isinstance(e, T), T a built-in type -/
theorem pe_isi (K : PySem.W.Frag) {T : Str} {N : String} (hg : Gl X "isinstance") (hm : X.mg "isinstance" = none) (hg2 : Gl X T) (hm2 : X.mg T = none) (hb : bootBuiltins T = some (.type N)) (he : PE X e te) (hn : T ≠ "__name__" := by decide) (hd : (T == ("__debug__" : Str)) = false := by decide)
    (hs : starEach [e, .Name T p2] X.env = (false, eval e X.env) :: starEach [.Name T p2] X.env := by rfl) (hp : (backTo p3 (starEach [.Name T p2] X.env)).any (·.1) = false := by rfl) (hK : X.K = K := by rfl) : PE X (.Call (.Name "isinstance" p1) [e, .Name T p2] [] p3) (tCB (rIsi K) (tCons te (tCons (tC (.ty N)) tNil))) :=
  pe_callB (call_isiK1 K hK) hg hm bt_isi (pa_cons he (pa_cons (pe_bltn (v := .ty N) hg2 hm2 hb rfl hn hd) pa_nil hs2) hs) (by decide) (by decide) hs hp
where hs2 := by rfl
end
/-! ### is_integer, is_sign, is_row -/
def spInt : Sp := fun vs H Q _ => ∃ i : Int, vs = [.int i] ∧ Q (.bl true) H
def spSign : Sp := fun vs H Q _ => ∃ b : Bool, vs = [.str (sgS b)] ∧ Q (.bl true) H
def spRow : Sp := fun vs H Q _ => ∃ r : Row, vs = [.str (encR r)] ∧ r.length ≤ 1000 ∧ ∀ H', Same H H' → Q (.bl true) H'
section
variable {P : Program} {w : World} {K : PySem.W.Frag} {mg : Str → Option Value} {base : Heap}
theorem sc8 : FnScope ["thing"] ["thing"] (defScope (top 8)) := ⟨rfl, rfl, rfl, by decide +kernel, rfl, by decide +kernel, by decide +kernel⟩
theorem c_int (T : Txt K mg) : CalL P w K mg base 1 "is_integer" spInt := by
  refine mkCal T (j := 0) (i := 8) rfl rfl (fun _ _ _ _ _ _ us hl => match us, hl with | [_], _ => rfl) sc8 (fun vs H Q E h => ?_) (fun f cdv A outer s H vs Q E hr h => ?_)
  · obtain ⟨i, rfl, _⟩ := h
    rfl
  · obtain ⟨i, rfl, q⟩ := h
    refine ⟨_, pss_one (ps_ret (pe_and (pe_isi K rfl T.isi rfl T.intB bt_int (pv 0)) (pe_one (pe_not (pe_isi K rfl T.isi rfl T.boolB bt_bool (pv 0)))))), ?_⟩
    refine ⟨_, rfl, _, _, _, _, true, rfl, .ty _, .base (.int i), kit_ty (by decide +kernel), true, rfl, iteT ?_⟩
    exact ⟨_, rfl, _, _, _, _, false, rfl, .ty _, .base (.int i), kit_ty (by decide +kernel), false, rfl, q⟩
theorem sc9 : FnScope ["thing"] ["thing"] (defScope (top 9)) := ⟨rfl, rfl, rfl, by decide +kernel, rfl, by decide +kernel, by decide +kernel⟩
theorem in_signs (b : Bool) : inV (.str (sgS b)) [.str (sgS false), .str (sgS true)] = true := by cases b <;> decide +kernel
theorem c_sign (T : Txt K mg) : CalL P w K mg base 1 "is_sign" spSign := by
  refine mkCal T (j := 1) (i := 9) rfl rfl (fun _ _ _ _ _ _ us hl => match us, hl with | [_], _ => rfl) sc9 (fun vs H Q E h => ?_) (fun f cdv A outer s H vs Q E hr h => ?_)
  · obtain ⟨i, rfl, _⟩ := h
    rfl
  · obtain ⟨b, rfl, q⟩ := h
    refine ⟨_, pss_one (ps_ret (pe_and (pe_isi K rfl T.isi rfl T.strB bt_str (pv 0)) (pe_one (pe_cmpR (op_inK K) (pv 0) (pe_glob (v := .ref (He.ga K "SIGNS")) rfl T.signs rfl) rfl)))), ?_⟩
    refine ⟨_, rfl, _, _, _, _, true, rfl, .ty _, .base (.str _), kit_ty (by decide +kernel), true, rfl, iteT ?_⟩
    refine ⟨_, rfl, _, _, rfl, .inr (T.signsT H), rfl, rfl, ?_⟩
    show Q (.bl (inV _ _)) H
    rw [in_signs]
    exact q
theorem sc10 : FnScope ["thing", "sign"] ["thing"] (defScope (top 10)) := ⟨rfl, rfl, rfl, by decide +kernel, rfl, by decide +kernel, by decide +kernel⟩
theorem c_row (T : Txt K mg) : CalL P w K mg base 1 "is_row" spRow := by
  refine mkCal T (j := 2) (i := 10) rfl rfl (fun _ _ _ _ _ _ us hl => match us, hl with | [_], _ => rfl) sc10 (fun vs H Q E h => ?_) (fun f cdv A outer s H vs Q E hr h => ?_)
  · obtain ⟨i, rfl, _⟩ := h
    rfl
  · obtain ⟨r, rfl, hl, q⟩ := h
    refine ⟨_, pss_one (ps_ret (pe_and (pe_isi K rfl T.isi rfl T.strB bt_str (pv 0)) (pe_one (pe_callB (cr_allK K) rfl T.allB bt_all (pa_cons (pe_lc (own := [("sign", 1)]) (g := gName 1) (tt := tYes) rfl sc10.nd (pi_str (pv 0)) (blkOk_by (N := ["thing", "sign"]) (sc := defScope (top 10)) (by decide +kernel))
      (fun _ _ _ _ _ => pg_name (i := 1) sc10.nd rfl (Or.inl rfl)) (fun _ _ _ _ _ => pts_nil) (fun _ _ _ _ _ => pe_cmpR (op_inK K) (pv 1) (pe_glob (v := .ref (He.ga K "SIGNS")) rfl T.signs rfl) rfl)) pa_nil))))), ?_⟩
    refine ⟨_, rfl, _, _, _, _, true, rfl, .ty _, .base (.str _), kit_ty (by decide +kernel), true, rfl, iteT ?_⟩
    refine ⟨_, rfl, _, rfl, fun D hD => lc_it walk_str (PvF H D r fun _ => [V.bl true]) (PvF.zero hD) (fun _ _ _ _ => trivial) (fun i x H1 H2 hi p y => ?_) (fun H1 p => ?_)⟩
    · obtain ⟨rfl, c, hc, rfl⟩ := y
      have e : (encR r).cps = (r.map sgn).toArray := rfl
      rw [e] at hc hi
      have hi' : i < r.length := by simpa using hi
      have hc' : c = sgn r[i] := by
        have : (r.map sgn)[i]? = some c := by simpa using hc
        rw [List.getElem?_map, List.getElem?_eq_getElem hi'] at this
        exact (Option.some.inj this).symm
      subst hc'
      refine ⟨rfl, _, rfl, _, _, rfl, .inr (T.signsT H2), rfl, rfl, ?_⟩
      rw [show inV (.str ⟨#[sgn r[i]]⟩) [.str (sgS false), .str (sgS true)] = true from in_signs r[i]]
      exact p.add hD (Same.refl _) (fun _ => Nat.le_refl 1) (Nat.le_of_lt (small1000 hl)) (List.getElem?_eq_getElem hi') rfl
    · have e : H1 D = _ := p.done (by show (r.map sgn).toArray.size = _; simp)
      refine ⟨D, r.map fun _ => true, rfl, SqL.of (by rw [e, flat_map, List.map_map]; rfl), ?_⟩
      have z : (r.map fun _ => true).all id = true := by simp
      rw [z]
      exact q H1 p.1
end
end Lik
namespace Lik
open PySem PySem.Spec PyProof.Rows L2
/-! ### start, with_sign -/
theorem dots_ok : ∀ k ∈ List.range 11, MulOk ⟨#[46]⟩ (k : Int) ∧ Txt.mul ⟨#[46]⟩ (k : Int) = encS (st0 k) := by
  unfold MulOk
  decide +kernel
theorem dots_mul {n : Nat} (h : n ≤ 10) : MulOk (("." : String) : Str) (n : Int) ∧ Txt.mul (("." : String) : Str) (n : Int) = encS (st0 n) := by
  rw [litD]
  exact dots_ok n (List.mem_range.mpr (by omega))
theorem str_app (a b : List Nat) : ((⟨a.toArray⟩ : Str) ++ (⟨b.toArray⟩ : Str) : Str) = ⟨(a ++ b).toArray⟩ := by
  show (⟨a.toArray ++ b.toArray⟩ : Str) = _
  simp
theorem cut_to {s : Stg} {p : Nat} (hp : p < s.length) : cutS (encS s) none (some (p : Int)) = ⟨((s.map mrk).take p).toArray⟩ := by
  unfold cutS
  have e1 : HT.sIx (encS s).length 0 none = 0 := rfl
  have e2 : HT.sIx (encS s).length (encS s).length (some (p : Int)) = p := by
    unfold HT.sIx
    simp only [encS_len]
    split <;> omega
  rw [e1, e2]
  show (⟨((((s.map mrk).toArray).toList.drop 0).take (p - 0)).toArray⟩ : Str) = _
  simp
theorem cut_from {s : Stg} {p : Nat} (hp : p < s.length) : cutS (encS s) (some ((p : Int) + 1)) none = ⟨((s.map mrk).drop (p + 1)).toArray⟩ := by
  unfold cutS
  have e1 : HT.sIx (encS s).length (encS s).length none = (encS s).length := rfl
  have e2 : HT.sIx (encS s).length 0 (some ((p : Int) + 1)) = p + 1 := by
    unfold HT.sIx
    simp only [encS_len]
    split <;> omega
  rw [e1, e2, encS_len]
  show (⟨((((s.map mrk).toArray).toList.drop (p + 1)).take (s.length - (p + 1))).toArray⟩ : Str) = _
  have : (((s.map mrk).toArray).toList.drop (p + 1)).take (s.length - (p + 1)) = (s.map mrk).drop (p + 1) := by
    rw [List.take_of_length_le]
    simp
  rw [this]
theorem set_enc {s : Stg} {p : Nat} {b : Bool} (hp : p < s.length) : (cutS (encS s) none (some (p : Int)) ++ sgS b ++ cutS (encS s) (some ((p : Int) + 1)) none : Str) = encS (s.set p (some b)) := by
  rw [cut_to hp, cut_from hp, show sgS b = ⟨[sgn b].toArray⟩ from rfl, str_app, str_app]
  unfold encS
  rw [List.set_eq_take_append_cons_drop, if_pos hp, List.map_append, List.map_cons, List.map_take, List.map_drop]
  simp [mrk]
/-- a lot as an object: its rows, places, memory -/
def lotF (t kn : Addr) (n : Nat) : List (Str × V) := putF "known" (.ref kn) (putF "places" (.int n) (putF "rows" (.ref t) []))
theorem lotF_rows (t kn : Addr) (n : Nat) : (lotF t kn n).lookup ("rows" : Str) = some (.ref t) := by
  unfold lotF
  rw [lookup_putF, if_neg (by decide +kernel), lookup_putF, if_neg (by decide +kernel), lookup_putF, if_pos rfl]
theorem lotF_places (t kn : Addr) (n : Nat) : (lotF t kn n).lookup ("places" : Str) = some (.int n) := by
  unfold lotF
  rw [lookup_putF, if_neg (by decide +kernel), lookup_putF, if_pos rfl]
theorem lotF_known (t kn : Addr) (n : Nat) : (lotF t kn n).lookup ("known" : Str) = some (.ref kn) := by
  unfold lotF
  rw [lookup_putF, if_pos rfl]
/-- an instance of Lot with these fields stands at l -/
def LotAt (K : PySem.W.Frag) (H : Hp) (l t kn : Addr) (n : Nat) : Prop := ∃ dx, H l = some (.ins (He.ga K "Lot") dx (lotF t kn n))
section
variable {P : Program} {w : World} {K : PySem.W.Frag} {mg : Str → Option Value} {base : Heap}
theorem Txt.cl (T : Txt K mg) : Cls K (He.ga K "Lot") := He.cls_ok (T.c.fact 21 rfl)
theorem Txt.nR (T : Txt K mg) : NoAttr K (He.ga K "Lot") "rows" := He.noat_ok (T.c.fact 23 rfl)
theorem Txt.nP (T : Txt K mg) : NoAttr K (He.ga K "Lot") "places" := He.noat_ok (T.c.fact 24 rfl)
theorem Txt.nK (T : Txt K mg) : NoAttr K (He.ga K "Lot") "known" := He.noat_ok (T.c.fact 25 rfl)
def spStart (K : PySem.W.Frag) : Sp := fun vs H Q _ => ∃ (l t kn : Addr) (n : Nat), vs = [.ref l] ∧ LotAt K H l t kn n ∧ n ≤ 10 ∧ Q (.str (encS (st0 n))) H
theorem sc12 : FnScope ["lot"] ["lot"] (defScope (top 12)) := ⟨rfl, rfl, rfl, by decide +kernel, rfl, by decide +kernel, by decide +kernel⟩
theorem c_start (T : Txt K mg) : CalL P w K mg base 1 "start" (spStart K) := by
  refine mkCal T (j := 3) (i := 12) rfl rfl (fun _ _ _ _ _ _ us hl => match us, hl with | [_], _ => rfl) sc12 (fun vs H Q E h => ?_) (fun f cdv A outer s H vs Q E hr h => ?_)
  · obtain ⟨_, _, _, _, rfl, _⟩ := h
    rfl
  · obtain ⟨l, t, kn, n, rfl, ⟨dx, hl⟩, hn, q⟩ := h
    obtain ⟨tk, hd⟩ := T.str 17 (x := "DOT") (z := ".")
    refine ⟨_, pss_one (ps_ret (pe_op op_mul_str (pe_glob (v := .str ".") rfl hd ⟨_, rfl⟩) (pe_fld (pv 0) rfl))), ?_⟩
    refine ⟨_, rfl, l, _, dx, _, _, rfl, hl, T.cl, T.nP, lotF_places t kn n, _, _, rfl, rfl, (dots_mul hn).1, ?_⟩
    rw [(dots_mul hn).2]
    exact q
def spWith : Sp := fun vs H Q _ => ∃ (s : Stg) (p : Nat) (b : Bool), vs = [.str (encS s), .int p, .str (sgS b)] ∧ p < s.length ∧ s.length ≤ 10 ∧ Q (.str (encS (s.set p (some b)))) H
theorem sc15 : FnScope ["standing", "place", "sign"] ["standing", "place", "sign"] (defScope (top 15)) := ⟨rfl, rfl, rfl, by decide +kernel, rfl, by decide +kernel, by decide +kernel⟩
theorem small10 {n : Nat} (h : n ≤ 1000) : n ≤ sizeLine := Nat.le_of_lt (small1000 h)
theorem c_with (T : Txt K mg) : CalL P w K mg base 1 "with_sign" spWith := by
  refine mkCal T (j := 6) (i := 15) rfl rfl (fun _ _ _ _ _ _ us hl => match us, hl with | [_, _, _], _ => rfl) sc15 (fun vs H Q E h => ?_) (fun f cdv A outer s H vs Q E hr h => ?_)
  · obtain ⟨_, _, _, rfl, _⟩ := h
    rfl
  · obtain ⟨st, p, b, rfl, hp, hl, q⟩ := h
    refine ⟨_, pss_one (ps_ret (pe_op op_add_str (pe_op op_add_str (pe_slice sl_str (pv 0) po_none (po_some (pv 1))) (pv 2)) (pe_slice sl_str (pv 0) (po_some (pe_op op_add (pv 1) pe_int)) po_none))), ?_⟩
    have z : (encS st).length ≤ sizeLine := by rw [encS_len]; exact small10 (by omega)
    have z1 := cutS_length (encS st) none (some (p : Int))
    have z2 := cutS_length (encS st) (some ((p : Int) + 1)) none
    rw [encS_len] at z1 z2
    have z3 : (cutS (encS st) none (some (p : Int)) ++ sgS b : Str).length = (cutS (encS st) none (some (p : Int))).length + 1 := by
      show (_ ++ _ : Array Nat).size = _
      rw [Array.size_append]
      rfl
    refine ⟨_, rfl, _, rfl, _, rfl, _, rfl, z, _, rfl, _, _, rfl, rfl, small10 (by show _ + 1 ≤ _; omega), _, rfl, _, rfl, _, _, rfl, rfl, _, rfl, _, rfl, z, _, _, rfl, rfl, small10 (by rw [z3]; omega), ?_⟩
    rw [set_enc hp]
    exact q
end
end Lik
namespace Lik
open PySem PySem.Spec PyProof.Rows L2
/-! ### parted, differing -/
def spParted (K : PySem.W.Frag) : Sp := fun vs H Q _ => ∃ (a : Addr) (R : List Row) (n p : Nat), vs = [.ref a, .int p] ∧ SqT K H a (rowsV R) ∧ Wide n R ∧ n ≤ 10 ∧ R.length ≤ 1000 ∧ p < n ∧
  ∀ (H' : Hp) (q t0 t1 : Addr), Same H H' → H' q = some (.tup [.ref t0, .ref t1]) → H' t0 = some (.tup (rowsV (side false p R))) → H' t1 = some (.tup (rowsV (side true p R))) → Q (.ref q) H'
theorem sc14 : FnScope ["rows", "place", "row"] ["rows", "place"] (defScope (top 14)) := ⟨rfl, rfl, rfl, by decide +kernel, rfl, by decide +kernel, by decide +kernel⟩
abbrev fSide (b : Bool) (p : Nat) : Row → List V := fun r => if (r.getD p false == b) = true then [.str (encR r)] else []
theorem fSide_le (b : Bool) (p : Nat) (r : Row) : (fSide b p r).length ≤ 1 := by
  unfold fSide
  split
  · exact Nat.le_refl 1
  · exact Nat.zero_le 1
theorem fSide_all (b : Bool) (p : Nat) (R : List Row) : R.flatMap (fSide b p) = rowsV (side b p R) := flat_if (fun r : Row => r.getD p false == b) (fun r => V.str (encR r)) R
theorem sg_eq (a b : Bool) : decide (V.str (sgS a) = V.str (sgS b)) = (a == b) := by
  cases a <;> cases b <;> decide +kernel
theorem wide_get {n : Nat} {R : List Row} {i : Nat} {r : Row} (h : Wide n R) (e : R[i]? = some r) : r.length = n := h r (List.mem_of_getElem? e)
section
variable {P : Program} {w : World} {K : PySem.W.Frag} {mg : Str → Option Value} {base : Heap}
theorem c_parted (T : Txt K mg) : CalL P w K mg base 1 "parted" (spParted K) := by
  refine mkCal T (j := 5) (i := 14) rfl rfl (fun _ _ _ _ _ _ us hl => match us, hl with | [_, _], _ => rfl) sc14 (fun vs H Q E h => ?_) (fun f cdv A outer s H vs Q E hr h => ?_)
  · obtain ⟨_, _, _, _, rfl, _⟩ := h
    rfl
  · obtain ⟨a, R, n, p, rfl, hS, hW, hn, hl, hp, q⟩ := h
    refine ⟨_, pss_one (ps_ret (pe_tup (pa_cons (pe_tupleOf rfl T.tupleB (pe_lc (own := [("row", 2)]) (g := gName 2) rfl sc14.nd (pi_tupK K (pv 0)) (blkOk_by (N := ["rows", "place", "row"]) (sc := defScope (top 14)) (by decide +kernel))
        (fun _ _ _ _ _ => pg_name (i := 2) sc14.nd rfl (Or.inl rfl)) (fun _ _ _ _ _ => pts_one (pt_cmpR op_eq (pe_ix ix_str (pv 2) (pv 1) (fun _ _ => rfl)) pe_str (nomark _))) (fun _ _ _ _ _ => pv 2)))
      (pa_cons (pe_tupleOf rfl T.tupleB (pe_lc (own := [("row", 2)]) (g := gName 2) rfl sc14.nd (pi_tupK K (pv 0)) (blkOk_by (N := ["rows", "place", "row"]) (sc := defScope (top 14)) (by decide +kernel))
        (fun _ _ _ _ _ => pg_name (i := 2) sc14.nd rfl (Or.inl rfl)) (fun _ _ _ _ _ => pts_one (pt_cmpR op_eq (pe_ix ix_str (pv 2) (pv 1) (fun _ _ => rfl)) pe_str (nomark _))) (fun _ _ _ _ _ => pv 2))) pa_nil)))), ?_⟩
    have lenV : (rowsV R).length = R.length := rowsV_len R
    have hsz : R.length ≤ sizeLine := small10 hl
    -- the rows with 0
    refine ⟨_, rfl, a, rfl, ⟨_, hS⟩, fun D hD => lc_it walk_tup (PvF H D R (fSide false p)) (PvF.zero hD) (fun i H1 _ pv => (same_keep pv.1).sqT hS) (fun i x H1 H2 hi pv y => ?_) (fun H1 pv => ?_)⟩
    · obtain ⟨rfl, hx⟩ := y
      obtain ⟨r, hr2, rfl⟩ := rowsV_get hx
      have hrl := wide_get hW hr2
      refine ⟨rfl, _, rfl, _, rfl, _, _, _, rfl, rfl, small10 (by rw [encR_len]; omega), encR_at (by omega), rfl, _, rfl, ?_⟩
      rw [lit0, show decide (V.str ⟨#[sgn (r.getD p false)]⟩ = V.str (sgS false)) = _ from sg_eq _ _]
      refine ite2 (fun c => ?_) (fun c => ?_)
      · refine ⟨_, rfl, pv.add hD (Same.refl _) (fSide_le false p) hsz hr2 ?_⟩
        unfold fSide
        rw [if_pos c]
      · refine pv.skip (Same.refl _) hr2 ?_
        unfold fSide
        rw [if_neg c]
    have e0 : H1 D = some (.lst (rowsV (side false p R))) := by rw [pv.done lenV, fSide_all]
    have s1 : Same H H1 := pv.1
    refine .inl ⟨D, _, rfl, SqL.of e0, fun t0 ht0 => ?_⟩
    have s2 : Same H (upd H1 t0 (.tup (rowsV (side false p R)))) := s1.trans (same_new ht0 _)
    -- the rows with 1
    refine ⟨_, rfl, a, rfl, ⟨_, (same_keep s2).sqT hS⟩, fun D2 hD2 => lc_it walk_tup (PvF (upd H1 t0 (.tup (rowsV (side false p R)))) D2 R (fSide true p)) (PvF.zero hD2) (fun i H1 _ pv => (same_keep (s2.trans pv.1)).sqT hS) (fun i x H1 H2 hi pv y => ?_) (fun H3 pv3 => ?_)⟩
    · obtain ⟨rfl, hx⟩ := y
      obtain ⟨r, hr2, rfl⟩ := rowsV_get hx
      have hrl := wide_get hW hr2
      refine ⟨rfl, _, rfl, _, rfl, _, _, _, rfl, rfl, small10 (by rw [encR_len]; omega), encR_at (by omega), rfl, _, rfl, ?_⟩
      rw [lit1, show decide (V.str ⟨#[sgn (r.getD p false)]⟩ = V.str (sgS true)) = _ from sg_eq _ _]
      refine ite2 (fun c => ?_) (fun c => ?_)
      · refine ⟨_, rfl, pv.add hD2 (Same.refl _) (fSide_le true p) hsz hr2 ?_⟩
        unfold fSide
        rw [if_pos c]
      · refine pv.skip (Same.refl _) hr2 ?_
        unfold fSide
        rw [if_neg c]
    have e2 : H3 D2 = some (.lst (rowsV (side true p R))) := by rw [pv3.done lenV, fSide_all]
    refine .inl ⟨D2, _, rfl, SqL.of e2, fun t1 ht1 => ⟨(by show 2 ≤ sizeLine; decide), fun q1 hq1 => ?_⟩⟩
    have s4 : Same H3 (upd H3 t1 (.tup (rowsV (side true p R)))) := same_new ht1 _
    have s5 := same_new hq1 (.tup [.ref t0, .ref t1])
    exact q _ q1 t0 t1 ((s2.trans pv3.1).trans (s4.trans s5)) upd_same (s5 _ _ (s4 _ _ (pv3.1 _ _ upd_same))) (s5 _ _ upd_same)

def spDiff (K : PySem.W.Frag) : Sp := fun vs H Q _ => ∃ (a : Addr) (R : List Row) (n : Nat), vs = [.ref a] ∧ SqT K H a (rowsV R) ∧ R ≠ [] ∧ Wide n R ∧ n ≤ 10 ∧ R.length ≤ 1000 ∧
  ∀ (H' : Hp) (q : Addr), Same H H' → H' q = some (.tup ((opens n R).map fun p => .int (p : Nat))) → Q (.ref q) H'
theorem sc13 : FnScope ["rows", "first", "place", "row"] ["rows"] (defScope (top 13)) := ⟨rfl, rfl, rfl, by decide +kernel, rfl, by decide +kernel, by decide +kernel⟩
def scP : Scope := { kind := .function, names := [(".0", .local), ("place", .cell), ("any", .globalImplicit), ("first", .free), ("rows", .free)], isGenerator := false, isCoroutine := false }
theorem any_open {r0 : Row} {R : List Row} {i : Nat} (h0 : r0 ∈ R) : (R.map fun r => !(r.getD i false == r0.getD i false)).any id = isOpen R i := by
  rw [Bool.eq_iff_iff, List.any_eq_true, isOpen_iff]
  have ne : ∀ b, (∃ r ∈ R, r.getD i false = b) ↔ side b i R ≠ [] := fun b => by
    constructor
    · rintro ⟨r, h1, h2⟩
      exact List.ne_nil_of_mem (mem_side.mpr ⟨h1, h2⟩)
    · intro h
      obtain ⟨r, hr⟩ := List.exists_mem_of_ne_nil _ h
      exact ⟨r, (mem_side.mp hr).1, (mem_side.mp hr).2⟩
  rw [← ne false, ← ne true]
  constructor
  · rintro ⟨b, hb, e⟩
    obtain ⟨r, hr, rfl⟩ := List.mem_map.mp hb
    cases h1 : r.getD i false <;> cases h2 : r0.getD i false <;> rw [h1, h2] at e <;> first | (exact absurd e (by decide)) | exact ⟨⟨r, hr, h1⟩, ⟨r0, h0, h2⟩⟩ | exact ⟨⟨r0, h0, h2⟩, ⟨r, hr, h1⟩⟩
  · rintro ⟨⟨r, hr, e1⟩, ⟨r', hr', e2⟩⟩
    cases h2 : r0.getD i false
    · exact ⟨true, List.mem_map.mpr ⟨r', hr', by rw [e2]; rfl⟩, rfl⟩
    · exact ⟨true, List.mem_map.mpr ⟨r, hr, by rw [e1]; rfl⟩, rfl⟩
abbrev fOpen (R : List Row) : Nat → List V := fun p => if isOpen R p = true then [.int (p : Nat)] else []
theorem fOpen_le (R : List Row) (p : Nat) : (fOpen R p).length ≤ 1 := by
  unfold fOpen
  split
  · exact Nat.le_refl 1
  · exact Nat.zero_le 1
theorem c_diff (T : Txt K mg) : CalL P w K mg base 1 "differing" (spDiff K) := by
  refine mkCal T (j := 4) (i := 13) rfl rfl (fun _ _ _ _ _ _ us hl => match us, hl with | [_], _ => rfl) sc13 (fun vs H Q E h => ?_) (fun f cdv A outer s H vs Q E hr h => ?_)
  · obtain ⟨_, _, _, rfl, _⟩ := h
    rfl
  · obtain ⟨a, R, n, rfl, hS, hne, hW, hn, hl, q⟩ := h
    refine ⟨_, pss_cons (ps_set (i := 1) sc13.nd rfl (Or.inr rfl) (pe_ix ix_tup (pv 0) pe_int (fun _ _ => rfl)))
      (pss_one (ps_ret (pe_tupleOf rfl T.tupleB (pe_lc (own := [("place", 2)]) (g := gName 2) rfl sc13.nd (pi_range1 rfl T.rangeB (pa_cons (pe_callB (call_lenK K) rfl T.lenB bt_len (pa_cons (pv 1) pa_nil)) pa_nil)) (blkOk_by (N := ["rows", "first", "place", "row"]) (sc := defScope (top 13)) (by decide +kernel))
        (fun _ _ _ _ _ => pg_name (i := 2) sc13.nd rfl (Or.inr rfl)) (fun _ _ _ _ _ => pts_one (pt_val (pe_callB (cr_anyK K) rfl T.anyB bt_any (pa_cons (pe_lc (own := [("row", 3)]) (g := gName 3) (tt := tYes) rfl sc13.nd (pi_tupK K (pv 0)) (blkOk_by (N := ["rows", "first", "place", "row"]) (sc := relS scP (defScope (top 13))) (by decide +kernel))
          (fun _ _ _ _ _ => pg_name (i := 3) sc13.nd rfl (Or.inl rfl)) (fun _ _ _ _ _ => pts_nil) (fun _ _ _ _ _ => pe_cmpR op_ne (pe_ix ix_str (pv 3) (pv 2) (fun _ _ => rfl)) (pe_ix ix_str (pv 1) (pv 2) (fun _ _ => rfl)) (nomark _))) pa_nil)))) (fun _ _ _ _ _ => pv 2))))), ?_⟩
    obtain ⟨r0, rs, eR⟩ : ∃ r0 rs, R = r0 :: rs := by
      cases R with
      | nil => exact absurd rfl hne
      | cons r0 rs => exact ⟨r0, rs, rfl⟩
    have m0 : r0 ∈ R := by rw [eR]; exact List.mem_cons_self
    have l0 : r0.length = n := hW r0 m0
    have hsz : R.length ≤ sizeLine := small10 hl
    have a0 : atI (rowsV R) 0 = some (.str (encR r0)) := by
      rw [eR]
      exact at_of (j := 0) rfl rfl
    refine ⟨_, rfl, a, _, _, _, rfl, rfl, hS, a0, ?_⟩
    refine ⟨_, rfl, _, n, rfl, ⟨small10 (by rw [encR_len]; omega), by rw [encR_len, l0]⟩, n, rfl, by omega, by omega, fun D hD => lc_it (walk_range (lo := 0) (n := n)) (PvF H D (List.range n) (fOpen R)) (PvF.zero hD) (fun _ _ _ _ => trivial) (fun i x H1 H2 hi pv y => ?_) (fun H1 pv => ?_)⟩
    · obtain ⟨rfl, hx⟩ := y
      have hx : x = .int (i : Nat) := hx.trans (congrArg V.int (Int.zero_add _))
      subst hx
      have hi2 : (List.range n)[i]? = some i := by rw [List.getElem?_range hi]
      refine ⟨rfl, _, rfl, a, rfl, ⟨_, (same_keep pv.1).sqT hS⟩, fun D2 hD2 => lc_it walk_tup (PvF H2 D2 R fun r => [V.bl (!(r.getD i false == r0.getD i false))]) (PvF.zero hD2) (fun j H3 _ p3 => (same_keep (pv.1.trans p3.1)).sqT hS) (fun j x H3 H4 hj p3 y => ?_) (fun H3 p3 => ?_)⟩
      · obtain ⟨rfl, hx⟩ := y
        obtain ⟨r, hr2, rfl⟩ := rowsV_get hx
        have hrl := wide_get hW hr2
        refine ⟨rfl, _, rfl, _, rfl, _, _, _, rfl, rfl, small10 (by rw [encR_len]; omega), encR_at (by omega), _, rfl, _, rfl, _, _, _, rfl, rfl, small10 (by rw [encR_len]; omega), encR_at (by omega), rfl, ?_⟩
        rw [show decide (V.str ⟨#[sgn (r.getD i false)]⟩ = V.str ⟨#[sgn (r0.getD i false)]⟩) = _ from sg_eq _ _]
        exact p3.add hD2 (Same.refl _) (fun _ => Nat.le_refl 1) hsz hr2 rfl
      · have e : H3 D2 = _ := p3.done (rowsV_len R)
        refine ⟨D2, R.map fun r => !(r.getD i false == r0.getD i false), rfl, SqL.of (by rw [e, flat_map, List.map_map]; rfl), _, rfl, ?_⟩
        rw [any_open m0]
        refine ite2 (fun c => ?_) (fun c => ?_)
        · refine ⟨_, rfl, pv.add hD p3.1 (fOpen_le R) (by rw [List.length_range]; exact small10 (by omega)) hi2 ?_⟩
          unfold fOpen
          rw [if_pos c]
        · refine pv.skip p3.1 hi2 ?_
          unfold fOpen
          rw [if_neg c]
    have e0 : H1 D = some (.lst ((opens n R).map fun p => .int (p : Nat))) := by
      rw [pv.done (by rw [List.length_range])]
      exact congrArg (fun l => some (HO.lst l)) (flat_if (isOpen R) (fun p => V.int (p : Nat)) (List.range n))
    exact .inl ⟨D, _, rfl, SqL.of e0, fun t ht => q _ t (pv.1.trans (same_new ht _)) upd_same⟩
end
end Lik
namespace Lik
open PySem PySem.Spec PyProof.Rows L2
/-! ### the memory of depths -/
/-- the pairs of a dict whose keys are the rows' tuples -/
def MemOk (n : Nat) (R0 : List Row) (m : List (List Key × V)) : Prop := (m.map (·.1)).Nodup ∧ ∀ p ∈ m, ∃ S : List Row, S.Sublist R0 ∧ p = (rowsK S, .int (D n S : Nat))
theorem MemOk.nil (n : Nat) (R0 : List Row) : MemOk n R0 [] := ⟨List.nodup_nil, fun p h => by cases h⟩
theorem valV_memb {κ : Type} [DecidableEq κ] {kvs : List (κ × V)} {k : κ} {v : V} (h : valV kvs k = some v) : (k, v) ∈ kvs := by
  unfold valV at h
  obtain ⟨p, hp, e⟩ := Option.map_eq_some_iff.mp h
  have h1 := List.find?_some hp
  have h2 := List.mem_of_find?_eq_some hp
  have e1 : p.1 = k := of_decide_eq_true h1
  obtain ⟨a, b⟩ := p
  simp only at e e1
  subst e e1
  exact h2
theorem MemOk.val {n : Nat} {R0 S : List Row} {m : List (List Key × V)} {v : V} (M : MemOk n R0 m) (h : valV m (rowsK S) = some v) : v = .int (D n S : Nat) := by
  obtain ⟨S', _, e⟩ := M.2 _ (valV_memb h)
  injection e with e1 e2
  rw [e2, rowsK_inj e1]
theorem MemOk.len {n : Nat} {R0 : List Row} {m : List (List Key × V)} (M : MemOk n R0 m) (h : R0.length ≤ 10) : m.length < sizeLine := by
  have h1 : (m.map (·.1)).length ≤ ((subs R0).map rowsK).length := nodup_len M.1 fun k hk => by
    obtain ⟨p, hp, rfl⟩ := List.mem_map.mp hk
    obtain ⟨S, hS, e⟩ := M.2 p hp
    rw [e]
    exact List.mem_map.mpr ⟨S, subs_mem hS, rfl⟩
  rw [List.length_map, List.length_map, subs_len] at h1
  have h2 : 2 ^ R0.length ≤ 2 ^ 10 := Nat.pow_le_pow_right (by decide) h
  exact Nat.lt_of_le_of_lt (Nat.le_trans h1 h2) (by decide)
theorem MemOk.put {n : Nat} {R0 S : List Row} {m : List (List Key × V)} (M : MemOk n R0 m) (h : S.Sublist R0) : MemOk n R0 (putK m (rowsK S) (.int (D n S : Nat))) := by
  cases e : valV m (rowsK S) with
  | none =>
    refine ⟨nd_putK _ M.1 e, fun p hp => ?_⟩
    rw [putK_new _ e] at hp
    rcases List.mem_append.mp hp with hp | hp
    · exact M.2 p hp
    · exact ⟨S, h, List.mem_singleton.mp hp⟩
  | some v =>
    have a : (m.any fun kv => decide (kv.1 = rowsK S)) = true := by rw [valV_any, e]; rfl
    have em : putK m (rowsK S) (.int (D n S : Nat)) = m.map fun kv => if kv.1 = rowsK S then (kv.1, .int (D n S : Nat)) else kv := by
      unfold putK
      rw [if_pos a]
    rw [em]
    constructor
    · have : (m.map fun kv => if kv.1 = rowsK S then (kv.1, V.int (D n S : Nat)) else kv).map (·.1) = m.map (·.1) := by
        rw [List.map_map]
        refine List.map_congr_left fun p _ => ?_
        show (if p.1 = rowsK S then (p.1, V.int (D n S : Nat)) else p).1 = p.1
        split <;> rfl
      rw [this]
      exact M.1
    · intro p hp
      obtain ⟨q, hq, rfl⟩ := List.mem_map.mp hp
      by_cases c : q.1 = rowsK S
      · rw [if_pos c]
        exact ⟨S, h, by rw [c]⟩
      · rw [if_neg c]
        exact M.2 q hq
/-- lot's rows as they are: of n places, at most ten -/
structure RowsOk (n : Nat) (R : List Row) : Prop where
  ne : R ≠ []
  wide : Wide n R
  n1 : 1 ≤ n
  n10 : n ≤ 10
  l10 : R.length ≤ 10
def spDeep (n : Nat) (R0 : List Row) (k : Nat) : Sp := fun vs H Q _ => ∃ (kn a : Addr) (m : List (List Key × V)) (S : List Row), vs = [.ref kn, .ref a] ∧ H kn = some (.dT m) ∧ MemOk n R0 m ∧ H a = some (.tup (rowsV S)) ∧ S.Sublist R0 ∧ S ≠ [] ∧ S.length ≤ k ∧
  ∀ (H' : Hp) (m' : List (List Key × V)), But kn H H' → H' kn = some (.dT m') → MemOk n R0 m' → Q (.int (D n S : Nat)) H'
theorem sc20 : FnScope ["known", "rows", "best", "place", "zero", "one"] ["known", "rows"] (defScope (top 20)) := ⟨rfl, rfl, rfl, by decide +kernel, rfl, by decide +kernel, by decide +kernel⟩
theorem max_int {a b : Nat} : (if (b : Int) > (a : Int) then (b : Int) else (a : Int)) = ((max a b : Nat) : Int) := by
  split <;> omega
theorem min_int {a b : Nat} : (if (b : Int) < (a : Int) then (b : Int) else (a : Int)) = ((min a b : Nat) : Int) := by
  split <;> omega
theorem opens_get {n i : Nat} {S : List Row} {x : V} (h : ((opens n S).map fun p => V.int (p : Nat))[i]? = some x) : ∃ p, (opens n S)[i]? = some p ∧ x = .int (p : Nat) ∧ p ∈ opens n S ∧ p < n := by
  rw [List.getElem?_map] at h
  cases e : (opens n S)[i]? with
  | none =>
    rw [e] at h
    cases h
  | some p =>
    rw [e] at h
    have hm := List.mem_of_getElem? e
    exact ⟨p, rfl, (Option.some.inj h).symm, hm, (mem_opens.mp hm).1⟩
theorem opens_tlen (n : Nat) (S : List Row) : ((opens n S).map fun p => V.int (p : Nat)).length = (opens n S).length := List.length_map _
section
variable {P : Program} {w : World} {K : PySem.W.Frag} {mg : Str → Option Value} {base : Heap}
theorem c_deep (T : Txt K mg) {n : Nat} {R0 : List Row} (O : RowsOk n R0) : ∀ k : Nat, CalL P w K mg base (k + 2) "deepest_from" (spDeep n R0 k)
  | 0 => by
    refine mkCal T (j := 9) (i := 20) rfl rfl (fun _ _ _ _ _ _ us hl => match us, hl with | [_, _], _ => rfl) sc20 (fun vs H Q E h => ?_) (fun f cdv A outer s H vs Q E hr h => ?_)
    · obtain ⟨_, _, _, _, rfl, _⟩ := h
      rfl
    · obtain ⟨kn, a, m, S, rfl, hk, hm, ha, hsub, hne, hlen, q⟩ := h
      exact absurd (List.length_eq_zero_iff.mp (Nat.le_zero.mp hlen)) hne
  | k + 1 => by
    have cS : CalL P w K mg base (k + 2) "deepest_from" (spDeep n R0 k) := c_deep T O k
    have cD : CalL P w K mg base 1 "differing" (spDiff K) := c_diff T
    have cP : CalL P w K mg base 1 "parted" (spParted K) := c_parted T
    refine mkCal T (j := 9) (i := 20) rfl rfl (fun _ _ _ _ _ _ us hl => match us, hl with | [_, _], _ => rfl) sc20 (fun vs H Q E h => ?_) (fun f cdv A outer s H vs Q E hr h => ?_)
    · obtain ⟨_, _, _, _, rfl, _⟩ := h
      rfl
    · obtain ⟨kn, a, m, S, rfl, hk, hm, ha, hsub, hne, hlen, q⟩ := h
      have hu := hu_of hr
      have hW : Wide n S := O.wide.sub hsub
      have hl10 : S.length ≤ 10 := Nat.le_trans hsub.length_le O.l10
      refine ⟨_, pss_cons (ps_if (pt_cmp (pc_dnotin hu (pv 1) (pv 0)))
          (pss_cons (ps_set (i := 2) sc20.nd rfl (Or.inl rfl) pe_int)
          (pss_cons (ps_for PassesOwn.never rfl (pi_tupK K (pe_f cD hr (by omega) rfl (pa_cons (pv 1) pa_nil))) (pg_name (i := 3) sc20.nd rfl (Or.inl rfl))
            (pss_cons (ps_asg (pe_f cP hr (by omega) rfl (pa_cons (pv 1) (pa_cons (pv 3) pa_nil))) (pg_tup rfl (pgs_cons (pg_name (i := 4) sc20.nd rfl (Or.inl rfl)) (pgs_cons (pg_name (i := 5) sc20.nd rfl (Or.inl rfl)) pgs_nil))))
            (pss_one (ps_if (pt_cmpR op_ge (pe_callB (call_min2 rfl) rfl T.minB bt_min (pa_cons (pe_callB (call_lenK K) rfl T.lenB bt_len (pa_cons (pv 4) pa_nil)) (pa_cons (pe_callB (call_lenK K) rfl T.lenB bt_len (pa_cons (pv 5) pa_nil)) pa_nil))) (pe_op op_shl pe_int (pv 2)) (nomark _))
              (pss_one (ps_set (i := 2) sc20.nd rfl (Or.inl rfl) (pe_callB (call_max2 rfl) rfl T.maxB bt_max (pa_cons (pv 2) (pa_cons (pe_op op_add pe_int (pe_callB (call_min2 rfl) rfl T.minB bt_min (pa_cons (pe_f cS hr (by omega) rfl (pa_cons (pv 0) (pa_cons (pv 4) pa_nil))) (pa_cons (pe_f cS hr (by omega) rfl (pa_cons (pv 0) (pa_cons (pv 5) pa_nil))) pa_nil)))) pa_nil))))) pss_nil))))
          (pss_one (ps_dput hu (pv 0) (pv 1) (pv 2) rfl)))) pss_nil)
        (pss_one (ps_ret (pe_dget hu (pv 0) (pv 1) (fun _ _ => rfl)))), ?_⟩
      have hkey : ∀ H' : Hp, H' a = some (.tup (rowsV S)) → H' a = some (.tup ((rowsK S).map kV)) := fun H' h => by rw [rowsK_V]; exact h
      refine ⟨_, rfl, _, rfl, kn, _, rfl, DGet.t (k := rowsK S) hk (hkey H ha), _, rfl, ?_⟩
      cases e : valV m (rowsK S) with
      | some v =>
        refine iteF ?_
        refine ⟨_, rfl, _, rfl, kn, v, rfl, by rw [← e]; exact DGet.t (k := rowsK S) hk (hkey H ha), ?_⟩
        rw [hm.val e]
        exact q H m (fun _ _ _ h => h) hk hm
      | none =>
        refine iteT ?_
        refine ⟨_, rfl, a, S, n, rfl, SqT.of ha, hne, hW, O.n10, by omega, fun H1 q1 s1 e1 => ?_⟩
        refine ⟨q1, rfl, ⟨_, SqT.of e1⟩, for_it walk_tup (fun i σ H2 => ∃ (best : Nat) (m2 : List (List Key × V)) (v3 v4 v5 : Option V), σ = [some (.ref kn), some (.ref a), some (.int (best : Nat)), v3, v4, v5] ∧ But kn H1 H2 ∧ H2 kn = some (.dT m2) ∧ MemOk n R0 m2 ∧ best = mx (stepD n S) ((opens n S).take i) 0)
          ⟨0, m, none, none, none, rfl, fun _ _ _ h => h, s1 _ _ hk, hm, rfl⟩ (fun i σ H2 _ ⟨_, _, _, _, _, _, b2, hk2, _⟩ => SqT.of (b2 _ _ (ne_of e1 (s1 _ _ hk) (by intro z; cases z)) e1)) (fun i x σ H2 H3 hi pv y => ?_) (fun σ H2 pv => ?_)⟩
        · obtain ⟨rfl, hx⟩ := y
          obtain ⟨p, hp, rfl, hpo, hpn⟩ := opens_get hx
          obtain ⟨best, m2, v3, v4, v5, rfl, b2, hk2, hm2, hb⟩ := pv
          have hop := (mem_opens.mp hpo).2
          have ha2 : H3 a = some (.tup (rowsV S)) := b2 _ _ (ne_of (s1 _ _ ha) (s1 _ _ hk) (by intro z; cases z)) (s1 _ _ ha)
          refine ⟨_, rfl, _, rfl, a, S, n, p, rfl, SqT.of ha2, hW, O.n10, by omega, hpn, fun H4 q4 t0 t1 s4 eq4 et0 et1 => ?_⟩
          refine ⟨q4, _, rfl, SqT.of eq4, rfl, _, _, rfl, _, _, rfl, rfl, ?_⟩
          have hk4 := s4 _ _ hk2
          have b4 : But kn H1 H4 := b2.trans (But.of s4)
          refine ⟨_, rfl, _, _, rfl, .inr ⟨_, SqT.of et0, (rowsV_len _).symm⟩, _, rfl, _, _, rfl, .inr ⟨_, SqT.of et1, (rowsV_len _).symm⟩, _, _, rfl, _, rfl, _, _, rfl, rfl, ⟨Int.natCast_nonneg _, ?_, by decide⟩, _, _, rfl, rfl, _, rfl, ?_⟩
          · have := mx_le (stepD n S) 1000 ((opens n S).take i) 0 (by omega) fun p' hp' => by
              have h1 := D_ge (n := n) (rows := S) (List.mem_of_mem_take hp')
              have h2 := D_pow n _ S (Nat.le_refl _) hne
              have h3 := Nat.lt_two_pow_self (n := D n S)
              omega
            omega
          · rw [min_int]
            have epow : (1 : Int) * 2 ^ ((best : Int).toNat) = ((2 ^ best : Nat) : Int) := by
              rw [Int.toNat_natCast, Int.one_mul]
              exact (Int.natCast_pow 2 best).symm
            rw [epow]
            refine ite2 (fun c => ?_) (fun c => ?_)
            · have l0 := side_lt hop false
              have l1 := side_lt hop true
              refine ⟨_, rfl, _, rfl, _, rfl, kn, t0, m2, side false p S, rfl, hk4, hm2, et0, (side_sub _ _ _).trans hsub, side_ne hop false, by omega, fun H5 m5 b5 hk5 hm5 => ?_⟩
              have et1' : H5 t1 = _ := b5 _ _ (ne_of et1 hk4 (by intro z; cases z)) et1
              refine ⟨_, rfl, _, rfl, kn, t1, m5, side true p S, rfl, hk5, hm5, et1', (side_sub _ _ _).trans hsub, side_ne hop true, by omega, fun H6 m6 b6 hk6 hm6 => ?_⟩
              refine ⟨_, _, rfl, _, _, rfl, rfl, _, _, rfl, ?_⟩
              refine ⟨max best (stepD n S p), m6, some (.int (p : Nat)), some (.ref t0), some (.ref t1), ?_, b4.trans (b5.trans b6), hk6, hm6, by rw [mx_take _ hp, hb]⟩
              rw [min_int]
              have e3 : (1 : Int) + ((min (D n (side false p S)) (D n (side true p S)) : Nat) : Int) = ((stepD n S p : Nat) : Int) := by
                unfold stepD
                omega
              rw [e3, max_int]
              rfl
            · have c2 : min (side false p S).length (side true p S).length < 2 ^ best := by
                have : ¬ ((2 ^ best : Nat) : Int) ≤ ((min (side false p S).length (side true p S).length : Nat) : Int) := fun z => c (decide_eq_true z)
                omega
              have c3 := D_prune hpo c2
              refine ⟨best, m2, some (.int (p : Nat)), some (.ref t0), some (.ref t1), rfl, b4, hk4, hm2, ?_⟩
              rw [mx_take _ hp, ← hb]
              omega
        · obtain ⟨best, m2, v3, v4, v5, rfl, b2, hk2, hm2, hb⟩ := pv
          have ha2 : H2 a = some (.tup (rowsV S)) := b2 _ _ (ne_of (s1 _ _ ha) (s1 _ _ hk) (by intro z; cases z)) (s1 _ _ ha)
          rw [opens_tlen, List.take_length, ← D_eq] at hb
          subst hb
          refine ⟨_, rfl, _, rfl, _, rfl, kn, _, rfl, DPut.t (k := rowsK S) hk2 (hkey H2 ha2) (hm2.len O.l10), ?_⟩
          have hv : valV (putK m2 (rowsK S) (.int (D n S : Nat))) (rowsK S) = some (.int (D n S : Nat)) := by rw [valV_put, if_pos rfl]
          have nak : a ≠ kn := ne_of ha hk (by intro z; cases z)
          refine ⟨_, rfl, _, rfl, kn, .int (D n S : Nat), rfl, by rw [← hv]; exact DGet.t (k := rowsK S) upd_same (hkey _ (by rw [upd_ne nak]; exact ha2)), ?_⟩
          exact q _ _ ((But.of s1).trans (b2.trans (but_upd _))) upd_same (hm2.put hsub)
end
end Lik
namespace Lik
open PySem PySem.Spec PyProof.Rows L2
/-! ### the lot's memory, cleverest, word_at -/
/-- all stays but kn and the dicts of depths -/
def ButM (kn : Addr) (H H' : Hp) : Prop := ∀ b o, H b = some o → b ≠ kn → (∀ m, o ≠ .dT m) → H' b = some o
theorem ButM.refl (kn : Addr) (H : Hp) : ButM kn H H := fun _ _ h _ _ => h
theorem ButM.trans {kn : Addr} {H H1 H2 : Hp} (a : ButM kn H H1) (b : ButM kn H1 H2) : ButM kn H H2 := fun c o h n t => b c o (a c o h n t) n t
theorem ButM.same {kn : Addr} {H H' : Hp} (s : Same H H') : ButM kn H H' := fun b o h _ _ => s b o h
theorem ButM.but {kn km : Addr} {H H' : Hp} {m : List (List Key × V)} (h : H km = some (.dT m)) (b : But km H H') : ButM kn H H' := fun c o hc _ nt => b c o (fun e => by rw [e, h] at hc; exact nt m (Option.some.inj hc).symm) hc
theorem ButM.upd {kn : Addr} {H : Hp} (o : HO) : ButM kn H (upd H kn o) := fun b u h n _ => by rw [upd_ne n]; exact h
/-- the lot's own dict: empty, or with the dict of depths -/
def MemD (H : Hp) (kn : Addr) (n : Nat) (R0 : List Row) : Prop := H kn = some (.dK []) ∨ ∃ km m, H kn = some (.dK [(.inr "clever", .ref km)]) ∧ H km = some (.dT m) ∧ MemOk n R0 m
theorem MemD.same {H H' : Hp} {kn n : Nat} {R0 : List Row} (s : Same H H') (h : MemD H kn n R0) : MemD H' kn n R0 := by
  rcases h with h | ⟨km, m, h1, h2, h3⟩
  · exact .inl (s _ _ h)
  · exact .inr ⟨km, m, s _ _ h1, s _ _ h2, h3⟩
theorem LotAt.same {K : PySem.W.Frag} {H H' : Hp} {l t kn : Addr} {n : Nat} (s : Same H H') (h : LotAt K H l t kn n) : LotAt K H' l t kn n := by
  obtain ⟨dx, h⟩ := h
  exact ⟨dx, s _ _ h⟩
theorem MemD.ne {H : Hp} {kn : Addr} {n : Nat} {R0 : List Row} (h : MemD H kn n R0) {b : Addr} {o : HO} (hb : H b = some o) (ho : ∀ m, o ≠ .dK m) : b ≠ kn := by
  rintro rfl
  rcases h with h | ⟨km, m, h, _⟩
  · rw [hb] at h
    exact ho _ (Option.some.inj h)
  · rw [hb] at h
    exact ho _ (Option.some.inj h)
def spCM (K : PySem.W.Frag) (n : Nat) (R0 : List Row) : Sp := fun vs H Q _ => ∃ (l t kn : Addr), vs = [.ref l] ∧ LotAt K H l t kn n ∧ MemD H kn n R0 ∧
  ∀ (H' : Hp) (km : Addr) (m : List (List Key × V)), ButM kn H H' → H' kn = some (.dK [(.inr "clever", .ref km)]) → H' km = some (.dT m) → MemOk n R0 m → Q (.ref km) H'
def spClev (K : PySem.W.Frag) (n : Nat) (R0 : List Row) : Sp := fun vs H Q _ => ∃ (l t kn : Addr), vs = [.ref l] ∧ LotAt K H l t kn n ∧ H t = some (.tup (rowsV R0)) ∧ MemD H kn n R0 ∧
  ∀ H' : Hp, ButM kn H H' → MemD H' kn n R0 → Q (.int (D n R0 : Nat)) H'
def spWord (n : Nat) (R0 : List Row) : Sp := fun vs H Q _ => ∃ (km a : Addr) (m : List (List Key × V)) (S : List Row) (p : Nat), vs = [.ref km, .ref a, .int (p : Nat)] ∧ H km = some (.dT m) ∧ MemOk n R0 m ∧ H a = some (.tup (rowsV S)) ∧ S.Sublist R0 ∧ p ∈ opens n S ∧
  ∀ (H' : Hp) (m' : List (List Key × V)), But km H H' → H' km = some (.dT m') → MemOk n R0 m' → Q (.str (sgS (wordOf n S p))) H'
section
variable {P : Program} {w : World} {K : PySem.W.Frag} {mg : Str → Option Value} {base : Heap}
theorem sc21 : FnScope ["lot"] ["lot"] (defScope (top 21)) := ⟨rfl, rfl, rfl, by decide +kernel, rfl, by decide +kernel, by decide +kernel⟩
theorem c_mem (T : Txt K mg) {n : Nat} {R0 : List Row} : CalL P w K mg base 1 "clever_memory" (spCM K n R0) := by
  refine mkCal T (j := 10) (i := 21) rfl rfl (fun _ _ _ _ _ _ us hl => match us, hl with | [_], _ => rfl) sc21 (fun vs H Q E h => ?_) (fun f cdv A outer s H vs Q E hr h => ?_)
  · obtain ⟨_, _, _, rfl, _⟩ := h
    rfl
  · obtain ⟨l, t, kn, rfl, ⟨dx, hl⟩, hm, q⟩ := h
    refine ⟨_, pss_one (ps_ret (pe_dsetd (pe_fld (pv 0) rfl) pe_str pe_dnewT ⟨rfl, rfl, rfl, rfl⟩)), ?_⟩
    refine ⟨_, rfl, l, _, dx, _, _, rfl, hl, T.cl, T.nK, lotF_known t kn n, kn, rfl, ?_⟩
    rcases hm with hk | ⟨km, m, hk, hkm, M⟩
    · refine ⟨.inl ⟨_, .inl hk⟩, fun p hp => ?_⟩
      have npk : kn ≠ p := ne_of_none hk hp
      refine ⟨_, .inr "clever", by rw [upd_ne npk]; exact hk, rfl, by show 0 < sizeLine; decide, fun v hv => ?_, fun _ => ?_⟩
      · cases hv
      · exact q _ p [] ((ButM.same (same_new hp _)).trans (ButM.upd _)) upd_same (by rw [upd_ne npk.symm, upd_same]) (MemOk.nil n R0)
    · refine ⟨.inl ⟨_, .inl hk⟩, fun p hp => ?_⟩
      have s1 := same_new hp (.dT [])
      refine ⟨_, .inr "clever", s1 _ _ hk, rfl, by show 1 < sizeLine; decide, fun v hv => ?_, fun hv => ?_⟩
      · rw [valV_pos rfl] at hv
        cases hv
        exact q _ km m (ButM.same s1) (s1 _ _ hk) (s1 _ _ hkm) M
      · rw [valV_pos rfl] at hv
        cases hv
theorem sc22 : FnScope ["lot"] ["lot"] (defScope (top 22)) := ⟨rfl, rfl, rfl, by decide +kernel, rfl, by decide +kernel, by decide +kernel⟩
theorem c_clev (T : Txt K mg) {n : Nat} {R0 : List Row} (O : RowsOk n R0) : CalL P w K mg base 13 "cleverest" (spClev K n R0) := by
  have cD : CalL P w K mg base 12 "deepest_from" (spDeep n R0 10) := c_deep T O 10
  have cM : CalL P w K mg base 1 "clever_memory" (spCM K n R0) := c_mem T
  refine mkCal T (j := 11) (i := 22) rfl rfl (fun _ _ _ _ _ _ us hl => match us, hl with | [_], _ => rfl) sc22 (fun vs H Q E h => ?_) (fun f cdv A outer s H vs Q E hr h => ?_)
  · obtain ⟨_, _, _, rfl, _⟩ := h
    rfl
  · obtain ⟨l, t, kn, rfl, hl, ht, hm, q⟩ := h
    refine ⟨_, pss_one (ps_ret (pe_f cD hr (by decide) rfl (pa_cons (pe_f cM hr (by decide) rfl (pa_cons (pv 0) pa_nil)) (pa_cons (pe_fld (pv 0) rfl) pa_nil)))), ?_⟩
    refine ⟨_, rfl, l, t, kn, rfl, hl, hm, fun H1 km m b1 hk hkm M => ?_⟩
    obtain ⟨dx, hl'⟩ := hl
    have hl1 := b1 _ _ hl' (hm.ne hl' fun _ z => by cases z) fun _ z => by cases z
    have ht1 := b1 _ _ ht (hm.ne ht fun _ z => by cases z) fun _ z => by cases z
    refine ⟨_, rfl, l, _, dx, _, _, rfl, hl1, T.cl, T.nR, lotF_rows t kn n, km, t, m, R0, rfl, hkm, M, ht1, List.Sublist.refl _, O.ne, O.l10, fun H2 m2 b2 hk2 M2 => ?_⟩
    exact q H2 (b1.trans (ButM.but hkm b2)) (.inr ⟨km, m2, b2 _ _ (ne_of hk hkm (by intro z; cases z)) hk, hk2, M2⟩)
theorem sc24 : FnScope ["known", "rows", "place", "zero", "one"] ["known", "rows", "place"] (defScope (top 24)) := ⟨rfl, rfl, rfl, by decide +kernel, rfl, by decide +kernel, by decide +kernel⟩
theorem c_word (T : Txt K mg) {n : Nat} {R0 : List Row} (O : RowsOk n R0) : CalL P w K mg base 13 "word_at" (spWord n R0) := by
  have cD : CalL P w K mg base 12 "deepest_from" (spDeep n R0 10) := c_deep T O 10
  have cP : CalL P w K mg base 1 "parted" (spParted K) := c_parted T
  refine mkCal T (j := 12) (i := 24) rfl rfl (fun _ _ _ _ _ _ us hl => match us, hl with | [_, _, _], _ => rfl) sc24 (fun vs H Q E h => ?_) (fun f cdv A outer s H vs Q E hr h => ?_)
  · obtain ⟨_, _, _, _, _, rfl, _⟩ := h
    rfl
  · obtain ⟨km, a, m, S, p, rfl, hk, M, ha, hsub, hp, q⟩ := h
    obtain ⟨hpn, hop⟩ := mem_opens.mp hp
    have hl10 : S.length ≤ 10 := Nat.le_trans hsub.length_le O.l10
    refine ⟨_, pss_cons (ps_asg (pe_f cP hr (by decide) rfl (pa_cons (pv 1) (pa_cons (pv 2) pa_nil))) (pg_tup rfl (pgs_cons (pg_name (i := 3) sc24.nd rfl (Or.inl rfl)) (pgs_cons (pg_name (i := 4) sc24.nd rfl (Or.inl rfl)) pgs_nil))))
      (pss_cons (ps_if (pt_cmpR op_eq (pe_callB (call_lenK K) rfl T.lenB bt_len (pa_cons (pv 4) pa_nil)) pe_int (nomark _)) (pss_one (ps_ret pe_str)) pss_nil)
      (pss_cons (ps_if (pt_cmpR op_eq (pe_callB (call_lenK K) rfl T.lenB bt_len (pa_cons (pv 3) pa_nil)) pe_int (nomark _)) (pss_one (ps_ret pe_str)) pss_nil)
      (pss_one (ps_ret (pe_ifExp (pt_cmpR op_ge (pe_f cD hr (by decide) rfl (pa_cons (pv 0) (pa_cons (pv 3) pa_nil))) (pe_f cD hr (by decide) rfl (pa_cons (pv 0) (pa_cons (pv 4) pa_nil))) (nomark _)) pe_str pe_str))))), ?_⟩
    have notz : ∀ b, ¬ decide (V.int ((side b p S).length : Nat) = V.int 0) = true := fun b z => by
      have e := of_decide_eq_true z
      injection e with e
      have := List.length_pos_iff.mpr (side_ne hop b)
      omega
    refine ⟨_, rfl, _, rfl, a, S, n, p, rfl, SqT.of ha, O.wide.sub hsub, O.n10, by omega, hpn, fun H4 q4 t0 t1 s4 eq4 et0 et1 => ?_⟩
    refine ⟨q4, _, rfl, SqT.of eq4, rfl, _, _, rfl, _, _, rfl, rfl, ?_⟩
    refine ⟨_, rfl, _, _, rfl, .inr ⟨_, SqT.of et1, (rowsV_len _).symm⟩, rfl, _, rfl, ite2 (fun c => absurd c (notz true)) (fun _ => ?_)⟩
    refine ⟨_, rfl, _, _, rfl, .inr ⟨_, SqT.of et0, (rowsV_len _).symm⟩, rfl, _, rfl, ite2 (fun c => absurd c (notz false)) (fun _ => ?_)⟩
    have l0 := side_lt hop false
    have l1 := side_lt hop true
    have hk4 := s4 _ _ hk
    refine ⟨_, rfl, _, rfl, km, t0, m, side false p S, rfl, hk4, M, et0, (side_sub _ _ _).trans hsub, side_ne hop false, by omega, fun H5 m5 b5 hk5 hm5 => ?_⟩
    have et1' : H5 t1 = _ := b5 _ _ (ne_of et1 hk4 (by intro z; cases z)) et1
    refine ⟨_, rfl, _, rfl, km, t1, m5, side true p S, rfl, hk5, hm5, et1', (side_sub _ _ _).trans hsub, side_ne hop true, by omega, fun H6 m6 b6 hk6 hm6 => ?_⟩
    have fin := q H6 m6 ((But.of s4).trans (b5.trans b6)) hk6 hm6
    unfold wordOf at fin
    refine ⟨_, _, rfl, rfl, _, rfl, ite2 (fun c => ?_) (fun c => ?_)⟩
    · have c' := of_decide_eq_true c
      rw [decide_eq_true (show D n (side true p S) ≤ D n (side false p S) by omega)] at fin
      show Q (.str ("0" : String)) H6
      rw [lit0]
      exact fin
    · have c' : ¬ _ := fun z => c (decide_eq_true z)
      rw [decide_eq_false (show ¬ D n (side true p S) ≤ D n (side false p S) by omega)] at fin
      show Q (.str ("1" : String)) H6
      rw [lit1]
      exact fin
end
end Lik
namespace Lik
open PySem PySem.Spec PyProof.Rows L2
/-! ### dicts whose keys are standings -/
def SDict {α : Type} (f : α → V) (L : List (Stg × α)) : List (Key × V) := L.map fun e => (.inr (encS e.1), f e.2)
theorem nodup_inj {α β : Type} {f : α → β} (hf : ∀ a b, f a = f b → a = b) : ∀ {l : List α}, l.Nodup → (l.map f).Nodup
  | [], _ => List.nodup_nil
  | a :: r, h => by
    obtain ⟨h1, h2⟩ := List.nodup_cons.mp h
    rw [List.map_cons]
    refine List.nodup_cons.mpr ⟨fun m => ?_, nodup_inj hf h2⟩
    obtain ⟨b, hb, e⟩ := List.mem_map.mp m
    rw [hf b a e] at hb
    exact h1 hb
theorem valV_nd {κ : Type} [DecidableEq κ] : ∀ {kvs : List (κ × V)} {k : κ} {v : V}, (kvs.map (·.1)).Nodup → (k, v) ∈ kvs → valV kvs k = some v
  | p :: r, k, v, h, m => by
    have h : (p.1 :: r.map (·.1)).Nodup := h
    obtain ⟨h1, h2⟩ := List.nodup_cons.mp h
    rcases List.mem_cons.mp m with e | m
    · subst e
      exact valV_pos rfl
    · have ne : ¬ p.1 = k := fun e => h1 (by rw [e]; exact List.mem_map.mpr ⟨_, m, rfl⟩)
      rw [valV_neg ne]
      exact valV_nd h2 m
theorem valV_out {κ : Type} [DecidableEq κ] {kvs : List (κ × V)} {k : κ} (h : k ∉ kvs.map (·.1)) : valV kvs k = none := by
  cases e : valV kvs k with
  | none => rfl
  | some v => exact absurd (valV_in e) h
section
variable {α : Type} {f : α → V} {L : List (Stg × α)} {s : Stg}
theorem SDict_len : (SDict f L).length = L.length := List.length_map _
theorem SDict_keys : (SDict f L).map (·.1) = (L.map (·.1)).map fun s => (.inr (encS s) : Key) := by
  unfold SDict
  rw [List.map_map, List.map_map]
  rfl
theorem SDict_nd (h : (L.map (·.1)).Nodup) : ((SDict f L).map (·.1)).Nodup := by
  rw [SDict_keys]
  exact nodup_inj (fun _ _ e => encS_inj (Sum.inr.inj e)) h
theorem SDict_val {x : α} (h : (L.map (·.1)).Nodup) (m : (s, x) ∈ L) : valV (SDict f L) (.inr (encS s)) = some (f x) :=
  valV_nd (SDict_nd h) (List.mem_map.mpr ⟨_, m, rfl⟩)
theorem SDict_none (h : s ∉ L.map (·.1)) : valV (SDict f L) (.inr (encS s)) = none := valV_out fun m => by
  rw [SDict_keys] at m
  obtain ⟨y, hy, e⟩ := List.mem_map.mp m
  rw [encS_inj (Sum.inr.inj e)] at hy
  exact h hy
theorem SDict_put {x : α} (h : s ∉ L.map (·.1)) : putK (SDict f L) (.inr (encS s)) (f x) = SDict f (L ++ [(s, x)]) := by
  rw [putK_new _ (SDict_none h)]
  unfold SDict
  rw [List.map_append]
  rfl
theorem key_mem (h : s ∈ L.map (·.1)) : ∃ x, (s, x) ∈ L := by
  obtain ⟨e, he, rfl⟩ := List.mem_map.mp h
  exact ⟨e.2, he⟩
end
/-! ### texts compared as a list -/
theorem strOk_enc (s : Stg) : PyData.strOk (encS s) = true := by
  show ((s.map mrk).toArray).all (· < 0x110000) = true
  rw [List.all_toArray, List.all_eq_true]
  intro c hc
  obtain ⟨o, _, rfl⟩ := List.mem_map.mp hc
  cases o with
  | none => rfl
  | some b => cases b <;> rfl
theorem stg_lay : ∀ l : List Stg, PyData.canLayAll0 (l.map fun s => PyData.str (encS s)) = true
  | [] => rfl
  | s :: r => by
    show (PyData.canLay0 (PyData.str (encS s)) && PyData.canLayAll0 (r.map fun s => PyData.str (encS s))) = true
    rw [stg_lay r]
    show (PyData.strOk (encS s) && true) = true
    rw [strOk_enc]
    rfl
theorem stg_dep : ∀ l : List Stg, PyData.depthAll (l.map fun s => PyData.str (encS s)) = 0
  | [] => rfl
  | s :: r => by
    show max (PyData.depth (PyData.str (encS s))) (PyData.depthAll (r.map fun s => PyData.str (encS s))) = 0
    rw [stg_dep r]
    rfl
theorem stg_shaped (l : List Stg) : SeqAt.shaped (.list (l.map fun s => PyData.str (encS s))) = true := by
  unfold SeqAt.shaped
  show (PyData.canLayAll0 (l.map fun s => PyData.str (encS s)) && decide (PyData.depthAll (l.map fun s => PyData.str (encS s)) + 1 ≤ 64)) = true
  rw [stg_lay, stg_dep]
  rfl
theorem stg_dp {K : PySem.W.Frag} {H : Hp} : ∀ l : List Stg, DpAll K H (l.map fun s => V.str (encS s)) (l.map fun s => PyData.str (encS s))
  | [] => .nil
  | s :: r => .cons (.str _) (stg_dp r)
/-! ### reached -/
def But2 (a c : Addr) (H H' : Hp) : Prop := ∀ b o, b ≠ a → b ≠ c → H b = some o → H' b = some o
/-- the standings found so far, each with the rows that fit -/
structure RCore (H : Hp) (n : Nat) (R0 : List Row) (L : List (Stg × Addr)) : Prop where
  nd : (L.map (·.1)).Nodup
  ok : ∀ e ∈ L, Reach n R0 e.1 ∧ H e.2 = some (.tup (rowsV (rowsOf R0 e.1)))
theorem RCore.le {H : Hp} {n : Nat} {R0 : List Row} {L : List (Stg × Addr)} (c : RCore H n R0 L) : L.length ≤ 3 ^ n := by
  have h := stg_count (n := n) c.nd fun s hs => by
    obtain ⟨e, he, rfl⟩ := List.mem_map.mp hs
    exact (c.ok e he).1.len
  rw [List.length_map] at h
  exact h
theorem RCore.small {H : Hp} {n : Nat} {R0 : List Row} {L : List (Stg × Addr)} (c : RCore H n R0 L) (hn : n ≤ 10) : L.length < sizeLine := by
  have h1 := c.le
  have h2 : 3 ^ n ≤ 3 ^ 10 := Nat.pow_le_pow_right (by decide) hn
  exact Nat.lt_of_le_of_lt (Nat.le_trans h1 h2) (by decide)
theorem RCore.same {H H' : Hp} {n : Nat} {R0 : List Row} {L : List (Stg × Addr)} (s : Same H H') (c : RCore H n R0 L) : RCore H' n R0 L := ⟨c.nd, fun e he => ⟨(c.ok e he).1, s _ _ (c.ok e he).2⟩⟩
structure RInv (n : Nat) (R0 : List Row) (d wl : Addr) (Hb : Hp) (ex : Stg → Prop) (bd : Nat) (H : Hp) (L : List (Stg × Addr)) (W : List Stg) : Prop where
  bt : But2 d wl Hb H
  hd : H d = some (.dK (SDict V.ref L))
  core : RCore H n R0 L
  hw : H wl = some (.lst (W.map fun x => .str (encS x)))
  sub : ∀ x ∈ W, x ∈ L.map (·.1)
  cl : ∀ x ∈ L.map (·.1), x ∉ W → ¬ ex x → ∀ p ∈ opens n (rowsOf R0 x), ∀ b, x.set p (some b) ∈ L.map (·.1)
  st : st0 n ∈ L.map (·.1)
  ms : 2 * (3 ^ n - L.length) + W.length ≤ bd
  bl : bd ≤ 2 * 3 ^ n
section
variable {n : Nat} {R0 : List Row} {d wl : Addr} {Hb H H' : Hp} {ex : Stg → Prop} {bd : Nat} {L : List (Stg × Addr)} {W : List Stg}
theorem RInv.same (s : Same H H') (I : RInv n R0 d wl Hb ex bd H L W) : RInv n R0 d wl Hb ex bd H' L W :=
  ⟨fun b o h1 h2 h => s _ _ (I.bt b o h1 h2 h), s _ _ I.hd, I.core.same s, s _ _ I.hw, I.sub, I.cl, I.st, I.ms, I.bl⟩
theorem RInv.new {s : Stg} {p : Nat} {b : Bool} {tb : Addr} (I : RInv n R0 d wl Hb ex bd H L W) (hs : Reach n R0 s) (hp : p ∈ opens n (rowsOf R0 s)) (ht : H tb = some (.tup (rowsV (side b p (rowsOf R0 s))))) (hn : s.set p (some b) ∉ L.map (·.1)) :
    RInv n R0 d wl Hb ex bd (upd (upd H d (.dK (putK (SDict V.ref L) (.inr (encS (s.set p (some b)))) (.ref tb)))) wl (.lst ((W.map fun x => V.str (encS x)) ++ [.str (encS (s.set p (some b)))]))) (L ++ [(s.set p (some b), tb)]) (W ++ [s.set p (some b)]) := by
  have ndw : d ≠ wl := ne_of I.hd I.hw (by intro z; cases z)
  have keep : ∀ c xs, H c = some (.tup xs) → upd (upd H d (.dK (putK (SDict V.ref L) (.inr (encS (s.set p (some b)))) (.ref tb)))) wl (.lst ((W.map fun x => V.str (encS x)) ++ [.str (encS (s.set p (some b)))])) c = some (.tup xs) := fun c xs h => by
    rw [upd_ne (ne_of h I.hw (by intro z; cases z)), upd_ne (ne_of h I.hd (by intro z; cases z))]
    exact h
  have mem : ∀ x, x ∈ (L ++ [(s.set p (some b), tb)]).map (·.1) ↔ x ∈ L.map (·.1) ∨ x = s.set p (some b) := fun x => by
    rw [List.map_append, List.mem_append]
    simp
  have core : RCore (upd (upd H d (.dK (putK (SDict V.ref L) (.inr (encS (s.set p (some b)))) (.ref tb)))) wl (.lst ((W.map fun x => V.str (encS x)) ++ [.str (encS (s.set p (some b)))]))) n R0 (L ++ [(s.set p (some b), tb)]) := by
    refine ⟨?_, fun e he => ?_⟩
    · rw [List.map_append]
      exact nd_snoc I.core.nd hn
    · rcases List.mem_append.mp he with he | he
      · exact ⟨(I.core.ok e he).1, keep _ _ (I.core.ok e he).2⟩
      · rw [List.mem_singleton.mp he]
        refine ⟨.step b hs hp, ?_⟩
        show upd (upd H d _) wl _ tb = some (.tup (rowsV (rowsOf R0 (s.set p (some b)))))
        rw [hs.rows hp]
        exact keep _ _ ht
  refine ⟨fun c o h1 h2 h => ?_, ?_, core, ?_, fun x hx => ?_, fun x hx hw he q hq c => ?_, (mem _).mpr (.inl I.st), ?_, I.bl⟩
  · rw [upd_ne h2, upd_ne h1]
    exact I.bt c o h1 h2 h
  · rw [upd_ne ndw, upd_same, SDict_put hn]
  · rw [upd_same, List.map_append]
    rfl
  · rcases List.mem_append.mp hx with hx | hx
    · exact (mem _).mpr (.inl (I.sub x hx))
    · exact (mem _).mpr (.inr (List.mem_singleton.mp hx))
  · have hw2 : x ∉ W ∧ x ≠ s.set p (some b) := ⟨fun z => hw (List.mem_append_left _ z), fun z => hw (List.mem_append_right _ (List.mem_singleton.mpr z))⟩
    rcases (mem x).mp hx with hx | hx
    · exact (mem _).mpr (.inl (I.cl x hx hw2.1 he q hq c))
    · exact absurd hx hw2.2
  · have h1 := core.le
    have h2 := I.ms
    rw [List.length_append, List.length_singleton] at h1
    rw [List.length_append, List.length_append, List.length_singleton, List.length_singleton]
    omega
end
/-- all standings that can be reached are there -/
def Full (n : Nat) (R0 : List Row) {α : Type} (L : List (Stg × α)) : Prop := ∀ s, Reach n R0 s → s ∈ L.map (·.1)
def spReached (K : PySem.W.Frag) (n : Nat) (R0 : List Row) : Sp := fun vs H Q _ => ∃ (l t kn : Addr), vs = [.ref l] ∧ LotAt K H l t kn n ∧ H t = some (.tup (rowsV R0)) ∧
  ∀ (H' : Hp) (d : Addr) (L : List (Stg × Addr)), Same H H' → H d = none → H' d = some (.dK (SDict V.ref L)) → RCore H' n R0 L → Full n R0 L → Q (.ref d) H'
theorem sc16 : FnScope ["lot", "begin", "found", "waiting", "here", "place", "sign", "rows", "there"] ["lot"] (defScope (top 16)) := ⟨rfl, rfl, rfl, by decide +kernel, rfl, by decide +kernel, by decide +kernel⟩
theorem rowsOf_sub (R : List Row) (s : Stg) : (rowsOf R s).Sublist R := List.filter_sublist
section
variable {P : Program} {w : World} {K : PySem.W.Frag} {mg : Str → Option Value} {base : Heap}
theorem c_reached (T : Txt K mg) {n : Nat} {R0 : List Row} (O : RowsOk n R0) : CalL P w K mg base 2 "reached" (spReached K n R0) := by
  have cD : CalL P w K mg base 1 "differing" (spDiff K) := c_diff T
  have cP : CalL P w K mg base 1 "parted" (spParted K) := c_parted T
  have cS : CalL P w K mg base 1 "start" (spStart K) := c_start T
  have cW : CalL P w K mg base 1 "with_sign" spWith := c_with T
  refine mkCal T (j := 7) (i := 16) rfl rfl (fun _ _ _ _ _ _ us hl => match us, hl with | [_], _ => rfl) sc16 (fun vs H Q E h => ?_) (fun f cdv A outer s H vs Q E hr h => ?_)
  · obtain ⟨_, _, _, rfl, _⟩ := h
    rfl
  · obtain ⟨l, t, kn, rfl, hl, ht, q⟩ := h
    have hu := hu_of hr
    obtain ⟨dx, hl'⟩ := id hl
    refine ⟨_, pss_cons (ps_set (i := 1) sc16.nd rfl (Or.inl rfl) (pe_f cS hr (by decide) rfl (pa_cons (pv 0) pa_nil)))
      (pss_cons (ps_set (i := 2) sc16.nd rfl (Or.inl rfl) (pe_disp (pps_cons (pv 1) (pe_fld (pv 0) rfl) pps_nil) (by rfl) (by rfl) (fun z => by cases z) (by decide)))
      (pss_cons (ps_set (i := 3) sc16.nd rfl (Or.inl rfl) (pe_lst (pa_cons (pv 1) pa_nil)))
      (pss_cons (ps_while PassesOwn.never (pt_cmpR (op_neD hr.units) (pv 3) (pe_lst pa_nil) (nomark _))
        (pss_cons (ps_set (i := 4) sc16.nd rfl (Or.inl rfl) (pe_bm0 PySem.F.plainAttrs_list PySem.F.slot_list_pop PySem.F.type_list_pop mt_pop (pv 3)))
        (pss_one (ps_for PassesOwn.never rfl (pi_tupK K (pe_f cD hr (by decide) rfl (pa_cons (pe_dget hu (pv 2) (pv 4) (fun _ _ => rfl)) pa_nil))) (pg_name (i := 5) sc16.nd rfl (Or.inl rfl))
          (pss_one (ps_for PassesOwn.never rfl (RZ.pi_zipA rfl T.zipB (pa_cons (pe_glob (v := .ref (He.ga K "SIGNS")) rfl T.signs rfl) (pa_cons (pe_f cP hr (by decide) rfl (pa_cons (pe_dget hu (pv 2) (pv 4) (fun _ _ => rfl)) (pa_cons (pv 5) pa_nil))) pa_nil)))
            (pg_tup rfl (pgs_cons (pg_name (i := 6) sc16.nd rfl (Or.inl rfl)) (pgs_cons (pg_name (i := 7) sc16.nd rfl (Or.inl rfl)) pgs_nil)))
            (pss_cons (ps_set (i := 8) sc16.nd rfl (Or.inl rfl) (pe_f cW hr (by decide) rfl (pa_cons (pv 4) (pa_cons (pv 5) (pa_cons (pv 6) pa_nil)))))
            (pss_one (ps_if (pt_cmp (pc_dnotin hu (pv 8) (pv 2)))
              (pss_cons (ps_dput hu (pv 2) (pv 8) (pv 7) rfl)
              (pss_one (ps_expr (pe_bm PySem.F.plainAttrs_list PySem.F.slot_list_append PySem.F.type_list_append mt_append (pv 3) (pa_cons (pv 8) pa_nil))))) pss_nil)))))))))
      (pss_one (ps_ret (pv 2)))))), ?_⟩
    -- begin, found, waiting
    refine ⟨_, rfl, l, t, kn, n, rfl, hl, O.n10, fun d hd => ?_⟩
    have sd := same_new hd (.dK [])
    refine ⟨_, rfl, _, rfl, l, _, dx, _, _, rfl, sd _ _ hl', T.cl, T.nR, lotF_rows t kn n, upd_same, [(.inr (encS (st0 n)), .ref t)], rfl, by show 1 ≤ 15; decide, ?_⟩
    rw [show mergeK [] [((.inr (encS (st0 n)) : Key), V.ref t)] = SDict V.ref [(st0 n, t)] from rfl, upd_upd]
    have sd1 := same_new hd (.dK (SDict V.ref [(st0 n, t)]))
    refine ⟨_, rfl, by show 1 ≤ sizeLine; decide, fun wl hwl => ?_⟩
    have s0 : Same H (upd (upd H d (.dK (SDict V.ref [(st0 n, t)]))) wl (.lst [.str (encS (st0 n))])) := sd1.trans (same_new hwl _)
    have hw0 : H wl = none := sd1.free hwl
    have ndw : d ≠ wl := fun e => by rw [← e, upd_same] at hwl; cases hwl
    generalize hHb : upd (upd H d (.dK (SDict V.ref [(st0 n, t)]))) wl (.lst [.str (encS (st0 n))]) = Hb at s0
    have I0 : RInv n R0 d wl Hb (fun _ => False) (2 * (3 ^ n - 1) + 1) Hb [(st0 n, t)] [st0 n] := by
      refine ⟨fun _ _ _ _ h => h, ?_, ⟨by simp, fun e he => ?_⟩, ?_, fun x hx => hx, fun x hx hw => absurd hx hw, List.mem_singleton.mpr rfl, Nat.le_refl _, by have h3 : 0 < 3 ^ n := Nat.pow_pos (by decide); omega⟩
      · rw [← hHb, upd_ne ndw, upd_same]
      · rw [List.mem_singleton.mp he]
        refine ⟨.base, ?_⟩
        rw [rowsOf_st0]
        exact s0 _ _ ht
      · rw [← hHb, upd_same]
        rfl
    have toSame : ∀ H2, But2 d wl Hb H2 → Same H H2 := fun H2 b c o h => b c o (ne_of_none h hd) (ne_of_none h hw0) (s0 c o h)
    -- while waiting != []
    refine ⟨fun m σ H2 => ∃ (L : List (Stg × Addr)) (W : List Stg) (v4 v5 v6 v7 v8 : Option V), σ = [some (.ref l), some (.str (encS (st0 n))), some (.ref d), some (.ref wl), v4, v5, v6, v7, v8] ∧ RInv n R0 d wl Hb (fun _ => False) m H2 L W,
      ⟨_, _, _, none, none, none, none, none, rfl, I0⟩, fun m σ H2 hW => ?_⟩
    obtain ⟨L, W, v4, v5, v6, v7, v8, rfl, I⟩ := hW
    refine ⟨_, rfl, by show 0 ≤ sizeLine; decide, fun e he => ?_⟩
    have I1 := I.same (same_new he (.lst []))
    refine ⟨_, _, .lst (SqL.of I1.hw) (stg_dp W), .lst (SqL.of upd_same) .nil, stg_shaped W, rfl, _, rfl, ?_⟩
    rcases List.eq_nil_or_concat W with rfl | ⟨W', sh, eW⟩
    · refine iteF ?_
      refine ⟨_, rfl, q _ d L (toSame _ I1.bt) hd I1.hd I1.core fun x hx => ?_⟩
      induction hx with
      | base => exact I1.st
      | step b hs hp ih => exact I1.cl _ ih (fun z => by cases z) (fun z => z) _ hp b
    · subst eW
      have ev : (!PyData.eqv (.list ((W'.concat sh).map fun s => PyData.str (encS s))) (.list [])) = true := by
        rw [List.concat_eq_append]
        cases W' <;> rfl
      rw [if_pos ev]
      rw [List.concat_eq_append] at I1
      refine ⟨fun σ' H' => ∃ m', m' < m ∧ ∃ (L : List (Stg × Addr)) (W : List Stg) (v4 v5 v6 v7 v8 : Option V), σ' = [some (.ref l), some (.str (encS (st0 n))), some (.ref d), some (.ref wl), v4, v5, v6, v7, v8] ∧ RInv n R0 d wl Hb (fun _ => False) m' H' L W, fun σ' H' h => h, ?_⟩
      -- here = waiting.pop()
      have ew : ((W' ++ [sh]).map fun x => V.str (encS x)) = (W'.map fun x => V.str (encS x)) ++ [.str (encS sh)] := by rw [List.map_append]; rfl
      have hw1 := I1.hw
      rw [ew] at hw1
      refine ⟨_, rfl, .inl ⟨rfl, _, SqL.of hw1⟩, wl, _, .str (encS sh), rfl, rfl, hw1, by simp, ?_⟩
      have shL : sh ∈ L.map (·.1) := I1.sub sh (List.mem_append_right _ (List.mem_singleton.mpr rfl))
      obtain ⟨tS, hS⟩ := key_mem shL
      obtain ⟨rS, hT⟩ := I1.core.ok _ hS
      rw [List.dropLast_concat]
      have nwt : ∀ c xs, (upd H2 e (.lst [])) c = some (.tup xs) → c ≠ wl := fun c xs h => ne_of h hw1 (by intro z; cases z)
      have I2 : RInv n R0 d wl Hb (fun x => x = sh) (m - 1) (upd (upd H2 e (.lst [])) wl (.lst (W'.map fun x => V.str (encS x)))) L W' := by
        refine ⟨fun c o h1 h2 h => by rw [upd_ne h2]; exact I1.bt c o h1 h2 h, by rw [upd_ne ndw]; exact I1.hd, ⟨I1.core.nd, fun x hx => ⟨(I1.core.ok x hx).1, by rw [upd_ne (nwt _ _ (I1.core.ok x hx).2)]; exact (I1.core.ok x hx).2⟩⟩, upd_same, fun x hx => I1.sub x (List.mem_append_left _ hx), fun x hx hw he => ?_, I1.st, ?_, by have := I1.bl; omega⟩
        · refine I1.cl x hx (fun z => ?_) (fun z => z)
          rcases List.mem_append.mp z with z | z
          · exact hw z
          · exact he (List.mem_singleton.mp z)
        · have := I1.ms
          rw [List.length_append, List.length_singleton] at this
          omega
      have hm1 : 1 ≤ m := by
        have := I1.ms
        rw [List.length_append, List.length_singleton] at this
        omega
      -- for place in differing(found[here])
      have hlS : (rowsOf R0 sh).length ≤ 10 := Nat.le_trans (rowsOf_sub R0 sh).length_le O.l10
      have hWS : Wide n (rowsOf R0 sh) := O.wide.sub (rowsOf_sub R0 sh)
      refine ⟨_, rfl, _, rfl, d, .ref tS, rfl, by rw [← SDict_val (f := V.ref) I2.core.nd hS]; exact DGet.k (k := .inr (encS sh)) I2.hd, tS, rowsOf R0 sh, n, rfl, SqT.of (I2.core.ok _ hS).2, rS.ne O.ne, hWS, O.n10, by omega, fun H4 q4 s4 e4 => ?_⟩
      have I4 := I2.same s4
      refine ⟨q4, rfl, ⟨_, SqT.of e4⟩, for_it walk_tup (fun i σ H5 => ∃ (L5 : List (Stg × Addr)) (W5 : List Stg) (v5 v6 v7 v8 : Option V), σ = [some (.ref l), some (.str (encS (st0 n))), some (.ref d), some (.ref wl), some (.str (encS sh)), v5, v6, v7, v8] ∧
          RInv n R0 d wl Hb (fun x => x = sh) (m - 1) H5 L5 W5 ∧ H5 q4 = some (.tup ((opens n (rowsOf R0 sh)).map fun p => .int (p : Nat))) ∧ (sh, tS) ∈ L5 ∧ ∀ p ∈ (opens n (rowsOf R0 sh)).take i, ∀ b, sh.set p (some b) ∈ L5.map (·.1))
        ⟨L, W', v5, v6, v7, v8, rfl, I4, e4, hS, fun p hp => by cases hp⟩ (fun i σ H5 _ ⟨_, _, _, _, _, _, _, _, h, _⟩ => SqT.of h) (fun i x σ H5 H6 hi pv y => ?_) (fun σ H5 pv => ?_)⟩
      · obtain ⟨rfl, hx⟩ := y
        obtain ⟨p, hp, rfl, hpo, hpn⟩ := opens_get hx
        obtain ⟨L5, W5, u5, u6, u7, u8, rfl, I5, e5, m5, c5⟩ := pv
        have hlen : sh.length = n := rS.len
        -- for sign, rows in zip(SIGNS, parted(found[here], place))
        refine ⟨_, rfl, _, rfl, d, .ref tS, rfl, by rw [← SDict_val (f := V.ref) I5.core.nd m5]; exact DGet.k (k := .inr (encS sh)) I5.hd, _, rfl, tS, rowsOf R0 sh, n, p, rfl, SqT.of (I5.core.ok _ m5).2, hWS, O.n10, by omega, hpn, fun H7 q7 t0 t1 s7 e7 et0 et1 => ?_⟩
        refine ⟨_, q7, [.str (sgS false), .str (sgS true)], [.ref t0, .ref t1], rfl, .inr ⟨T.signsT _, SqT.of e7, RZ.for_zipT (xs := [.str (sgS false), .str (sgS true)]) (ys := [.ref t0, .ref t1]) rfl (fun j σ H8 => ∃ (L8 : List (Stg × Addr)) (W8 : List Stg) (v6 v7 v8 : Option V), σ = [some (.ref l), some (.str (encS (st0 n))), some (.ref d), some (.ref wl), some (.str (encS sh)), some (.int (p : Nat)), v6, v7, v8] ∧
            RInv n R0 d wl Hb (fun x => x = sh) (m - 1) H8 L8 W8 ∧ H8 q4 = some (.tup ((opens n (rowsOf R0 sh)).map fun p => .int (p : Nat))) ∧ H8 q7 = some (.tup [.ref t0, .ref t1]) ∧ H8 t0 = some (.tup (rowsV (side false p (rowsOf R0 sh)))) ∧ H8 t1 = some (.tup (rowsV (side true p (rowsOf R0 sh)))) ∧
            (sh, tS) ∈ L8 ∧ (∀ x ∈ L5.map (·.1), x ∈ L8.map (·.1)) ∧ ∀ b ∈ [false, true].take j, sh.set p (some b) ∈ L8.map (·.1))
          ⟨L5, W5, u6, u7, u8, rfl, I5.same s7, s7 _ _ e5, e7, et0, et1, m5, fun _ h => h, fun b hb => by cases hb⟩ (fun j σ H8 ⟨_, _, _, _, _, _, _, _, h, _⟩ => ⟨T.signsT _, SqT.of h⟩) (fun j x y Tz σ H8 hx hy pv hT => ?_) (fun σ H8 pv => ?_)⟩⟩
        · obtain ⟨L8, W8, w6, w7, w8, rfl, I8, g4, g7, g0, g1, m8, k8, c8⟩ := pv
          -- the sign b and its rows
          obtain ⟨b, tb, rfl, rfl, hb, gb⟩ : ∃ (b : Bool) (tb : Addr), x = .str (sgS b) ∧ y = .ref tb ∧ [false, true].take (j + 1) = [false, true].take j ++ [b] ∧ H8 tb = some (.tup (rowsV (side b p (rowsOf R0 sh)))) := by
            match j, hx, hy with
            | 0, hx, hy =>
              cases hx
              cases hy
              exact ⟨false, t0, rfl, rfl, rfl, g0⟩
            | 1, hx, hy =>
              cases hx
              cases hy
              exact ⟨true, t1, rfl, rfl, rfl, g1⟩
            | j + 2, hx, hy => cases hx
          have sT := same_new hT (.tup [.str (sgS b), .ref tb])
          have I9 := I8.same sT
          refine ⟨Tz, _, rfl, SqT.of upd_same, rfl, _, _, rfl, _, _, rfl, rfl, ?_⟩
          refine ⟨_, rfl, _, rfl, _, rfl, sh, p, b, rfl, by omega, by rw [hlen]; exact O.n10, ?_⟩
          refine ⟨_, rfl, _, rfl, d, _, rfl, DGet.k (k := .inr (encS (sh.set p (some b)))) I9.hd, _, rfl, ?_⟩
          by_cases hin : sh.set p (some b) ∈ L8.map (·.1)
          · obtain ⟨tx, hx⟩ := key_mem hin
            rw [SDict_val I9.core.nd hx]
            refine iteF ⟨L8, W8, some (.str (sgS b)), some (.ref tb), some (.str (encS (sh.set p (some b)))), rfl, I9, sT _ _ g4, sT _ _ g7, sT _ _ g0, sT _ _ g1, m8, k8, fun b' hb' => ?_⟩
            rw [hb] at hb'
            rcases List.mem_append.mp hb' with z | z
            · exact c8 b' z
            · rw [List.mem_singleton.mp z]
              exact hin
          · rw [SDict_none hin]
            refine iteT ?_
            have I10 := I9.new rS hpo (sT _ _ gb) hin
            refine ⟨_, rfl, _, rfl, _, rfl, d, _, rfl, DPut.k (k := .inr (encS (sh.set p (some b)))) I9.hd (by rw [SDict_len]; exact I9.core.small O.n10), ?_⟩
            have hw9 : (upd (upd H8 Tz (.tup [.str (sgS b), .ref tb])) d (.dK (putK (SDict V.ref L8) (.inr (encS (sh.set p (some b)))) (.ref tb)))) wl = some (.lst (W8.map fun x => V.str (encS x))) := by
              rw [upd_ne ndw.symm]
              exact I9.hw
            have hW8 : W8.length < sizeLine := by
              have h1 := I9.ms
              have h2 := I9.bl
              have h3 : 3 ^ n ≤ 3 ^ 10 := Nat.pow_le_pow_right (by decide) O.n10
              exact Nat.lt_of_le_of_lt (show W8.length ≤ 2 * 3 ^ 10 by omega) (by decide)
            refine ⟨_, rfl, .inl ⟨rfl, _, SqL.of hw9⟩, _, rfl, wl, _, _, rfl, rfl, hw9, by rw [List.length_map]; exact hW8, ?_⟩
            have kp : ∀ c xs, H8 c = some (.tup xs) → upd (upd (upd H8 Tz (.tup [.str (sgS b), .ref tb])) d (.dK (putK (SDict V.ref L8) (.inr (encS (sh.set p (some b)))) (.ref tb)))) wl (.lst ((W8.map fun x => V.str (encS x)) ++ [.str (encS (sh.set p (some b)))])) c = some (.tup xs) := fun c xs h => by
              rw [upd_ne (ne_of h I8.hw (by intro z; cases z)), upd_ne (ne_of h I8.hd (by intro z; cases z))]
              exact sT _ _ h
            have mem : ∀ x, x ∈ L8.map (·.1) → x ∈ (L8 ++ [(sh.set p (some b), tb)]).map (·.1) := fun x h => by
              rw [List.map_append]
              exact List.mem_append_left _ h
            refine ⟨L8 ++ [(sh.set p (some b), tb)], W8 ++ [sh.set p (some b)], some (.str (sgS b)), some (.ref tb), some (.str (encS (sh.set p (some b)))), rfl, I10, kp _ _ g4, kp _ _ g7, kp _ _ g0, kp _ _ g1, List.mem_append_left _ m8, fun x h => mem x (k8 x h), fun b' hb' => ?_⟩
            rw [hb] at hb'
            rcases List.mem_append.mp hb' with z | z
            · exact mem _ (c8 b' z)
            · rw [List.mem_singleton.mp z, List.map_append]
              exact List.mem_append_right _ (List.mem_singleton.mpr rfl)
        · obtain ⟨L8, W8, w6, w7, w8, rfl, I8, g4, g7, g0, g1, m8, k8, c8⟩ := pv
          refine ⟨L8, W8, some (.int (p : Nat)), w6, w7, w8, rfl, I8, g4, m8, fun p' hp' b => ?_⟩
          have et : (opens n (rowsOf R0 sh)).take (i + 1) = (opens n (rowsOf R0 sh)).take i ++ [p] := by rw [List.take_add_one, hp]; rfl
          rw [et] at hp'
          rcases List.mem_append.mp hp' with z | z
          · exact k8 _ (c5 p' z b)
          · rw [List.mem_singleton.mp z]
            exact c8 b (by cases b <;> simp)
      · obtain ⟨L5, W5, u5, u6, u7, u8, rfl, I5, e5, m5, c5⟩ := pv
        rw [opens_tlen, List.take_length] at c5
        refine ⟨m - 1, by omega, L5, W5, _, _, _, _, _, rfl, ⟨I5.bt, I5.hd, I5.core, I5.hw, I5.sub, fun x hx hw _ p hp b => ?_, I5.st, I5.ms, I5.bl⟩⟩
        by_cases e : x = sh
        · rw [e] at hp ⊢
          exact c5 p hp b
        · exact I5.cl x hx hw e p hp b
end
end Lik
namespace Lik
open PySem PySem.Spec PyProof.Rows L2
/-! ### the clever table -/
def ND (g : Nat → V) (l : List Nat) : List (Key × V) := l.map fun p => (.inl (p : Nat), g p)
def wordsD (n : Nat) (S : List Row) : List (Key × V) := ND (fun p => .str (sgS (wordOf n S p))) (opens n S)
theorem ND_len (g : Nat → V) (l : List Nat) : (ND g l).length = l.length := List.length_map _
theorem ND_keys (g : Nat → V) (l : List Nat) : (ND g l).map (·.1) = l.map fun p => (.inl (p : Nat) : Key) := by
  unfold ND
  rw [List.map_map]
  rfl
theorem inl_inj {a b : Nat} (h : (Sum.inl (a : Int) : Key) = .inl (b : Int)) : a = b := by
  have := Sum.inl.inj h
  omega
theorem ND_nd {g : Nat → V} {l : List Nat} (h : l.Nodup) : ((ND g l).map (·.1)).Nodup := by
  rw [ND_keys]
  exact nodup_inj (fun _ _ e => inl_inj e) h
theorem ND_val {g : Nat → V} {l : List Nat} {p : Nat} (h : l.Nodup) (m : p ∈ l) : valV (ND g l) (.inl (p : Nat)) = some (g p) := valV_nd (ND_nd h) (List.mem_map.mpr ⟨_, m, rfl⟩)
theorem ND_none {g : Nat → V} {l : List Nat} {p : Nat} (m : p ∉ l) : valV (ND g l) (.inl (p : Nat)) = none := valV_out fun z => by
  rw [ND_keys] at z
  obtain ⟨y, hy, e⟩ := List.mem_map.mp z
  rw [inl_inj e] at hy
  exact m hy
theorem ND_put {g : Nat → V} {l : List Nat} {p : Nat} (m : p ∉ l) : putK (ND g l) (.inl (p : Nat)) (g p) = ND g (l ++ [p]) := by
  rw [putK_new _ (ND_none m)]
  unfold ND
  rw [List.map_append]
  rfl
theorem nd_take {α : Type} {l : List α} {i : Nat} {a : α} (h : l.Nodup) (e : l[i]? = some a) : a ∉ l.take i := fun m => by
  obtain ⟨j, hj, ej⟩ := List.mem_iff_getElem.mp m
  rw [List.length_take] at hj
  have e2 : l[j]? = some a := by
    rw [← ej, List.getElem?_eq_getElem (show j < l.length by omega)]
    rw [List.getElem_take]
  have := nd_ix h e2 e
  omega
/-- one entry of a table: its pair's address, its words' address -/
def EntOk (H : Hp) (n : Nat) (R0 : List Row) (more : Nat) (e : Stg × Addr × Addr) : Prop :=
  Reach n R0 e.1 ∧ H e.2.1 = some (.tup [.int ((D n (rowsOf R0 e.1) + more : Nat) : Int), .ref e.2.2]) ∧ H e.2.2 = some (.dK (wordsD n (rowsOf R0 e.1)))
def fT : Addr × Addr → V := fun x => .ref x.1
/-- not a thing that stood before (but for the dicts of depths) -/
def Fresh (kn : Addr) (H : Hp) (b : Addr) : Prop := b ≠ kn ∧ ∀ o, H b = some o → ∃ m, o = .dT m
theorem Fresh.ne {kn : Addr} {H : Hp} {a b : Addr} {o : HO} (f : Fresh kn H b) (h : H a = some o) (nt : ∀ m, o ≠ .dT m) : a ≠ b := fun e => by
  rw [e] at h
  obtain ⟨m, hm⟩ := f.2 o h
  exact nt m hm
theorem Fresh.of {kn b : Addr} {H H1 : Hp} {u : HO} (b1 : ButM kn H H1) (hk : H1 kn = some u) (h : H1 b = none) : Fresh kn H b := by
  have nk : b ≠ kn := fun e => by
    rw [e, hk] at h
    cases h
  refine ⟨nk, fun o ho => Classical.byContradiction fun c => ?_⟩
  rw [b1 b o ho nk fun m e => c ⟨m, e⟩] at h
  cases h
def spTable (K : PySem.W.Frag) (n : Nat) (R0 : List Row) : Sp := fun vs H Q _ => ∃ (l t kn : Addr), vs = [.ref l] ∧ LotAt K H l t kn n ∧ H t = some (.tup (rowsV R0)) ∧ MemD H kn n R0 ∧
  ∀ (H' : Hp) (d : Addr) (L : List (Stg × Addr × Addr)), ButM kn H H' → MemD H' kn n R0 → Fresh kn H d → H' d = some (.dK (SDict fT L)) → (L.map (·.1)).Nodup → (∀ e ∈ L, EntOk H' n R0 0 e ∧ Fresh kn H e.2.2 ∧ e.2.2 ≠ d) → Full n R0 L → Q (.ref d) H'
theorem sc25 : FnScope ["lot", "known", "found", "standing", "rows", "words", "place"] ["lot"] (defScope (top 25)) := ⟨rfl, rfl, rfl, by decide +kernel, rfl, by decide +kernel, by decide +kernel⟩
section
variable {P : Program} {w : World} {K : PySem.W.Frag} {mg : Str → Option Value} {base : Heap}
theorem SDict_get {α : Type} {f : α → V} {L : List (Stg × α)} {i : Nat} {x y : V} (hx : ((SDict f L)[i]?.map fun kv => kV kv.1) = some x) (hy : (SDict f L)[i]?.map Prod.snd = some y) : ∃ e, L[i]? = some e ∧ x = .str (encS e.1) ∧ y = f e.2 := by
  unfold SDict at hx hy
  rw [List.getElem?_map] at hx hy
  cases e : L[i]? with
  | none =>
    rw [e] at hx
    cases hx
  | some q =>
    rw [e] at hx hy
    exact ⟨q, rfl, (Option.some.inj hx).symm, (Option.some.inj hy).symm⟩
theorem c_table (T : Txt K mg) {n : Nat} {R0 : List Row} (O : RowsOk n R0) : CalL P w K mg base 14 "clever_table" (spTable K n R0) := by
  have cD : CalL P w K mg base 1 "differing" (spDiff K) := c_diff T
  have cE : CalL P w K mg base 12 "deepest_from" (spDeep n R0 10) := c_deep T O 10
  have cW : CalL P w K mg base 13 "word_at" (spWord n R0) := c_word T O
  have cM : CalL P w K mg base 1 "clever_memory" (spCM K n R0) := c_mem T
  have cR : CalL P w K mg base 2 "reached" (spReached K n R0) := c_reached T O
  refine mkCal T (j := 13) (i := 25) rfl rfl (fun _ _ _ _ _ _ us hl => match us, hl with | [_], _ => rfl) sc25 (fun vs H Q E h => ?_) (fun f cdv A outer s H vs Q E hr h => ?_)
  · obtain ⟨_, _, _, rfl, _⟩ := h
    rfl
  · obtain ⟨l, t, kn, rfl, hl, ht, hm, q⟩ := h
    have hu := hu_of hr
    refine ⟨_, pss_cons (ps_set (i := 1) sc25.nd rfl (Or.inr rfl) (pe_f cM hr (by decide) rfl (pa_cons (pv 0) pa_nil)))
      (pss_cons (ps_set (i := 2) sc25.nd rfl (Or.inl rfl) pe_dnewK)
      (pss_cons (ps_for PassesOwn.never rfl (pi_items (pe_frz (pe_f cR hr (by decide) rfl (pa_cons (pv 0) pa_nil)))) (pg_tup rfl (pgs_cons (pg_name (i := 3) sc25.nd rfl (Or.inl rfl)) (pgs_cons (pg_name (i := 4) sc25.nd rfl (Or.inr rfl)) pgs_nil)))
        (pss_cons (ps_setDc (i := 5) (own := [("place", 6)]) (g := gName 6) (tt := tYes) rfl sc25.nd rfl rfl (swd_true rfl rfl rfl (by decide +kernel)) (pi_tupK K (pe_f cD hr (by decide) rfl (pa_cons (pv 4) pa_nil))) (blkOk_by (N := ["lot", "known", "found", "standing", "rows", "words", "place"]) (sc := defScope (top 25)) (by decide +kernel))
          (fun _ _ _ _ _ => pg_name (i := 6) sc25.nd rfl (Or.inl rfl)) (fun _ _ _ _ _ => pts_nil) (fun _ _ _ _ _ => pv 6) (fun _ _ _ _ _ => pe_f cW hr (by decide) rfl (pa_cons (pv 1) (pa_cons (pv 4) (pa_cons (pv 6) pa_nil)))))
        (pss_one (ps_dput hu (pv 2) (pv 3) (pe_tup (pa_cons (pe_f cE hr (by decide) rfl (pa_cons (pv 1) (pa_cons (pv 4) pa_nil))) (pa_cons (pv 5) pa_nil))) rfl))))
      (pss_one (ps_ret (pv 2))))), ?_⟩
    obtain ⟨dx, hl'⟩ := id hl
    refine ⟨_, rfl, l, t, kn, rfl, hl, hm, fun H1 km m b1 hk1 hkm1 M1 => ?_⟩
    have hl1 := b1 _ _ hl' (hm.ne hl' fun _ z => by cases z) fun _ z => by cases z
    have ht1 := b1 _ _ ht (hm.ne ht fun _ z => by cases z) fun _ z => by cases z
    refine fun d hd => ?_
    have sd := same_new hd (.dK [])
    refine ⟨_, rfl, l, t, kn, rfl, ⟨dx, sd _ _ hl1⟩, sd _ _ ht1, fun H2 dr L s2 ndr edr core full => ?_⟩
    have s12 : Same H1 H2 := sd.trans s2
    refine ⟨dr, _, rfl, edr, trivial, fun od => ?_⟩
    have ed2 : H2 d = some (.dK []) := s2 _ _ upd_same
    have nddr : d ≠ dr := fun e => by
      rw [← e, upd_same] at ndr
      cases ndr
    have k2 : ∀ b o, H1 b = some o → b ≠ dr := fun b o h e => by
      have := sd b o h
      rw [e, ndr] at this
      cases this
    generalize hHb : upd H2 dr (.frz od (.dK (SDict V.ref L))) = Hb
    have toB : ∀ b o, b ≠ dr → H2 b = some o → Hb b = some o := fun b o n h => by
      rw [← hHb, upd_ne n]
      exact h
    have hkmB : Hb km = some (.dT m) := toB _ _ (k2 _ _ hkm1) (s12 _ _ hkm1)
    have ndkm : d ≠ km := ne_of ed2 (s12 _ _ hkm1) (by intro z; cases z)
    have edB : Hb d = some (.dK []) := toB _ _ nddr ed2
    have efz : Hb dr = some (.frz od (.dK (SDict V.ref L))) := by rw [← hHb, upd_same]
    have nkdr : dr ≠ km := ne_of efz hkmB (by intro z; cases z)
    have ent : ∀ e ∈ L, Reach n R0 e.1 ∧ Hb e.2 = some (.tup (rowsV (rowsOf R0 e.1))) := fun e he => ⟨(core.ok e he).1, toB _ _ (ne_of (core.ok e he).2 edr (by intro z; cases z)) (core.ok e he).2⟩
    refine ⟨dr, od, _, rfl, efz, for_it walk_items (fun i σ H3 => ∃ (m3 : List (List Key × V)) (Lt : List (Stg × Addr × Addr)) (v3 v4 v5 v6 : Option V), σ = [some (.ref l), some (.ref km), some (.ref d), v3, v4, v5, v6] ∧ But2 d km Hb H3 ∧ H3 km = some (.dT m3) ∧ MemOk n R0 m3 ∧
        H3 d = some (.dK (SDict fT Lt)) ∧ Lt.map (·.1) = (L.map (·.1)).take i ∧ ∀ e ∈ Lt, EntOk H3 n R0 0 e ∧ H1 e.2.2 = none ∧ e.2.2 ≠ d)
      ⟨m, [], none, none, none, none, rfl, fun _ _ _ _ h => h, hkmB, M1, edB, rfl, fun e he => by cases he⟩ (fun i σ H3 _ ⟨_, _, _, _, _, _, _, b3, _⟩ => b3 _ _ nddr.symm nkdr efz) (fun i x σ H3 H4 hi pv y => ?_) (fun σ H3 pv => ?_)⟩
    · obtain ⟨Tz, x1, y1, rfl, hTz, rfl, hx1, hy1⟩ := y
      obtain ⟨⟨sh, tr⟩, he, rfl, rfl⟩ := SDict_get hx1 hy1
      have hmem : (sh, tr) ∈ L := List.mem_of_getElem? he
      obtain ⟨rS, hT⟩ := ent _ hmem
      obtain ⟨m3, Lt, v3, v4, v5, v6, rfl, b3, hk3, M3, ed3, ek3, en3⟩ := pv
      have sT := same_new hTz (.tup [.str (encS sh), .ref tr])
      have hsub := rowsOf_sub R0 sh
      have hl10 : (rowsOf R0 sh).length ≤ 10 := Nat.le_trans hsub.length_le O.l10
      have hW : Wide n (rowsOf R0 sh) := O.wide.sub hsub
      have hT3 : H3 tr = some (.tup (rowsV (rowsOf R0 sh))) := b3 _ _ (ne_of hT edB (by intro z; cases z)) (ne_of hT hkmB (by intro z; cases z)) hT
      have hne := rS.ne O.ne
      have hon : (opens n (rowsOf R0 sh)).Nodup := opens_nodup n _
      refine ⟨Tz, _, rfl, SqT.of upd_same, rfl, _, _, rfl, _, _, rfl, rfl, ?_⟩
      -- words
      refine ⟨_, rfl, tr, rowsOf R0 sh, n, rfl, SqT.of (sT _ _ hT3), hne, hW, O.n10, by omega, fun H5 q5 s5 e5 => ⟨q5, rfl, ⟨_, SqT.of e5⟩, fun Dw hDw => ?_⟩⟩
      have s35 : Same H3 H5 := sT.trans s5
      have nDd : Dw ≠ d := fun e => by rw [e, s35 _ _ ed3] at hDw; cases hDw
      have nDk : Dw ≠ km := fun e => by rw [e, s35 _ _ hk3] at hDw; cases hDw
      have kD : ∀ b o, H5 b = some o → b ≠ Dw := fun b o h e => by rw [e, hDw] at h; cases h
      refine dc_tup (K := K) (a := q5) (xs := (opens n (rowsOf R0 sh)).map fun p => V.int (p : Nat)) (fun j H6 => ∃ m6, But2 Dw km H5 H6 ∧ H6 km = some (.dT m6) ∧ MemOk n R0 m6 ∧ H6 Dw = some (.dK (ND (fun p => .str (sgS (wordOf n (rowsOf R0 sh) p))) ((opens n (rowsOf R0 sh)).take j))))
        ⟨m3, fun b o n1 _ h => by rw [upd_ne n1]; exact h, by rw [upd_ne nDk.symm]; exact s35 _ _ hk3, M3, upd_same⟩ (fun j H6 _ ⟨_, b6, hk6, _⟩ => SqT.of (b6 _ _ (kD _ _ e5) (ne_of e5 (s35 _ _ hk3) (by intro z; cases z)) e5)) (fun j x H6 hx pv => ?_) (fun H6 pv => ?_)
      · obtain ⟨p, hp, rfl, hpo, hpn⟩ := opens_get hx
        obtain ⟨m6, b6, hk6, M6, eD6⟩ := pv
        have hT5 := s35 _ _ hT3
        have hT6 : H6 tr = some (.tup (rowsV (rowsOf R0 sh))) := b6 _ _ (kD _ _ hT5) (ne_of hT5 (s35 _ _ hk3) (by intro z; cases z)) hT5
        refine ⟨rfl, _, rfl, _, rfl, _, rfl, _, rfl, km, tr, m6, rowsOf R0 sh, p, rfl, hk6, M6, hT6, hsub, hpo, fun H7 m7 b7 hk7 M7 => ?_⟩
        have eD7 := b7 _ _ nDk eD6
        refine ⟨_, .inl (p : Nat), rfl, eD7, ?_, m7, fun b o n1 n2 h => ?_, ?_, M7, ?_⟩
        · rw [ND_len]
          have := opens_len n (rowsOf R0 sh)
          rw [List.length_take]
          exact small1000 (by have := O.n10; omega)
        · rw [upd_ne n1]
          exact b7 _ _ n2 (b6 _ _ n1 n2 h)
        · rw [upd_ne nDk.symm]
          exact hk7
        · rw [upd_same]
          have et : (opens n (rowsOf R0 sh)).take (j + 1) = (opens n (rowsOf R0 sh)).take j ++ [p] := by rw [List.take_add_one, hp]; rfl
          rw [et]
          exact congrArg (fun k => some (HO.dK k)) (ND_put (g := fun p => .str (sgS (wordOf n (rowsOf R0 sh) p))) (nd_take hon hp))
      · obtain ⟨m6, b6, hk6, M6, eD6⟩ := pv
        rw [opens_tlen, List.take_length] at eD6
        have hT5 := s35 _ _ hT3
        have hT6 : H6 tr = some (.tup (rowsV (rowsOf R0 sh))) := b6 _ _ (kD _ _ hT5) (ne_of hT5 (s35 _ _ hk3) (by intro z; cases z)) hT5
        -- found[standing] = (deepest_from(known, rows), words)
        refine ⟨_, rfl, _, rfl, km, tr, m6, rowsOf R0 sh, rfl, hk6, M6, hT6, hsub, hne, hl10, fun H8 m8 b8 hk8 M8 => ?_⟩
        have eD8 := b8 _ _ nDk eD6
        have ed6 : H6 d = some (.dK (SDict fT Lt)) := b6 _ _ nDd.symm ndkm (s35 _ _ ed3)
        have ed8 := b8 _ _ ndkm ed6
        refine ⟨_, rfl, by show 2 ≤ sizeLine; decide, fun tp htp => ?_⟩
        have sP := same_new htp (.tup [.int (D n (rowsOf R0 sh) : Nat), .ref Dw])
        have hLt : Lt.length < sizeLine := by
          have e1 : (Lt.map (·.1)).length = Lt.length := List.length_map _
          rw [← e1, ek3, List.length_take, List.length_map]
          exact Nat.lt_of_le_of_lt (Nat.min_le_right _ _) (core.small O.n10)
        refine ⟨_, rfl, _, rfl, d, _, rfl, DPut.k (k := .inr (encS sh)) (sP _ _ ed8) (by rw [SDict_len]; exact hLt), ?_⟩
        have hkey : (L.map (·.1))[i]? = some sh := by rw [List.getElem?_map, he]; rfl
        have hnin : sh ∉ Lt.map (·.1) := by
          rw [ek3]
          exact nd_take core.nd hkey
        have eP : putK (SDict fT Lt) (.inr (encS sh)) (.ref tp) = SDict fT (Lt ++ [(sh, (tp, Dw))]) := SDict_put (f := fT) (x := (tp, Dw)) hnin
        have keep : ∀ b o, b ≠ d → b ≠ km → H3 b = some o → upd (upd H8 tp (.tup [.int (D n (rowsOf R0 sh) : Nat), .ref Dw])) d (.dK (putK (SDict fT Lt) (.inr (encS sh)) (.ref tp))) b = some o := fun b o n1 n2 h => by
          rw [upd_ne n1]
          exact sP _ _ (b8 _ _ n2 (b6 _ _ (kD _ _ (s35 _ _ h)) n2 (s35 _ _ h)))
        refine ⟨m8, Lt ++ [(sh, (tp, Dw))], _, _, _, _, rfl, fun b o n1 n2 h => keep b o n1 n2 (b3 b o n1 n2 h), ?_, M8, ?_, ?_, fun e hm => ?_⟩
        · rw [upd_ne ndkm.symm]
          exact sP _ _ hk8
        · rw [upd_same, eP]
        · rw [List.map_append, ek3, List.take_add_one, hkey]
          rfl
        · rcases List.mem_append.mp hm with hm | hm
          · obtain ⟨⟨r1, r2, r3⟩, r4, r5⟩ := en3 e hm
            exact ⟨⟨r1, keep _ _ (ne_of r2 ed3 (by intro z; cases z)) (ne_of r2 hk3 (by intro z; cases z)) r2, keep _ _ r5 (ne_of r3 hk3 (by intro z; cases z)) r3⟩, r4, r5⟩
          · rw [List.mem_singleton.mp hm]
            refine ⟨⟨rS, ?_, ?_⟩, ?_, nDd⟩
            · show upd (upd H8 tp _) d _ tp = _
              rw [upd_ne (fun e => by rw [e, ed8] at htp; cases htp), upd_same]
              rfl
            · show upd (upd H8 tp _) d _ Dw = _
              rw [upd_ne nDd]
              exact sP _ _ eD8
            · show H1 Dw = none
              cases e : H1 Dw with
              | none => rfl
              | some o =>
                have h1 := s12 _ _ e
                have h2 := toB _ _ (k2 _ _ e) h1
                have h3 := s35 _ _ (b3 _ _ nDd nDk h2)
                rw [hDw] at h3
                cases h3
    · obtain ⟨m3, Lt, v3, v4, v5, v6, rfl, b3, hk3, M3, ed3, ek3, en3⟩ := pv
      have eall : Lt.map (·.1) = L.map (·.1) := by
        rw [ek3, List.take_of_length_le]
        rw [SDict_len, List.length_map]
        exact Nat.le_refl _
      have kp : ∀ b o, H1 b = some o → b ≠ km → H3 b = some o := fun b o h n2 => b3 _ _ (fun e => by rw [e, hd] at h; cases h) n2 (toB _ _ (k2 _ _ h) (s12 _ _ h))
      refine ⟨_, rfl, q H3 d Lt (fun b o h nk nt => ?_) (.inr ⟨km, m3, kp _ _ hk1 (ne_of hk1 hkm1 (by intro z; cases z)), hk3, M3⟩) (Fresh.of b1 hk1 hd) ed3 (by rw [eall]; exact core.nd) (fun e hm => ⟨(en3 e hm).1, Fresh.of b1 hk1 (en3 e hm).2.1, (en3 e hm).2.2⟩) fun x hx => by rw [eall]; exact full x hx⟩
      · exact kp _ _ (b1 _ _ h nk nt) fun e => by
          have h1 := b1 _ _ h nk nt
          rw [e, hkm1] at h1
          exact nt _ (Option.some.inj h1).symm
end
end Lik
namespace Lik
open PySem PySem.Spec PyProof.Rows L2
/-! ### has_just, is_entry, is_clever_table -/
theorem ty_dict {K : PySem.W.Frag} {H : Hp} {d : Addr} {kvs : List (Key × V)} (h : Rd H d (.dK kvs)) : TyX K H (.ref d) (.type "dict") := by
  rcases h with h | ⟨o, h⟩
  · exact .base (.dK h)
  · exact .fDict h
theorem rd_lock {H : Hp} {d : Addr} {u : HO} (h : Rd H d u) : ∃ o0, H d = some o0 ∧ (o0 = u ∨ ∃ o, o0 = .frz o u) := by
  rcases h with h | ⟨o, h⟩
  · exact ⟨u, h, .inl rfl⟩
  · exact ⟨_, h, .inr ⟨o, rfl⟩⟩
theorem Keep.lkr {H : Hp} {d : Addr} {u o0 : HO} (od : Obj) (h : H d = some o0) (ho : o0 = u ∨ ∃ o, o0 = .frz o u) (mu : Mut (some u)) : Keep H (upd H d (.frz od u)) := fun a w mw r => by
  by_cases e : a = d
  · subst e
    have ew : w = u := by
      have nf : ∀ o x, w ≠ .frz o x := fun o x z => by
        rw [z] at mw
        rcases mw with z | ⟨_, z⟩
        · exact z
        · cases z
      rcases ho with rfl | ⟨o, rfl⟩
      · rcases r with r | ⟨o, r⟩
        · rw [h] at r
          exact (Option.some.inj r).symm
        · rw [h] at r
          rw [Option.some.inj r] at mu
          exact mu.elim
      · rcases r with r | ⟨o', r⟩
        · rw [h] at r
          exact absurd (Option.some.inj r).symm (nf _ _)
        · rw [h] at r
          injection Option.some.inj r with _ e2
          exact e2.symm
    subst ew
    exact .inr ⟨od, upd_same⟩
  · unfold Rd
    rw [upd_ne e]
    exact r
def spJustT (K : PySem.W.Frag) : Sp := fun vs H Q _ => ∃ (d q : Addr) (g : Nat → V) (l : List Nat), vs = [.ref d, .ref q] ∧ Rd H d (.dK (ND g l)) ∧ SqT K H q (l.map fun p => .int (p : Nat)) ∧ l.length ≤ 1000 ∧ l.Nodup ∧ ∀ H', Same H H' → Q (.bl true) H'
theorem sc18 : FnScope ["thing", "keys", "key"] ["thing", "keys"] (defScope (top 18)) := ⟨rfl, rfl, rfl, by decide +kernel, rfl, by decide +kernel, by decide +kernel⟩
theorem all_true {α : Type} (l : List α) : (l.map fun _ => true).all id = true := by simp
section
variable {P : Program} {w : World} {K : PySem.W.Frag} {mg : Str → Option Value} {base : Heap}
theorem ints_get {l : List Nat} {i : Nat} {x : V} (h : (l.map fun p => V.int (p : Nat))[i]? = some x) : ∃ p, l[i]? = some p ∧ x = .int (p : Nat) ∧ p ∈ l := by
  rw [List.getElem?_map] at h
  cases e : l[i]? with
  | none =>
    rw [e] at h
    cases h
  | some p =>
    rw [e] at h
    exact ⟨p, rfl, (Option.some.inj h).symm, List.mem_of_getElem? e⟩
theorem c_justT (T : Txt K mg) : CalL P w K mg base 1 "has_just" (spJustT K) := by
  refine mkCal T (j := 8) (i := 18) rfl rfl (fun _ _ _ _ _ _ us hl => match us, hl with | [_, _], _ => rfl) sc18 (fun vs H Q E h => ?_) (fun f cdv A outer s H vs Q E hr h => ?_)
  · obtain ⟨_, _, _, _, rfl, _⟩ := h
    rfl
  · obtain ⟨d, q1, g, l, rfl, hd, hq, hl, hnd, q⟩ := h
    have hu := hu_of hr
    refine ⟨_, pss_one (ps_ret (pe_and (pe_isi K rfl T.isi rfl T.dictB bt_dict (pv 0)) (pe_and (pe_cmpR op_eq (pe_callB call_lenR rfl T.lenB bt_len (pa_cons (pv 0) pa_nil)) (pe_callB (call_lenK K) rfl T.lenB bt_len (pa_cons (pv 1) pa_nil)) (nomark _))
      (pe_one (pe_callB (cr_allK K) rfl T.allB bt_all (pa_cons (pe_lc (own := [("key", 2)]) (g := gName 2) (tt := tYes) rfl sc18.nd (pi_tupK K (pv 1)) (blkOk_by (N := ["thing", "keys", "key"]) (sc := defScope (top 18)) (by decide +kernel))
        (fun _ _ _ _ _ => pg_name (i := 2) sc18.nd rfl (Or.inl rfl)) (fun _ _ _ _ _ => pts_nil) (fun _ _ _ _ _ => pe_cmp (pc_din hu (pv 2) (pv 0)) rfl)) pa_nil)))))), ?_⟩
    refine ⟨_, rfl, _, _, _, _, true, rfl, .ty _, ty_dict hd, kit_ty (by decide +kernel), true, rfl, iteT ?_⟩
    refine ⟨_, rfl, d, _, rfl, hd, _, rfl, _, _, rfl, .inr ⟨_, hq, rfl⟩, rfl, _, rfl, ?_⟩
    have ee : decide (V.int (((ND g l).length : Nat) : Int) = V.int (((l.map fun p => V.int (p : Nat)).length : Nat) : Int)) = true := decide_eq_true (by rw [ND_len, List.length_map])
    rw [if_pos ee]
    refine ⟨_, rfl, q1, rfl, ⟨_, hq⟩, fun D hD => lc_it walk_tup (PvF H D l fun _ => [V.bl true]) (PvF.zero hD) (fun i H1 _ pv => (same_keep pv.1).sqT hq) (fun i x H1 H2 hi pv y => ?_) (fun H1 pv => ?_)⟩
    · obtain ⟨rfl, hx⟩ := y
      obtain ⟨p, hp, rfl, hm⟩ := ints_get hx
      refine ⟨rfl, _, rfl, _, rfl, d, some (g p), rfl, ?_, ?_⟩
      · rw [← ND_val (g := g) hnd hm]
        exact .inl ⟨_, .inl (p : Nat), (same_keep pv.1).dK hd, rfl, rfl⟩
      · exact pv.add hD (Same.refl _) (fun _ => Nat.le_refl 1) (small10 hl) hp rfl
    · have e := pv.done (List.length_map _)
      refine ⟨D, l.map fun _ => true, rfl, SqL.of (by rw [e, flat_map, List.map_map]; rfl), ?_⟩
      rw [all_true]
      exact q H1 pv.1
/-- the keys are those of another dict -/
def spJustD : Sp := fun vs H Q _ => ∃ (d dk : Addr) (kvs ks : List (Key × V)), vs = [.ref d, .ref dk] ∧ Rd H d (.dK kvs) ∧ Rd H dk (.dK ks) ∧ kvs.length = ks.length ∧ ks.length ≤ sizeLine ∧ (∀ p ∈ ks, (valV kvs p.1).isSome = true) ∧ ∀ H', Same H H' → Q (.bl true) H'
theorem c_justD (T : Txt K mg) : CalL P w K mg base 1 "has_just" spJustD := by
  refine mkCal T (j := 8) (i := 18) rfl rfl (fun _ _ _ _ _ _ us hl => match us, hl with | [_, _], _ => rfl) sc18 (fun vs H Q E h => ?_) (fun f cdv A outer s H vs Q E hr h => ?_)
  · obtain ⟨_, _, _, _, rfl, _⟩ := h
    rfl
  · obtain ⟨d, dk, kvs, ks, rfl, hd, hk, hlen, hsz, hin, q⟩ := h
    have hu := hu_of hr
    refine ⟨_, pss_one (ps_ret (pe_and (pe_isi K rfl T.isi rfl T.dictB bt_dict (pv 0)) (pe_and (pe_cmpR op_eq (pe_callB call_lenR rfl T.lenB bt_len (pa_cons (pv 0) pa_nil)) (pe_callB call_lenR rfl T.lenB bt_len (pa_cons (pv 1) pa_nil)) (nomark _))
      (pe_one (pe_callB (cr_allK K) rfl T.allB bt_all (pa_cons (pe_lkr (pe_lc (own := [("key", 2)]) (g := gName 2) (tt := tYes) rfl sc18.nd (pi_keys (pv 1)) (blkOk_by (N := ["thing", "keys", "key"]) (sc := defScope (top 18)) (by decide +kernel))
        (fun _ _ _ _ _ => pg_name (i := 2) sc18.nd rfl (Or.inl rfl)) (fun _ _ _ _ _ => pts_nil) (fun _ _ _ _ _ => pe_cmp (pc_din hu (pv 2) (pv 0)) rfl))) pa_nil)))))), ?_⟩
    refine ⟨_, rfl, _, _, _, _, true, rfl, .ty _, ty_dict hd, kit_ty (by decide +kernel), true, rfl, iteT ?_⟩
    refine ⟨_, rfl, d, _, rfl, hd, _, rfl, dk, _, rfl, hk, rfl, _, rfl, ?_⟩
    have ee : decide (V.int ((kvs.length : Nat) : Int) = V.int ((ks.length : Nat) : Int)) = true := decide_eq_true (by rw [hlen])
    rw [if_pos ee]
    obtain ⟨o0, h0, ho⟩ := rd_lock hk
    refine ⟨dk, _, o0, h0, ho, trivial, fun od => ?_⟩
    have kp := Keep.lkr od h0 ho trivial
    generalize hHL : upd H dk (.frz od (.dK ks)) = HL at kp
    have ez : HL dk = some (.frz od (.dK ks)) := by rw [← hHL, upd_same]
    refine ⟨_, rfl, dk, od, rfl, .inl ⟨ks, ez, fun D hD => lc_it walk_keys (PvF HL D ks fun _ => [V.bl true]) (PvF.zero hD) (fun i H1 _ pv => pv.1 _ _ ez) (fun i x H1 H2 hi pv y => ?_) (fun H1 pv => ?_)⟩⟩
    · obtain ⟨rfl, k, v, hp, rfl⟩ := y
      have hm := hin _ (List.mem_of_getElem? hp)
      obtain ⟨z, hz⟩ := Option.isSome_iff_exists.mp hm
      refine ⟨rfl, _, rfl, _, rfl, d, some z, rfl, ?_, ?_⟩
      · rw [← hz]
        exact .inl ⟨_, k, (same_keep pv.1).dK (kp.dK hd), rfl, rfl⟩
      · exact pv.add hD (Same.refl _) (fun _ => Nat.le_refl 1) hsz hp rfl
    · have e := pv.done rfl
      have nD : D ≠ dk := fun e1 => by rw [e1, ez] at hD; cases hD
      refine ⟨pv.1 _ _ ez, D, ks.map fun _ => true, rfl, SqL.of (by rw [upd_ne nD, e, flat_map, List.map_map]; rfl), ?_⟩
      rw [all_true]
      refine q _ (same_unlk h0 (o1 := .frz od (.dK ks)) ?_)
      rw [hHL]
      exact pv.1
def spEntry (K : PySem.W.Frag) : Sp := fun vs H Q _ => ∃ (tp q wd : Addr) (k : Nat) (g : Nat → Bool) (l : List Nat), vs = [.ref tp, .ref q] ∧ H tp = some (.tup [.int (k : Nat), .ref wd]) ∧ Rd H wd (.dK (ND (fun p => .str (sgS (g p))) l)) ∧ SqT K H q (l.map fun p => .int (p : Nat)) ∧ l.length ≤ 1000 ∧ l.Nodup ∧
  ∀ H', Same H H' → Q (.bl true) H'
theorem sc26 : FnScope ["thing", "places", "key"] ["thing", "places"] (defScope (top 26)) := ⟨rfl, rfl, rfl, by decide +kernel, rfl, by decide +kernel, by decide +kernel⟩
theorem c_entry (T : Txt K mg) : CalL P w K mg base 2 "is_entry" (spEntry K) := by
  have cI : CalL P w K mg base 1 "is_integer" spInt := c_int T
  have cG : CalL P w K mg base 1 "is_sign" spSign := c_sign T
  have cJ : CalL P w K mg base 1 "has_just" (spJustT K) := c_justT T
  refine mkCal T (j := 14) (i := 26) rfl rfl (fun _ _ _ _ _ _ us hl => match us, hl with | [_, _], _ => rfl) sc26 (fun vs H Q E h => ?_) (fun f cdv A outer s H vs Q E hr h => ?_)
  · obtain ⟨_, _, _, _, _, _, rfl, _⟩ := h
    rfl
  · obtain ⟨tp, q1, wd, k, g, l, rfl, ht, hw, hq, hl, hnd, q⟩ := h
    have hu := hu_of hr
    refine ⟨_, pss_cons (ps_if (PW.pt (pw_or (pt_not (pt_val (pe_isi K rfl T.isi rfl T.tupleB bt_tuple (pv 0)))) (pw_or (pt_cmpR op_ne (pe_callB (call_lenK K) rfl T.lenB bt_len (pa_cons (pv 0) pa_nil)) pe_int (nomark _))
        (pw_or (pt_not (pt_val (pe_f cI hr (by decide) rfl (pa_cons (pe_ix (ix_tupK K) (pv 0) pe_int (fun _ _ => rfl)) pa_nil)))) (pw_or1 (pt_cmpR op_lt (pe_ix (ix_tupK K) (pv 0) pe_int (fun _ _ => rfl)) pe_int (nomark _))))))) (pss_one (ps_ret pe_bl)) pss_nil)
      (pss_cons (ps_if (pt_not (pt_val (pe_f cJ hr (by decide) rfl (pa_cons (pe_ix (ix_tupK K) (pv 0) pe_int (fun _ _ => rfl)) (pa_cons (pv 1) pa_nil))))) (pss_one (ps_ret pe_bl)) pss_nil)
      (pss_one (ps_ret (pe_callB (cr_allK K) rfl T.allB bt_all (pa_cons (pe_lkr (pe_lc (own := [("key", 2)]) (g := gName 2) (tt := tYes) rfl sc26.nd (pi_keys (pe_ix (ix_tupK K) (pv 0) pe_int (fun _ _ => rfl))) (blkOk_by (N := ["thing", "places", "key"]) (sc := defScope (top 26)) (by decide +kernel))
        (fun _ _ _ _ _ => pg_name (i := 2) sc26.nd rfl (Or.inl rfl)) (fun _ _ _ _ _ => pts_nil)
        (fun _ _ _ _ _ => pe_and (pe_f cI hr (by decide) rfl (pa_cons (pv 2) pa_nil)) (pe_one (pe_f cG hr (by decide) rfl (pa_cons (pe_dget hu (pe_ix (ix_tupK K) (pv 0) pe_int (fun _ _ => rfl)) (pv 2) (fun _ _ => rfl)) pa_nil)))))) pa_nil))))), ?_⟩
    have hS : ∀ H', Same H H' → SqT K H' tp [.int (k : Nat), .ref wd] := fun H' s => SqT.of (s _ _ ht)
    have a0 : atI [V.int (k : Nat), V.ref wd] 0 = some (.int (k : Nat)) := at_of (j := 0) rfl rfl
    have a1 : atI [V.int (k : Nat), V.ref wd] 1 = some (.ref wd) := at_of (j := 1) rfl rfl
    refine ⟨_, rfl, _, _, _, _, true, rfl, .ty _, .base (.tup ht), kit_ty (by decide +kernel), true, rfl, iteF ?_⟩
    refine ⟨_, rfl, _, 2, rfl, .inr ⟨_, SqT.of ht, rfl⟩, rfl, _, rfl, iteF ?_⟩
    refine ⟨_, rfl, tp, _, _, _, rfl, rfl, SqT.of ht, a0, (k : Nat), rfl, true, rfl, iteF ?_⟩
    refine ⟨_, rfl, tp, _, _, _, rfl, rfl, SqT.of ht, a0, _, _, rfl, rfl, _, rfl, ?_⟩
    have en : ¬ decide ((k : Int) < 0) = true := fun z => by
      have := of_decide_eq_true z
      omega
    refine ite2 (fun c => absurd c en) (fun _ => ?_)
    refine ⟨_, rfl, tp, _, _, _, rfl, rfl, SqT.of ht, a1, _, rfl, wd, q1, _, l, rfl, hw, hq, hl, hnd, fun H1 s1 => ⟨true, rfl, iteF ?_⟩⟩
    have hw1 := same_rd s1 hw
    obtain ⟨o0, h0, ho⟩ := rd_lock hw1
    refine ⟨wd, _, o0, h0, ho, trivial, fun od => ?_⟩
    have kp := Keep.lkr od h0 ho trivial
    have nwt : tp ≠ wd := fun e => by
      have h2 := s1 _ _ ht
      rw [e, h0] at h2
      rcases ho with rfl | ⟨o, rfl⟩ <;> cases h2
    have htL : upd H1 wd (.frz od (.dK (ND (fun p => .str (sgS (g p))) l))) tp = some (.tup [.int (k : Nat), .ref wd]) := by rw [upd_ne nwt]; exact s1 _ _ ht
    generalize hHL : upd H1 wd (.frz od (.dK (ND (fun p => .str (sgS (g p))) l))) = HL at kp htL
    have ez : HL wd = some (.frz od (.dK (ND (fun p => .str (sgS (g p))) l))) := by rw [← hHL, upd_same]
    refine ⟨_, rfl, tp, _, _, _, rfl, rfl, SqT.of htL, a1, wd, od, rfl, .inl ⟨_, ez, fun D hD => lc_it walk_keys (PvF HL D l fun _ => [V.bl true]) (PvF.zero hD) (fun i H2 _ pv => pv.1 _ _ ez) (fun i x H2 H3 hi pv y => ?_) (fun H2 pv => ?_)⟩⟩
    · obtain ⟨rfl, k1, v, hp, rfl⟩ := y
      unfold ND at hp
      rw [List.getElem?_map] at hp
      cases e : l[i]? with
      | none =>
        rw [e] at hp
        cases hp
      | some p =>
        rw [e] at hp
        cases hp
        have hm := List.mem_of_getElem? e
        refine ⟨rfl, _, rfl, (p : Nat), rfl, true, rfl, iteT ?_⟩
        refine ⟨_, rfl, tp, _, _, _, rfl, rfl, SqT.of (pv.1 _ _ htL), a1, _, rfl, wd, .str (sgS (g p)), rfl, ?_, g p, rfl, ?_⟩
        · rw [← ND_val (g := fun p => .str (sgS (g p))) hnd hm]
          exact .inl ⟨_, .inl (p : Nat), .inr ⟨od, pv.1 _ _ ez⟩, rfl, rfl⟩
        · exact pv.add hD (Same.refl _) (fun _ => Nat.le_refl 1) (small10 hl) e rfl
    · have e := pv.done (ND_len _ _)
      have nD : D ≠ wd := fun e1 => by rw [e1, ez] at hD; cases hD
      refine ⟨pv.1 _ _ ez, D, l.map fun _ => true, rfl, SqL.of (by rw [upd_ne nD, e, flat_map, List.map_map]; rfl), ?_⟩
      rw [all_true]
      refine q _ (s1.trans (same_unlk h0 (o1 := .frz od (.dK (ND (fun p => .str (sgS (g p))) l))) ?_))
      rw [hHL]
      exact pv.1
end
end Lik
namespace Lik
open PySem PySem.Spec PyProof.Rows L2
/-! ### is_clever_table -/
theorem full_len {n : Nat} {R0 : List Row} {α β : Type} {L : List (Stg × α)} {M : List (Stg × β)} (hL : (L.map (·.1)).Nodup) (hM : (M.map (·.1)).Nodup) (fL : Full n R0 L) (fM : Full n R0 M) (rL : ∀ e ∈ L, Reach n R0 e.1) (rM : ∀ e ∈ M, Reach n R0 e.1) : L.length = M.length := by
  have h1 := nodup_len hL fun x hx => by
    obtain ⟨e, he, rfl⟩ := List.mem_map.mp hx
    exact fM _ (rL e he)
  have h2 := nodup_len hM fun x hx => by
    obtain ⟨e, he, rfl⟩ := List.mem_map.mp hx
    exact fL _ (rM e he)
  rw [List.length_map, List.length_map] at h1 h2
  omega
theorem EntOk.same {H H' : Hp} {n : Nat} {R0 : List Row} {more : Nat} {e : Stg × Addr × Addr} (s : Same H H') (h : EntOk H n R0 more e) : EntOk H' n R0 more e := ⟨h.1, s _ _ h.2.1, s _ _ h.2.2⟩
theorem sget {α : Type} {f : α → V} {L : List (Stg × α)} {s : Stg} {x : α} {v : V} {H : Hp} {d : Addr} (hd : Rd H d (.dK (SDict f L))) (nd : (L.map (·.1)).Nodup) (m : (s, x) ∈ L) (hv : f x = v) : DGet H d (.str (encS s)) (some v) :=
  .inl ⟨_, .inr (encS s), hd, rfl, by rw [SDict_val nd m, hv]⟩
def spIsT (K : PySem.W.Frag) (n : Nat) (R0 : List Row) : Sp := fun vs H Q _ => ∃ (l t kn d : Addr) (L : List (Stg × Addr × Addr)) (more : Nat), vs = [.ref l, .ref d] ∧ LotAt K H l t kn n ∧ H t = some (.tup (rowsV R0)) ∧
  H d = some (.dK (SDict fT L)) ∧ (L.map (·.1)).Nodup ∧ (∀ e ∈ L, EntOk H n R0 more e) ∧ Full n R0 L ∧ ∀ H' : Hp, Same H H' → Q (.bl true) H'
theorem sc27 : FnScope ["lot", "thing", "known", "standing", "number", "words", "place", "word", "sign", "later", "rows"] ["lot", "thing"] (defScope (top 27)) := ⟨rfl, rfl, rfl, by decide +kernel, rfl, by decide +kernel, by decide +kernel⟩
theorem SDict_at {α : Type} {f : α → V} {L : List (Stg × α)} {i : Nat} {k : Key} {v : V} (h : (SDict f L)[i]? = some (k, v)) : ∃ e, L[i]? = some e ∧ k = .inr (encS e.1) ∧ v = f e.2 := by
  unfold SDict at h
  rw [List.getElem?_map] at h
  cases e : L[i]? with
  | none =>
    rw [e] at h
    cases h
  | some q =>
    rw [e] at h
    cases h
    exact ⟨q, rfl, rfl, rfl⟩
theorem ND_at {g : Nat → V} {l : List Nat} {i : Nat} {x y : V} (hx : ((ND g l)[i]?.map fun kv => kV kv.1) = some x) (hy : (ND g l)[i]?.map Prod.snd = some y) : ∃ p, l[i]? = some p ∧ x = .int (p : Nat) ∧ y = g p := by
  unfold ND at hx hy
  rw [List.getElem?_map] at hx hy
  cases e : l[i]? with
  | none =>
    rw [e] at hx
    cases hx
  | some q =>
    rw [e] at hx hy
    exact ⟨q, rfl, (Option.some.inj hx).symm, (Option.some.inj hy).symm⟩
theorem signs_get {j : Nat} {x : V} (h : [V.str (sgS false), V.str (sgS true)][j]? = some x) : ∃ b : Bool, x = .str (sgS b) := by
  match j, h with
  | 0, h => cases h; exact ⟨false, rfl⟩
  | 1, h => cases h; exact ⟨true, rfl⟩
  | j + 2, h => cases h
section
variable {P : Program} {w : World} {K : PySem.W.Frag} {mg : Str → Option Value} {base : Heap}
theorem c_isT (T : Txt K mg) {n : Nat} {R0 : List Row} (O : RowsOk n R0) : CalL P w K mg base 3 "is_clever_table" (spIsT K n R0) := by
  have cD : CalL P w K mg base 1 "differing" (spDiff K) := c_diff T
  have cW : CalL P w K mg base 1 "with_sign" spWith := c_with T
  have cJ : CalL P w K mg base 1 "has_just" spJustD := c_justD T
  have cN : CalL P w K mg base 2 "is_entry" (spEntry K) := c_entry T
  have cR : CalL P w K mg base 2 "reached" (spReached K n R0) := c_reached T O
  refine mkCal T (j := 15) (i := 27) rfl rfl (fun _ _ _ _ _ _ us hl => match us, hl with | [_, _], _ => rfl) sc27 (fun vs H Q E h => ?_) (fun f cdv A outer s H vs Q E hr h => ?_)
  · obtain ⟨_, _, _, _, _, _, rfl, _⟩ := h
    rfl
  · obtain ⟨l, t, kn, d, L, more, rfl, hl, ht, hd, hnd, hen, hfl, q⟩ := h
    have hu := hu_of hr
    refine ⟨_, pss_cons (ps_set (i := 2) sc27.nd rfl (Or.inl rfl) (pe_f cR hr (by decide) rfl (pa_cons (pv 0) pa_nil)))
      (pss_cons (ps_if (pt_not (pt_val (pe_f cJ hr (by decide) rfl (pa_cons (pv 1) (pa_cons (pv 2) pa_nil))))) (pss_one (ps_ret pe_bl)) pss_nil)
      (pss_cons (ps_if (pt_not (pt_val (pe_callB (cr_allK K) rfl T.allB bt_all (pa_cons (pe_lkr (pe_lc (own := [("standing", 3), ("rows", 10)]) (g := gTup K 2 (gCons (gName 3) (gCons (gName 10) gNil))) (tt := tYes) rfl sc27.nd (pi_items (pv 2))
          (blkOk_by (N := ["lot", "thing", "known", "standing", "number", "words", "place", "word", "sign", "later", "rows"]) (sc := defScope (top 27)) (by decide +kernel))
          (fun _ _ _ _ _ => pg_tup rfl (pgs_cons (pg_name (i := 3) sc27.nd rfl (Or.inl rfl)) (pgs_cons (pg_name (i := 10) sc27.nd rfl (Or.inl rfl)) pgs_nil))) (fun _ _ _ _ _ => pts_nil)
          (fun _ _ _ _ _ => pe_f cN hr (by decide) rfl (pa_cons (pe_dget hu (pv 1) (pv 3) (fun _ _ => rfl)) (pa_cons (pe_f cD hr (by decide) rfl (pa_cons (pv 10) pa_nil)) pa_nil))))) pa_nil)))) (pss_one (ps_ret pe_bl)) pss_nil)
      (pss_cons (ps_for PassesOwn.never rfl (pi_keys (pe_frz (pv 2))) (pg_name (i := 3) sc27.nd rfl (Or.inl rfl))
        (pss_cons (ps_asg (pe_dget hu (pv 1) (pv 3) (fun _ _ => rfl)) (pg_tup rfl (pgs_cons (pg_name (i := 4) sc27.nd rfl (Or.inl rfl)) (pgs_cons (pg_name (i := 5) sc27.nd rfl (Or.inl rfl)) pgs_nil))))
        (pss_one (ps_lkr (ps_for PassesOwn.never rfl (pi_items (pv 5)) (pg_tup rfl (pgs_cons (pg_name (i := 6) sc27.nd rfl (Or.inl rfl)) (pgs_cons (pg_name (i := 7) sc27.nd rfl (Or.inl rfl)) pgs_nil)))
          (pss_one (ps_for PassesOwn.never rfl (pi_tupK K (pe_glob (v := .ref (He.ga K "SIGNS")) rfl T.signs rfl)) (pg_name (i := 8) sc27.nd rfl (Or.inl rfl))
            (pss_cons (ps_set (i := 9) sc27.nd rfl (Or.inl rfl) (pe_ix (ix_tupK K) (pe_dget hu (pv 1) (pe_f cW hr (by decide) rfl (pa_cons (pv 3) (pa_cons (pv 6) (pa_cons (pv 8) pa_nil)))) (fun _ _ => rfl)) pe_int (fun _ _ => rfl)))
            (pss_one (ps_if (PW.pt (pw_or (pt_cmpR op_gt (pv 9) (pv 4) (nomark _)) (pw_or1 (PW.pt (pw_and (pt_cmpR op_ne (pv 8) (pv 7) (nomark _)) (pw_and1 (pt_cmpR op_eq (pv 9) (pv 4) (nomark _)))))))) (pss_one (ps_ret pe_bl)) pss_nil))))))))))
      (pss_one (ps_ret pe_bl))))), ?_⟩
    -- known = reached(lot)
    refine ⟨_, rfl, l, t, kn, rfl, hl, ht, fun H1 dk Lk s1 ndk edk core full => ?_⟩
    have hrL : ∀ e ∈ L, Reach n R0 e.1 := fun e he => (hen e he).1
    have hrK : ∀ e ∈ Lk, Reach n R0 e.1 := fun e he => (core.ok e he).1
    have elen : L.length = Lk.length := full_len hnd core.nd hfl full hrL hrK
    have hsz : Lk.length ≤ sizeLine := Nat.le_of_lt (core.small O.n10)
    have inL : ∀ x, Reach n R0 x → ∃ y, (x, y) ∈ L := fun x hx => key_mem (hfl x hx)
    -- if not has_just(thing, known)
    refine ⟨_, rfl, _, rfl, d, dk, _, _, rfl, .inl (s1 _ _ hd), .inl edk, by rw [SDict_len, SDict_len, elen], by rw [SDict_len]; exact hsz, fun p hp => ?_, fun H2 s2 => ⟨true, rfl, iteF ?_⟩⟩
    · obtain ⟨e, he, rfl⟩ := List.mem_map.mp hp
      obtain ⟨y, hy⟩ := inL e.1 (hrK e he)
      rw [SDict_val hnd hy]
      rfl
    have s02 : Same H H2 := s1.trans s2
    have edk2 := s2 _ _ edk
    -- all entries
    refine ⟨dk, _, _, edk2, .inl rfl, trivial, fun od => ?_⟩
    have ndd : d ≠ dk := fun e => by rw [e, ndk] at hd; cases hd
    have h0k : ∀ b o, H b = some o → b ≠ dk := fun b o h e => by rw [e, ndk] at h; cases h
    have sLk : ∀ b o, H b = some o → upd H2 dk (.frz od (.dK (SDict V.ref Lk))) b = some o := fun b o h => by
      rw [upd_ne (h0k b o h)]
      exact s02 _ _ h
    have coreL : ∀ e ∈ Lk, upd H2 dk (.frz od (.dK (SDict V.ref Lk))) e.2 = some (.tup (rowsV (rowsOf R0 e.1))) := fun e he => by
      rw [upd_ne (ne_of (core.ok e he).2 edk (by intro z; cases z))]
      exact s2 _ _ (core.ok e he).2
    generalize hHL : upd H2 dk (.frz od (.dK (SDict V.ref Lk))) = HL at sLk coreL
    have ez : HL dk = some (.frz od (.dK (SDict V.ref Lk))) := by rw [← hHL, upd_same]
    refine ⟨_, rfl, dk, od, _, rfl, ez, fun D hD => lc_it walk_items (PvF HL D Lk fun _ => [V.bl true]) (PvF.zero hD) (fun i H3 _ pv => pv.1 _ _ ez) (fun i x H3 H4 hi pv y => ?_) (fun H3 pv => ?_)⟩
    · obtain ⟨Tz, x1, y1, rfl, hTz, rfl, hx1, hy1⟩ := y
      obtain ⟨⟨sh, tr⟩, he, rfl, rfl⟩ := SDict_get hx1 hy1
      have hmem : (sh, tr) ∈ Lk := List.mem_of_getElem? he
      have rS := hrK _ hmem
      obtain ⟨⟨tp, wd⟩, hxe⟩ := inL sh rS
      have sT : Same HL (upd H3 Tz (.tup [.str (encS sh), .ref tr])) := pv.1.trans (same_new hTz _)
      have hsub := rowsOf_sub R0 sh
      obtain ⟨_, e1, e2⟩ := hen _ hxe
      refine ⟨Tz, _, rfl, SqT.of upd_same, rfl, _, _, rfl, _, _, rfl, rfl, rfl, ?_⟩
      refine ⟨_, rfl, _, rfl, d, .ref tp, rfl, sget (.inl (sT _ _ (sLk _ _ hd))) hnd hxe rfl, _, rfl, tr, rowsOf R0 sh, n, rfl, SqT.of (sT _ _ (coreL _ hmem)), rS.ne O.ne, O.wide.sub hsub, O.n10, by have := hsub.length_le; have := O.l10; omega, fun H5 q5 s5 e5 => ?_⟩
      have s5' : Same HL H5 := sT.trans s5
      refine ⟨tp, q5, wd, Lik.D n (rowsOf R0 sh) + more, wordOf n (rowsOf R0 sh), opens n (rowsOf R0 sh), rfl, s5' _ _ (sLk _ _ e1), .inl (s5' _ _ (sLk _ _ e2)), SqT.of e5, by have := opens_len n (rowsOf R0 sh); have := O.n10; omega, opens_nodup _ _, fun H6 s6 => ?_⟩
      exact pv.add hD ((same_new hTz _).trans (s5.trans s6)) (fun _ => Nat.le_refl 1) hsz he rfl
    have e := pv.done SDict_len
    have nD : D ≠ dk := fun e1 => by rw [e1, ez] at hD; cases hD
    refine ⟨pv.1 _ _ ez, D, Lk.map fun _ => true, rfl, SqL.of (by rw [upd_ne nD, e, flat_map, List.map_map]; rfl), _, rfl, ?_⟩
    rw [all_true]
    refine iteF ?_
    have s23 : Same H2 (upd H3 dk (.dK (SDict V.ref Lk))) := same_unlk edk2 (o1 := .frz od (.dK (SDict V.ref Lk))) (by rw [hHL]; exact pv.1)
    have s03 : Same H (upd H3 dk (.dK (SDict V.ref Lk))) := s02.trans s23
    -- for standing in known
    refine ⟨_, rfl, dk, _, rfl, upd_same, trivial, fun od2 => ?_⟩
    rw [upd_upd]
    have sB : ∀ b o, H b = some o → upd H3 dk (.frz od2 (.dK (SDict V.ref Lk))) b = some o := fun b o h => by
      have h3 := s03 _ _ h
      rw [upd_ne (h0k b o h)] at h3 ⊢
      exact h3
    generalize hHb : upd H3 dk (.frz od2 (.dK (SDict V.ref Lk))) = Hb at sB
    have ezb : Hb dk = some (.frz od2 (.dK (SDict V.ref Lk))) := by rw [← hHb, upd_same]
    refine ⟨dk, od2, rfl, .inl ⟨_, ezb, for_it walk_keys (fun i σ H4 => ∃ (v3 v4 v5 v6 v7 v8 v9 v10 : Option V), σ = [some (.ref l), some (.ref d), some (.ref dk), v3, v4, v5, v6, v7, v8, v9, v10] ∧ Same Hb H4)
      ⟨_, _, _, _, _, _, _, _, rfl, Same.refl _⟩ (fun i σ H4 _ ⟨_, _, _, _, _, _, _, _, _, h⟩ => h _ _ ezb) (fun i x σ H4 H5 hi pv y => ?_) (fun σ H4 pv => ?_)⟩⟩
    · obtain ⟨rfl, k1, v1, hp, rfl⟩ := y
      obtain ⟨⟨sh, tr⟩, he, rfl, rfl⟩ := SDict_at hp
      obtain ⟨v3, v4, v5, v6, v7, v8, v9, v10, rfl, s4⟩ := pv
      have rS := hrK _ (List.mem_of_getElem? he)
      obtain ⟨⟨tp, wd⟩, hxe⟩ := inL sh rS
      obtain ⟨_, e1, e2⟩ := hen _ hxe
      have sX : ∀ b o, H b = some o → H5 b = some o := fun b o h => s4 _ _ (sB _ _ h)
      refine ⟨_, rfl, _, rfl, d, .ref tp, rfl, sget (.inl (sX _ _ hd)) hnd hxe rfl, ?_⟩
      refine ⟨tp, _, rfl, SqT.of (sX _ _ e1), rfl, _, _, rfl, _, _, rfl, rfl, ?_⟩
      -- for place, word in words.items()
      have ew := sX _ _ e2
      refine ⟨wd, _, _, ew, .inl rfl, trivial, fun od3 => ?_⟩
      have sW : ∀ b o, b ≠ wd → H b = some o → upd H5 wd (.frz od3 (.dK (wordsD n (rowsOf R0 sh)))) b = some o := fun b o nb h => by
        rw [upd_ne nb]
        exact sX _ _ h
      have back : ∀ H', Same (upd H5 wd (.frz od3 (.dK (wordsD n (rowsOf R0 sh))))) H' → Same Hb (upd H' wd (.dK (wordsD n (rowsOf R0 sh)))) := fun H' s' => s4.trans (same_unlk ew s')
      generalize hHw : upd H5 wd (.frz od3 (.dK (wordsD n (rowsOf R0 sh)))) = Hw at sW back
      have ezw : Hw wd = some (.frz od3 (.dK (wordsD n (rowsOf R0 sh)))) := by rw [← hHw, upd_same]
      have nwd : ∀ b o, (∀ m, o ≠ .dK m) → H b = some o → b ≠ wd := fun b o nk h => ne_of h e2 (fun z => nk _ z)
      have kd : ∀ x, Reach n R0 x → ∀ H', Same Hw H' → ∃ tp' wd', DGet H' d (.str (encS x)) (some (.ref tp')) ∧ H' tp' = some (.tup [.int ((Lik.D n (rowsOf R0 x) + more : Nat) : Int), .ref wd']) := fun x hx H' s' => by
        obtain ⟨⟨tp', wd'⟩, hy⟩ := inL x hx
        obtain ⟨_, f1, _⟩ := hen _ hy
        refine ⟨tp', wd', ?_, s' _ _ (sW _ _ (nwd _ _ (fun m z => by cases z) f1) f1)⟩
        have hdR : Rd H' d (.dK (SDict fT L)) := by
          by_cases c : d = wd
          · have hz := s' _ _ ezw
            rw [c] at hd ⊢
            rw [e2] at hd
            rw [← HO.dK.inj (Option.some.inj hd)]
            exact .inr ⟨od3, hz⟩
          · exact .inl (s' _ _ (sW _ _ c hd))
        exact sget hdR hnd hy rfl
      refine ⟨_, rfl, wd, od3, _, rfl, ezw, for_it walk_items (fun j σ H6 => ∃ (v6 v7 v8 v9 v10 : Option V), σ = [some (.ref l), some (.ref d), some (.ref dk), some (.str (encS sh)), some (.int ((Lik.D n (rowsOf R0 sh) + more : Nat) : Int)), some (.ref wd), v6, v7, v8, v9, v10] ∧ Same Hw H6)
        ⟨_, _, _, _, _, rfl, Same.refl _⟩ (fun j σ H6 _ ⟨_, _, _, _, _, _, h⟩ => h _ _ ezw) (fun j x σ H6 H7 hj pv y => ?_) (fun σ H6 pv => ?_)⟩
      · obtain ⟨Tz, x1, y1, rfl, hTz, rfl, hx1, hy1⟩ := y
        obtain ⟨p, hpe, rfl, rfl⟩ := ND_at hx1 hy1
        have hpo := List.mem_of_getElem? hpe
        obtain ⟨v6, v7, v8, v9, v10, rfl, s6⟩ := pv
        have s7 : Same Hw (upd H6 Tz (.tup [.int (p : Nat), .str (sgS (wordOf n (rowsOf R0 sh) p))])) := s6.trans (same_new hTz _)
        refine ⟨Tz, _, rfl, SqT.of upd_same, rfl, _, _, rfl, _, _, rfl, rfl, ?_⟩
        -- for sign in SIGNS
        refine ⟨_, rfl, ⟨_, T.signsT _⟩, for_it walk_tup (fun c σ H8 => ∃ (v8 v9 v10 : Option V), σ = [some (.ref l), some (.ref d), some (.ref dk), some (.str (encS sh)), some (.int ((Lik.D n (rowsOf R0 sh) + more : Nat) : Int)), some (.ref wd), some (.int (p : Nat)), some (.str (sgS (wordOf n (rowsOf R0 sh) p))), v8, v9, v10] ∧ Same Hw H8)
          ⟨_, _, _, rfl, s7⟩ (fun _ _ _ _ _ => T.signsT _) (fun c x σ H8 H9 hc pv y => ?_) (fun σ H8 pv => ?_)⟩
        · obtain ⟨rfl, hx⟩ := y
          obtain ⟨b, rfl⟩ := signs_get hx
          obtain ⟨v8, v9, v10, rfl, s8⟩ := pv
          have rN := Reach.step b rS hpo
          obtain ⟨tp', wd', g1, g2⟩ := kd _ rN H9 s8
          refine ⟨_, rfl, _, rfl, _, rfl, _, rfl, sh, p, b, rfl, by rw [rS.len]; exact (mem_opens.mp hpo).1, by rw [rS.len]; exact O.n10, d, .ref tp', rfl, g1, tp', _, _, _, rfl, rfl, SqT.of g2, at_of (j := 0) rfl rfl, ?_⟩
          have er : rowsOf R0 (sh.set p (some b)) = side b p (rowsOf R0 sh) := rS.rows hpo b
          have le := D_side (n := n) b p (rowsOf R0 sh)
          refine ⟨_, rfl, _, rfl, _, _, rfl, rfl, _, rfl, ite2 (fun c => ?_) (fun _ => ?_)⟩
          · have := of_decide_eq_true c
            rw [er] at this
            omega
          · refine ⟨_, rfl, _, rfl, rfl, _, rfl, ite2 (fun c => ?_) (fun _ => ?_)⟩
            · have ne : b ≠ wordOf n (rowsOf R0 sh) p := fun z => by
                rw [z] at c
                simp at c
              have eb : b = !wordOf n (rowsOf R0 sh) p := by
                cases b <;> cases h : wordOf n (rowsOf R0 sh) p <;> first | rfl | (rw [h] at ne; exact absurd rfl ne)
              have lt := word_slip hpo
              rw [← eb] at lt
              refine ⟨_, rfl, _, rfl, rfl, _, rfl, ite2 (fun c => ?_) (fun _ => ⟨_, _, _, rfl, s8⟩)⟩
              have := of_decide_eq_true c
              injection this with this
              rw [er] at this
              omega
            · exact iteF ⟨_, _, _, rfl, s8⟩
        · obtain ⟨v8, v9, v10, rfl, s8⟩ := pv
          exact ⟨_, _, _, _, _, rfl, s8⟩
      · obtain ⟨v6, v7, v8, v9, v10, rfl, s6⟩ := pv
        exact ⟨s6 _ _ ezw, _, _, _, _, _, _, _, _, rfl, back _ s6⟩
    · obtain ⟨v3, v4, v5, v6, v7, v8, v9, v10, rfl, s4⟩ := pv
      exact q H4 fun b o h => s4 _ _ (sB _ _ h)
end
end Lik
namespace Lik
open PySem PySem.Spec PyProof.Rows L2
/-! ### Lot(..) -/
def decR (z : Str) : Row := z.cps.toList.map fun c => c == 49
theorem dec_enc (r : Row) : decR (encR r) = r := by
  show ((r.map sgn).toArray).toList.map (fun c => c == 49) = r
  have e : ((r.map sgn).toArray).toList = r.map sgn := by simp
  rw [e, List.map_map]
  have : ∀ l : Row, l.map ((fun c => c == 49) ∘ sgn) = l := fun l => by
    induction l with
    | nil => rfl
    | cons b t ih =>
      rw [List.map_cons, ih]
      cases b <;> rfl
  exact this r
theorem perm_rows {R : List Row} {ys : List Str} (h : ys.Perm (R.map encR)) : ∃ R' : List Row, R'.Perm R ∧ ys = R'.map encR := by
  refine ⟨ys.map decR, ?_, ?_⟩
  · have h2 := h.map decR
    rw [List.map_map] at h2
    have e : R.map (decR ∘ encR) = R := by
      have : ∀ l : List Row, l.map (decR ∘ encR) = l := fun l => by
        induction l with
        | nil => rfl
        | cons r t ih =>
          rw [List.map_cons, ih]
          exact congrArg (· :: t) (dec_enc r)
      exact this R
    rw [e] at h2
    exact h2
  · rw [List.map_map]
    have : ∀ l : List Str, (∀ y ∈ l, ∃ r, y = encR r) → l = l.map (encR ∘ decR) := fun l => by
      induction l with
      | nil => intro _; rfl
      | cons y t ih =>
        intro hl
        obtain ⟨r, e⟩ := hl y List.mem_cons_self
        rw [List.map_cons, ← ih fun z hz => hl z (List.mem_cons_of_mem _ hz)]
        refine congrArg (· :: t) ?_
        show y = encR (decR y)
        rw [e, dec_enc]
    exact this ys fun y hy => by
      obtain ⟨r, _, e⟩ := List.mem_map.mp (h.mem_iff.mp hy)
      exact ⟨r, e.symm⟩
theorem rowsV_str (R : List Row) : rowsV R = (R.map encR).map V.str := by
  unfold rowsV
  rw [List.map_map]
  rfl
theorem not_in_rows {R : List Row} {r : Row} (h : r ∉ R) : inV (.str (encR r)) (rowsV R) = false := by
  cases e : inV (.str (encR r)) (rowsV R) with
  | false => rfl
  | true =>
    obtain ⟨x, hx, hq⟩ := List.any_eq_true.mp e
    obtain ⟨r', hr', rfl⟩ := List.mem_map.mp hx
    have hq' : (encR r' == encR r) = true := hq
    have := encR_inj (beq_iff_eq.mp hq')
    rw [this] at hr'
    exact absurd hr' h
theorem flat_rows : ∀ R : List Row, (rowsV R).all flatV = true
  | [] => rfl
  | r :: t => by
    show (true && (rowsV t).all flatV) = true
    rw [flat_rows t]
    rfl
theorem cut_rows {R : List Row} {i : Nat} (h : i < R.length) : cutV (rowsV R) none (some (i : Int)) = rowsV (R.take i) := by
  unfold cutV
  rw [HT.sIx_none, HT.sIx_nat, rowsV_len]
  have e : min i R.length - 0 = i := by omega
  rw [e, List.drop_zero]
  unfold rowsV
  rw [List.map_take]
def spLot (K : PySem.W.Frag) : Sp := fun vs H Q _ => ∃ (p dx a : Addr) (R : List Row) (n : Nat), vs = [.ref p, .ref a] ∧ H p = some (.ins (He.ga K "Lot") dx []) ∧ SqL K H a (rowsV R) ∧ RowsOk n R ∧ R.Nodup ∧
  ∀ (H' : Hp) (t kn : Addr) (R' : List Row), (∀ b o, H b = some o → b ≠ p → H' b = some o) → LotAt K H' p t kn n → H' t = some (.tup (rowsV R')) → H' kn = some (.dK []) → R'.Perm R → Q .non H'
theorem scLot : FnScope ["self", "rows", "index", "row"] ["self", "rows"] (defScope (inClass (top 11) 0)) := ⟨rfl, rfl, rfl, by decide +kernel, rfl, by decide +kernel, by decide +kernel⟩
section
variable {P : Program} {w : World} {K : PySem.W.Frag} {mg : Str → Option Value} {base : Heap}
theorem c_lot (T : Txt K mg) : ∃ (f : Addr) (fd : FuncData), Mk K (He.ga K "Lot") f ∧ FnOk P w K mg base CX0 2 f fd ["self", "rows"] (spLot K) ∧ Binds K fd ["self", "rows"] [] := by
  have cR : CalL P w K mg base 1 "is_row" spRow := c_row T
  obtain ⟨fd, F⟩ := T.c.def_ 29 (d := dLot) rfl
  have F' : FunD K "__init__" "Lot.__init__" (defArgs (inClass (top 11) 0)) (defBody (inClass (top 11) 0)) (defScope (inClass (top 11) 0)) [] [] (He.ma K (He.ga K "Lot") "__init__") fd := F
  refine ⟨_, fd, He.mkr_ok (T.c.fact 22 rfl), F'.ok scLot (fun vs H Q E h => ?_) (fun cdv A outer s H vs Q E hr h => ?_), F'.bindsN fun _ _ _ _ _ _ us hl => match us, hl with | [_, _], _ => rfl⟩
  · obtain ⟨_, _, _, _, _, rfl, _⟩ := h
    rfl
  · obtain ⟨p, dx, a, R, n, rfl, hp, hS, O, hnd, q⟩ := h
    obtain ⟨t64, h64⟩ := T.int 18 (x := "MOST_ROWS") (n := 64)
    obtain ⟨t10, h10⟩ := T.int 19 (x := "MOST_PLACES") (n := 10)
    refine ⟨_, PSs.nox (pss_cons (ps_if (PW.pt (pw_or (pt_not (pt_val (pe_callB call_isiT rfl T.isi bt_isi (pa_cons (pv 1) (pa_cons (pe_tup (pa_cons (pe_bltn (v := .ty "list") rfl T.listB bt_list rfl) (pa_cons (pe_bltn (v := .ty "tuple") rfl T.tupleB bt_tuple rfl) pa_nil))) pa_nil)))))
        (pw_or1 (pt_not (pt_chain op_le op_le pe_int (pe_callB (call_lenK K) rfl T.lenB bt_len (pa_cons (pv 1) pa_nil)) (pe_glob (v := .int 64) rfl h64 ⟨_, rfl⟩)))))) pss_never pss_nil)
      (pss_cons (ps_for PassesOwn.never rfl (pi_enum rfl T.enumB (pa_cons (pv 1) pa_nil)) (pg_tup rfl (pgs_cons (pg_name (i := 2) scLot.nd rfl (Or.inl rfl)) (pgs_cons (pg_name (i := 3) scLot.nd rfl (Or.inl rfl)) pgs_nil)))
        (pss_one (ps_if (PW.pt (pw_or (pt_not (pt_val (pe_f cR hr (by decide) rfl (pa_cons (pv 3) pa_nil)))) (pw_or (pt_not (pt_chain op_le op_le pe_int (pe_callB (call_lenK K) rfl T.lenB bt_len (pa_cons (pv 3) pa_nil)) (pe_glob (v := .int 10) rfl h10 ⟨_, rfl⟩)))
          (pw_or (pt_cmpR op_ne (pe_callB (call_lenK K) rfl T.lenB bt_len (pa_cons (pv 3) pa_nil)) (pe_callB (call_lenK K) rfl T.lenB bt_len (pa_cons (pe_ix (ix_listK K) (pv 1) pe_int (fun _ _ => rfl)) pa_nil)) (nomark _))
          (pw_or1 (pt_cmpR (op_inK K) (pv 3) (pe_slice sl_list (pv 1) po_none (po_some (pv 2))) rfl)))))) pss_never pss_nil)))
      (pss_cons (ps_fld (pv 0) (pe_tupleOf rfl T.tupleB (pe_callB cr_sortedS rfl T.sortedB bt_sorted (pa_cons (pv 1) pa_nil))) rfl)
      (pss_cons (ps_fld (pv 0) (pe_callB (call_lenK K) rfl T.lenB bt_len (pa_cons (pe_ix (ix_listK K) (pv 1) pe_int (fun _ _ => rfl)) pa_nil)) rfl)
      (pss_one (ps_fld (pv 0) pe_dnewK rfl)))))), ?_⟩
    obtain ⟨r0, rs, eR⟩ : ∃ r0 rs, R = r0 :: rs := by
      cases R with
      | nil => exact absurd rfl O.ne
      | cons r0 rs => exact ⟨r0, rs, rfl⟩
    have l0 : r0.length = n := O.wide r0 (by rw [eR]; exact List.mem_cons_self)
    have a0 : atI (rowsV R) 0 = some (.str (encR r0)) := by
      rw [eR]
      exact at_of (j := 0) rfl rfl
    have hn1 := O.n1
    have hn10 := O.n10
    have hl10 := O.l10
    have hl1 : 1 ≤ R.length := List.length_pos_iff.mpr O.ne
    have lz : ∀ r : Row, r.length = n → (encR r).length ≤ sizeLine ∧ n = (encR r).length := fun r h => by
      rw [encR_len, h]
      exact ⟨small10 (by omega), rfl⟩
    -- isinstance(rows, (list, tuple))
    refine ⟨_, rfl, by show 2 ≤ sizeLine; decide, fun tp htp => ?_⟩
    have s1 := same_new htp (.tup [.ty "list", .ty "tuple"])
    have tyL : TyX K (upd H tp (.tup [.ty "list", .ty "tuple"])) (.ref a) (.type "list") := by
      rcases (same_keep s1).sqL hS with (h | ⟨o, h⟩) | ⟨o, its, c, hk, hc, _⟩
      · exact .base (.lst h)
      · exact .base (.frz h)
      · exact .kList hk hc
    refine ⟨_, tp, [.ty "list", .ty "tuple"], _, [.type "list", .type "tuple"], true, rfl, upd_same, .cons (.ty _) (.cons (.ty _) .nil), tyL, kitAny_cons (b := true) (kit_ty (by decide +kernel)) (fun z => by cases z) (fun _ => rfl), true, rfl, iteF ?_⟩
    have hS1 := (same_keep s1).sqL hS
    refine ⟨_, rfl, _, R.length, rfl, .inl ⟨_, hS1, (rowsV_len R).symm⟩, _, _, rfl, rfl, _, rfl, ite2 (fun _ => ?_) (fun c => absurd (decide_eq_true (show (1 : Int) ≤ (R.length : Int) by omega)) c)⟩
    refine ⟨_, _, rfl, rfl, _, rfl, ?_⟩
    refine iteNS (show (R.length : Int) ≤ 64 by omega) ?_
    -- for index, row in enumerate(rows)
    refine ⟨_, rfl, a, _, rfl, hS1, for_it walk_enum (fun i σ H2 => ∃ v2 v3 : Option V, σ = [some (.ref p), some (.ref a), v2, v3] ∧ Same H H2) ⟨none, none, rfl, s1⟩ (fun i σ H2 _ ⟨_, _, _, s⟩ => (same_keep s).sqL hS) (fun i x σ H2 H3 hi pv y => ?_) (fun σ H2 pv => ?_)⟩
    · obtain ⟨Tz, x1, y1, rfl, hTz, rfl, hx1, hy1⟩ := y
      cases hx1
      obtain ⟨r, hri, rfl⟩ := rowsV_get hy1
      obtain ⟨v2, v3, rfl, s2⟩ := pv
      have hir : i < R.length := (List.getElem?_eq_some_iff.mp hri).1
      have lr : r.length = n := wide_get O.wide hri
      have s3 : Same H (upd H2 Tz (.tup [.int (i : Nat), .str (encR r)])) := s2.trans (same_new hTz _)
      refine ⟨Tz, _, rfl, SqT.of upd_same, rfl, _, _, rfl, _, _, rfl, rfl, ?_⟩
      refine ⟨_, rfl, r, rfl, by omega, fun H4 s4 => ⟨true, rfl, iteF ?_⟩⟩
      have hS4 := (same_keep (s3.trans s4)).sqL hS
      refine ⟨_, rfl, _, n, rfl, lz r lr, _, _, rfl, rfl, _, rfl, ite2 (fun _ => ?_) (fun c => absurd (decide_eq_true (show (1 : Int) ≤ (n : Int) by omega)) c)⟩
      refine ⟨_, _, rfl, rfl, _, rfl, ?_⟩
      refine iteNS (show (n : Int) ≤ 10 by omega) ?_
      refine ⟨_, rfl, _, n, rfl, lz r lr, _, rfl, a, _, _, _, rfl, rfl, hS4, a0, _, n, rfl, lz r0 l0, rfl, _, rfl, ?_⟩
      refine iteNS rfl ?_
      refine ⟨_, rfl, _, rfl, _, rfl, _, rfl, a, _, rfl, hS4, fun cp hcp => ?_⟩
      rw [cut_rows hir]
      refine ⟨cp, _, rfl, .inl (SqL.of upd_same), rfl, flat_rows _, _, rfl, ?_⟩
      rw [if_neg (by decide : ¬ (false = true)), not_in_rows (nd_take hnd hri)]
      exact iteF ⟨_, _, rfl, (s3.trans s4).trans (same_new hcp _)⟩
    · obtain ⟨v2, v3, rfl, s2⟩ := pv
      -- self.rows = tuple(sorted(rows))
      refine ⟨_, rfl, a, R.map encR, rfl, by rw [← rowsV_str]; exact (same_keep s2).sqL hS, by rw [List.length_map]; omega, fun ys lp hperm _ hlp => ?_⟩
      obtain ⟨R', hR', rfl⟩ := perm_rows hperm
      rw [← rowsV_str]
      refine .inl ⟨lp, _, rfl, SqL.of upd_same, fun t ht => ?_⟩
      have s3 : Same H2 (upd (upd H2 lp (.lst (rowsV R'))) t (.tup (rowsV R'))) := (same_new hlp _).trans (same_new ht _)
      have s4 := s2.trans s3
      have npt : p ≠ t := ne_of_none (same_new hlp _ _ _ (s2 _ _ hp)) ht
      refine ⟨_, rfl, p, _, dx, [], rfl, s4 _ _ hp, T.cl, T.nR, by show 0 < 1000; decide, ?_⟩
      have kp1 : ∀ b o, H b = some o → b ≠ p → upd (upd (upd H2 lp (.lst (rowsV R'))) t (.tup (rowsV R'))) p (.ins (He.ga K "Lot") dx (putF "rows" (.ref t) [])) b = some o := fun b o h nb => by
        rw [upd_ne nb]
        exact s4 _ _ h
      have nap : ∀ xs, Rd H a (.lst xs) → a ≠ p := fun xs h e => by
        rcases h with h | ⟨o, h⟩ <;> rw [e, hp] at h <;> cases h
      have hS5 : SqL K (upd (upd (upd H2 lp (.lst (rowsV R'))) t (.tup (rowsV R'))) p (.ins (He.ga K "Lot") dx (putF "rows" (.ref t) []))) a (rowsV R) := by
        rcases hS with h | h
        · have na := nap _ h
          rcases h with h | ⟨o, h⟩
          · exact .inl (.inl (kp1 _ _ h na))
          · exact .inl (.inr ⟨o, kp1 _ _ h na⟩)
        · exact .inr h
      -- self.places = len(rows[0]); self.known = {}
      refine ⟨_, rfl, a, _, _, _, rfl, rfl, hS5, a0, _, n, rfl, lz r0 l0, _, rfl, p, _, dx, _, rfl, upd_same, T.cl, T.nP, by show 1 < 1000; decide, ?_⟩
      rw [upd_upd]
      intro kn hkn
      have npk : p ≠ kn := fun e => by rw [← e, upd_same] at hkn; cases hkn
      have ntk : t ≠ kn := fun e => by
        rw [← e, upd_ne npt.symm, upd_same] at hkn
        cases hkn
      refine ⟨_, rfl, p, _, dx, _, rfl, by rw [upd_ne npk, upd_same], T.cl, T.nK, by show 2 < 1000; decide, ?_⟩
      refine q _ t kn R' (fun b o h nb => ?_) ⟨dx, upd_same⟩ ?_ ?_ hR'
      · have nk : b ≠ kn := fun e => by
          rw [← e, upd_ne nb, s4 _ _ h] at hkn
          cases hkn
        rw [upd_ne nb, upd_ne nk, upd_ne nb]
        exact s4 _ _ h
      · rw [upd_ne npt.symm, upd_ne ntk, upd_ne npt.symm, upd_same]
      · rw [upd_ne npk.symm, upd_same]
end
end Lik
namespace Lik
open PySem PySem.Spec PyProof.Rows L2
/-! ### the law's deck: numbers drawn from the script -/
def DeckAt (H : Hp) (d : Addr) : Prop := ∃ (c : Addr) (cs : List Int) (i j k : Int), c ≠ d ∧ H d = some (.lst [.ref c, .int i, .int j, .int k]) ∧ H c = some (.lst (cs.map V.int))
theorem DeckAt.same {H H' : Hp} {d : Addr} (s : Same H H') (h : DeckAt H d) : DeckAt H' d := by
  obtain ⟨c, cs, i, j, k, n, h1, h2⟩ := h
  exact ⟨c, cs, i, j, k, n, s _ _ h1, s _ _ h2⟩
def spDeck (K : PySem.W.Frag) : Sp := fun vs H Q _ => ∃ (a : Addr) (ns : List Int), vs = [.ref a] ∧ SqL K H a (ns.map V.int) ∧ ns.length ≤ 1000 ∧ ∀ (H' : Hp) (d : Addr), Same H H' → H d = none → DeckAt H' d → Q (.ref d) H'
theorem sc29 : FnScope ["_law_script", "_law_cell"] ["_law_script"] (defScope (top 29)) := ⟨rfl, rfl, rfl, by decide +kernel, rfl, by decide +kernel, by decide +kernel⟩
theorem cut_ints {ns : List Int} (k : Nat) : cutV (ns.map V.int) none (some (k : Int)) = (ns.take k).map V.int := by
  unfold cutV
  rw [HT.sIx_none, HT.sIx_nat, List.length_map, List.drop_zero, ← List.map_take, Nat.sub_zero]
  congr 1
  rcases Nat.le_total k ns.length with h | h
  · rw [Nat.min_eq_left h]
  · rw [Nat.min_eq_right h, List.take_length, List.take_of_length_le h]
theorem int_get {ns : List Int} {i : Nat} {x : V} (h : (ns.map V.int)[i]? = some x) : ∃ z, ns[i]? = some z ∧ x = .int z := by
  rw [List.getElem?_map] at h
  cases e : ns[i]? with
  | none =>
    rw [e] at h
    cases h
  | some z =>
    rw [e] at h
    exact ⟨z, rfl, (Option.some.inj h).symm⟩
section
variable {P : Program} {w : World} {K : PySem.W.Frag} {mg : Str → Option Value} {base : Heap}
theorem c_deck (T : Txt K mg) : CalL P w K mg base 1 "_law_deck" (spDeck K) := by
  refine mkCal T (j := 16) (i := 29) rfl rfl (fun _ _ _ _ _ _ us hl => match us, hl with | [_], _ => rfl) sc29 (fun vs H Q E h => ?_) (fun f cdv A outer s H vs Q E hr h => ?_)
  · obtain ⟨_, _, rfl, _⟩ := h
    rfl
  · obtain ⟨a, ns, rfl, hS, hl, q⟩ := h
    refine ⟨_, pss_one (ps_ret (pe_lst (pa_cons (pe_lc (own := [("_law_cell", 1)]) (g := gName 1) (tt := tYes) rfl sc29.nd (pi_listK K (pe_slice sl_list (pv 0) po_none (po_some pe_int))) (blkOk_by (N := ["_law_script", "_law_cell"]) (sc := defScope (top 29)) (by decide +kernel))
        (fun _ _ _ _ _ => pg_name (i := 1) sc29.nd rfl (Or.inl rfl)) (fun _ _ _ _ _ => pts_nil) (fun _ _ _ _ _ => pe_callTy call_int1 rfl T.intB bt_int (pa_cons (pv 1) pa_nil)))
      (pa_cons pe_int (pa_cons pe_int (pa_cons pe_int pa_nil)))))), ?_⟩
    refine ⟨_, rfl, _, rfl, a, _, rfl, hS, fun p hp => ?_⟩
    have s1 := same_new hp (.lst (cutV (ns.map V.int) none (some 63)))
    have eC : cutV (ns.map V.int) none (some 63) = (ns.take 63).map V.int := cut_ints 63
    rw [eC] at s1 ⊢
    refine ⟨p, rfl, ⟨_, SqL.of upd_same⟩, fun D hD => lc_it walk_list (PvF (upd H p (.lst ((ns.take 63).map V.int))) D (ns.take 63) fun z => [V.int z]) (PvF.zero hD) (fun i H2 _ pv => SqL.of (pv.1 _ _ upd_same)) (fun i x H2 H3 hi pv y => ?_) (fun H2 pv => ?_)⟩
    · obtain ⟨rfl, hx⟩ := y
      obtain ⟨z, hz, rfl⟩ := int_get hx
      refine ⟨rfl, _, rfl, .inl ⟨z, rfl, ?_⟩⟩
      exact pv.add hD (Same.refl _) (fun _ => Nat.le_refl 1) (by have := List.length_take_le 63 ns; exact small10 (by omega)) hz rfl
    · have e := pv.done (List.length_map _)
      rw [flat_map] at e
      refine ⟨by show 4 ≤ sizeLine; decide, fun d hd => ?_⟩
      have s2 := s1.trans pv.1
      exact q _ d (s2.trans (same_new hd _)) (s2.free hd) ⟨D, _, 0, 0, 0, ne_of_none e hd, upd_same, same_new hd _ _ _ e⟩
def spPick : Sp := fun vs H Q _ => ∃ (d : Addr) (many : Int), vs = [.ref d, .int many] ∧ DeckAt H d ∧ 0 < many ∧ many < 1073741824 ∧ ∀ (H' : Hp) (r : Int), 0 ≤ r → r < many → But d H H' → DeckAt H' d → Q (.int r) H'
theorem sc30 : FnScope ["_law_deck_here", "_law_many", "_law_found", "_law_cells", "_law_cell", "_law_number"] ["_law_deck_here", "_law_many"] (defScope (top 30)) := ⟨rfl, rfl, rfl, by decide +kernel, rfl, by decide +kernel, by decide +kernel⟩
theorem deck_set {H : Hp} {d c : Addr} {cs : List Int} {i j k i' j' k' : Int} (n : c ≠ d) (h2 : H c = some (.lst (cs.map V.int))) : DeckAt (upd H d (.lst [.ref c, .int i', .int j', .int k'])) d := ⟨c, cs, i', j', k', n, upd_same, by rw [upd_ne n]; exact h2⟩
theorem c_pick (T : Txt K mg) : CalL P w K mg base 1 "_law_pick" spPick := by
  refine mkCal T (j := 17) (i := 30) rfl rfl (fun _ _ _ _ _ _ us hl => match us, hl with | [_, _], _ => rfl) sc30 (fun vs H Q E h => ?_) (fun f cdv A outer s H vs Q E hr h => ?_)
  · obtain ⟨_, _, rfl, _⟩ := h
    rfl
  · obtain ⟨d, many, rfl, ⟨c, cs, i, j, k, ncd, hd, hc⟩, hm0, hm1, q⟩ := h
    refine ⟨_, pss_cons (ps_asg (pe_op op_add (pe_ix ix_list (pv 0) pe_int (fun _ _ => rfl)) pe_int) (pg_sub (pv 0) pe_int set_list))
      (pss_cons (ps_if (pt_cmpR op_gt (pe_ix ix_list (pv 0) pe_int (fun _ _ => rfl)) pe_int (nomark _))
        (pss_cons (ps_set (i := 2) sc30.nd rfl (Or.inl rfl) (pe_op op_mod (pe_callTy call_int1 rfl T.intB bt_int (pa_cons (pe_ix ix_list (pv 0) pe_int (fun _ _ => rfl)) pa_nil)) (pv 1)))
        (pss_cons (ps_asg (pe_op op_fdiv (pe_callTy call_int1 rfl T.intB bt_int (pa_cons (pe_ix ix_list (pv 0) pe_int (fun _ _ => rfl)) pa_nil)) (pv 1)) (pg_sub (pv 0) pe_int set_list))
        (pss_one (ps_ret (pv 2))))) pss_nil)
      (pss_cons (ps_set (i := 3) sc30.nd rfl (Or.inl rfl) (pe_ix ix_list (pv 0) pe_int (fun _ _ => rfl)))
      (pss_cons (ps_set (i := 4) sc30.nd rfl (Or.inl rfl) pe_int)
      (C8.pss_cut (ps_if (pt_cmpR op_gt (pe_callB (call_lenK K) rfl T.lenB bt_len (pa_cons (pv 3) pa_nil)) pe_int (nomark _))
        (pss_one (ps_set (i := 4) sc30.nd rfl (Or.inl rfl) (pe_ix ix_list (pv 3) (pe_op op_mod (pe_callTy call_int1 rfl T.intB bt_int (pa_cons (pe_ix ix_list (pv 0) pe_int (fun _ _ => rfl)) pa_nil)) (pe_callB (call_lenK K) rfl T.lenB bt_len (pa_cons (pv 3) pa_nil))) (fun _ _ => rfl)))) pss_nil)
      (pss_cons (ps_asg (pe_op op_add (pe_ix ix_list (pv 0) pe_int (fun _ _ => rfl)) pe_int) (pg_sub (pv 0) pe_int set_list))
      (C8.pss_cut (ps_if (PW.pt (pw_and (pt_cmpR op_ge (pv 4) (pe_op op_pow pe_int pe_int) (nomark _)) (pw_and1 (pt_cmpR op_le (pe_ix ix_list (pv 0) pe_int (fun _ _ => rfl)) (pe_callB (call_lenK K) rfl T.lenB bt_len (pa_cons (pv 3) pa_nil)) (nomark _)))))
        (pss_cons (ps_asg (pe_op op_fdiv (pe_callTy call_int1 rfl T.intB bt_int (pa_cons (pv 4) pa_nil)) (pv 1)) (pg_sub (pv 0) pe_int set_list))
        (pss_one (ps_ret (pe_op op_mod (pe_callTy call_int1 rfl T.intB bt_int (pa_cons (pv 4) pa_nil)) (pv 1))))) pss_nil)
      (pss_cons (ps_set (i := 5) sc30.nd rfl (Or.inl rfl) (pe_op op_mod (pe_op op_mul (pe_callTy call_int1 rfl T.intB bt_int (pa_cons (pe_op op_add (pe_op op_add (pv 4) (pe_op op_mul pe_int (pe_ix ix_list (pv 0) pe_int (fun _ _ => rfl)))) pe_int) pa_nil)) pe_int) pe_int))
      (pss_cons (ps_set (i := 5) sc30.nd rfl (Or.inl rfl) (pe_op op_mod (pe_op op_mul (pv 5) (pe_op op_add (pe_op op_fdiv (pv 5) pe_int) pe_int)) pe_int))
      (pss_cons (ps_set (i := 5) sc30.nd rfl (Or.inl rfl) (pe_op op_mod (pe_op op_mul (pv 5) (pe_op op_add (pe_op op_fdiv (pv 5) pe_int) pe_int)) pe_int))
      (pss_one (ps_ret (pe_op op_mod (pv 5) (pv 1))))))))))))), ?_⟩
    have bd : ∀ z : Int, 0 ≤ z % many ∧ z % many < many := fun z => ⟨Int.emod_nonneg _ (by omega), Int.emod_lt_of_pos _ hm0⟩
    have bt1 : ∀ o, But d H (upd H d o) := fun o => but_upd o
    -- deck[3] = deck[3] + 1
    refine ⟨_, rfl, d, _, _, .int k, rfl, rfl, SqL.of hd, at_of (j := 3) rfl rfl, _, _, rfl, rfl, _, rfl, d, _, 3, 3, rfl, rfl, hd, rfl, ?_⟩
    show tSeq _ _ _ _ (upd H d (.lst [.ref c, .int i, .int j, .int (k + 1)]))
    -- if deck[2] > 0
    refine ⟨_, rfl, d, _, _, .int j, rfl, rfl, SqL.of upd_same, at_of (j := 2) rfl rfl, _, _, rfl, rfl, _, rfl, ite2 (fun _ => ?_) (fun _ => ?_)⟩
    · refine ⟨_, rfl, d, _, _, .int j, rfl, rfl, SqL.of upd_same, at_of (j := 2) rfl rfl, .inl ⟨_, rfl, _, rfl, _, _, rfl, rfl, hm0, ?_⟩⟩
      refine ⟨_, rfl, d, _, _, .int j, rfl, rfl, SqL.of upd_same, at_of (j := 2) rfl rfl, .inl ⟨_, rfl, _, rfl, _, _, rfl, rfl, ⟨hm0, hm1⟩, _, rfl, d, _, 2, 2, rfl, rfl, upd_same, rfl, ?_⟩⟩
      rw [upd_upd]
      exact ⟨_, rfl, q _ _ (bd j).1 (bd j).2 (bt1 _) (deck_set (i := i) (j := j) (k := k) (i' := i) (j' := j / many) (k' := k + 1) ncd hc)⟩
    · -- cells, cell
      refine ⟨_, rfl, d, _, _, .ref c, rfl, rfl, SqL.of upd_same, at_of (j := 0) rfl rfl, ?_⟩
      have hc1 : upd H d (.lst [.ref c, .int i, .int j, .int (k + 1)]) c = some (.lst (cs.map V.int)) := by rw [upd_ne ncd]; exact hc
      refine ⟨fun σ' H' => ∃ cell : Int, σ' = [some (.ref d), some (.int many), none, some (.ref c), some (.int cell), none] ∧ H' = upd H d (.lst [.ref c, .int i, .int j, .int (k + 1)]), ?_, ?_⟩
      · refine ⟨_, rfl, _, cs.length, rfl, .inl ⟨_, SqL.of hc1, (List.length_map _).symm⟩, _, _, rfl, rfl, _, rfl, ite2 (fun cz => ?_) (fun _ => ?_)⟩
        · have hl : (0 : Int) < (cs.length : Int) := of_decide_eq_true cz
          have hz0 : 0 ≤ i % (cs.length : Int) := Int.emod_nonneg _ (by omega)
          have hz1 : i % (cs.length : Int) < cs.length := Int.emod_lt_of_pos _ hl
          have hzn : (i % (cs.length : Int)).toNat < cs.length := by omega
          refine ⟨_, rfl, _, rfl, d, _, _, .int i, rfl, rfl, SqL.of upd_same, at_of (j := 1) rfl rfl, .inl ⟨_, rfl, _, rfl, _, cs.length, rfl, .inl ⟨_, SqL.of hc1, (List.length_map _).symm⟩, _, _, rfl, rfl, hl, c, _, _, .int (cs[(i % (cs.length : Int)).toNat]), rfl, rfl, SqL.of hc1, ?_, ?_⟩⟩
          · refine at_of (j := (i % (cs.length : Int)).toNat) (by omega) ?_
            rw [List.getElem?_map, List.getElem?_eq_getElem hzn]
            rfl
          · exact ⟨_, rfl, rfl⟩
        · exact ⟨0, rfl, rfl⟩
      · rintro σ' H' ⟨cell, rfl, rfl⟩
        -- deck[1] = deck[1] + 1
        refine ⟨_, rfl, d, _, _, .int i, rfl, rfl, SqL.of upd_same, at_of (j := 1) rfl rfl, _, _, rfl, rfl, _, rfl, d, _, 1, 1, rfl, rfl, upd_same, rfl, ?_⟩
        rw [upd_upd]
        show tSeq _ _ _ _ (upd H d (.lst [.ref c, .int (i + 1), .int j, .int (k + 1)]))
        have hc2 : upd H d (.lst [.ref c, .int (i + 1), .int j, .int (k + 1)]) c = some (.lst (cs.map V.int)) := by rw [upd_ne ncd]; exact hc
        have fin : ∀ z : Int, Q (.int (z % many)) (upd H d (.lst [.ref c, .int (i + 1), .int j, .int (k + 1)])) := fun z => q _ _ (bd z).1 (bd z).2 (bt1 _) (deck_set (i := i) (j := j) (k := k) (i' := i + 1) (j' := j) (k' := k + 1) ncd hc)
        refine ⟨fun σ' H' => σ' = [some (.ref d), some (.int many), none, some (.ref c), some (.int cell), none] ∧ H' = upd H d (.lst [.ref c, .int (i + 1), .int j, .int (k + 1)]), ?_, ?_⟩
        · refine ⟨_, rfl, _, _, rfl, rfl, ⟨by decide, by decide, by decide⟩, _, _, rfl, rfl, _, rfl, ite2 (fun _ => ?_) (fun _ => iteF ⟨rfl, rfl⟩)⟩
          refine ⟨_, rfl, d, _, _, .int (i + 1), rfl, rfl, SqL.of upd_same, at_of (j := 1) rfl rfl, _, rfl, _, cs.length, rfl, .inl ⟨_, SqL.of hc2, (List.length_map _).symm⟩, _, _, rfl, rfl, _, rfl, ite2 (fun _ => ?_) (fun _ => ⟨rfl, rfl⟩)⟩
          refine ⟨_, rfl, .inl ⟨_, rfl, _, rfl, _, _, rfl, rfl, ⟨hm0, hm1⟩, _, rfl, d, _, 2, 2, rfl, rfl, upd_same, rfl, ?_⟩⟩
          rw [upd_upd]
          exact ⟨_, rfl, .inl ⟨_, rfl, _, rfl, _, _, rfl, rfl, hm0, q _ _ (bd cell).1 (bd cell).2 (bt1 _) (deck_set (i := i) (j := j) (k := k) (i' := i + 1) (j' := cell / many) (k' := k + 1) ncd hc)⟩⟩
        · rintro σ' H' ⟨rfl, rfl⟩
          refine ⟨_, rfl, _, rfl, d, _, _, .int (k + 1), rfl, rfl, SqL.of upd_same, at_of (j := 3) rfl rfl, _, _, rfl, rfl, .inl ⟨by decide, by decide⟩, _, _, rfl, rfl, _, _, rfl, rfl, .inl ⟨_, rfl, _, _, rfl, rfl, .inr ⟨by decide, by decide⟩, _, _, rfl, rfl, (by show (0 : Int) < 2147483647; decide), ?_⟩⟩
          generalize (cell + 7919 * (k + 1) + 1) * 48271 = z1
          have b1 : 0 ≤ z1 % 2147483647 ∧ z1 % 2147483647 < 2147483647 := ⟨Int.emod_nonneg _ (by decide), Int.emod_lt_of_pos _ (by decide)⟩
          generalize z1 % 2147483647 = y1 at b1
          refine ⟨_, rfl, _, rfl, _, _, rfl, rfl, ⟨by decide, by decide⟩, _, _, rfl, rfl, _, _, rfl, rfl, .inl ⟨by omega, by omega⟩, _, _, rfl, rfl, (by show (0 : Int) < 2147483647; decide), ?_⟩
          generalize y1 * (y1 / 1009 + 69621) = z2
          have b2 : 0 ≤ z2 % 2147483647 ∧ z2 % 2147483647 < 2147483647 := ⟨Int.emod_nonneg _ (by decide), Int.emod_lt_of_pos _ (by decide)⟩
          generalize z2 % 2147483647 = y2 at b2
          refine ⟨_, rfl, _, rfl, _, _, rfl, rfl, ⟨by decide, by decide⟩, _, _, rfl, rfl, _, _, rfl, rfl, .inl ⟨by omega, by omega⟩, _, _, rfl, rfl, (by show (0 : Int) < 2147483399; decide), ?_⟩
          exact ⟨_, rfl, _, rfl, _, _, rfl, rfl, hm0, fin _⟩
def spFold (K : PySem.W.Frag) : Sp := fun vs H Q _ => ∃ (a : Addr) (ns : List Int), vs = [.ref a] ∧ SqL K H a (ns.map V.int) ∧ ns.length ≤ 1000 ∧ ∀ (H' : Hp) (r : Int), Same H H' → Q (.int r) H'
theorem sc31 : FnScope ["_law_script", "_law_found", "_law_cell"] ["_law_script"] (defScope (top 31)) := ⟨rfl, rfl, rfl, by decide +kernel, rfl, by decide +kernel, by decide +kernel⟩
theorem c_fold (T : Txt K mg) : CalL P w K mg base 1 "_law_fold" (spFold K) := by
  refine mkCal T (j := 18) (i := 31) rfl rfl (fun _ _ _ _ _ _ us hl => match us, hl with | [_], _ => rfl) sc31 (fun vs H Q E h => ?_) (fun f cdv A outer s H vs Q E hr h => ?_)
  · obtain ⟨_, _, rfl, _⟩ := h
    rfl
  · obtain ⟨a, ns, rfl, hS, hl, q⟩ := h
    refine ⟨_, pss_cons (ps_set (i := 1) sc31.nd rfl (Or.inl rfl) (pe_callB (call_lenK K) rfl T.lenB bt_len (pa_cons (pv 0) pa_nil)))
      (pss_cons (ps_for PassesOwn.never rfl (pi_listK K (pe_slice sl_list (pv 0) po_none (po_some pe_int))) (pg_name (i := 2) sc31.nd rfl (Or.inl rfl))
        (pss_one (ps_set (i := 1) sc31.nd rfl (Or.inl rfl) (pe_op op_mod (pe_callTy call_int1 rfl T.intB bt_int (pa_cons (pe_op op_add (pe_op op_add (pe_op op_mul (pv 1) pe_int) (pe_op op_mul (pe_callTy call_int1 rfl T.intB bt_int (pa_cons (pv 2) pa_nil)) pe_int)) pe_int) pa_nil)) pe_int))))
      (pss_one (ps_ret (pe_op op_mod (pe_callTy call_int1 rfl T.intB bt_int (pa_cons (pe_op op_mul (pv 1) (pe_op op_add (pe_op op_fdiv (pv 1) pe_int) pe_int)) pa_nil)) pe_int)))), ?_⟩
    refine ⟨_, rfl, _, ns.length, rfl, .inl ⟨_, hS, (List.length_map _).symm⟩, ?_⟩
    refine ⟨_, rfl, _, rfl, a, _, rfl, hS, fun p hp => ?_⟩
    have eC : cutV (ns.map V.int) none (some 63) = (ns.take 63).map V.int := cut_ints 63
    rw [eC]
    have s1 := same_new hp (.lst ((ns.take 63).map V.int))
    refine ⟨p, rfl, ⟨_, SqL.of upd_same⟩, for_it walk_list (fun i σ H2 => ∃ (z : Int) (v : Option V), σ = [some (.ref a), some (.int z), v] ∧ (0 ≤ z ∧ z < 2147483647) ∧ Same (upd H p (.lst ((ns.take 63).map V.int))) H2) ⟨_, none, rfl, ⟨by omega, by omega⟩, Same.refl _⟩
      (fun i σ H2 _ ⟨_, _, _, _, h⟩ => SqL.of (h _ _ upd_same)) (fun i x σ H2 H3 hi pv y => ?_) (fun σ H2 pv => ?_)⟩
    · obtain ⟨rfl, hx⟩ := y
      obtain ⟨u, hu, rfl⟩ := int_get hx
      obtain ⟨z, v, rfl, hz, s2⟩ := pv
      refine ⟨_, rfl, _, _, rfl, rfl, .inr ⟨by decide, by decide⟩, _, rfl, .inl ⟨_, rfl, _, _, rfl, rfl, .inr ⟨by decide, by decide⟩, _, _, rfl, rfl, _, _, rfl, rfl, .inl ⟨_, rfl, _, _, rfl, rfl, (by show (0 : Int) < 2147483647; decide), ?_⟩⟩⟩
      exact ⟨_, _, rfl, ⟨Int.emod_nonneg _ (by decide), Int.emod_lt_of_pos _ (by decide)⟩, s2⟩
    · obtain ⟨z, v, rfl, hz, s2⟩ := pv
      refine ⟨_, rfl, _, rfl, _, _, rfl, rfl, ⟨by decide, by decide⟩, _, _, rfl, rfl, _, _, rfl, rfl, .inl ⟨by omega, by omega⟩, .inl ⟨_, rfl, _, _, rfl, rfl, (by show (0 : Int) < 2147483399; decide), ?_⟩⟩
      exact q _ _ (s1.trans s2)
end
end Lik
namespace Lik
open PySem PySem.Spec PyProof.Rows L2
/-! ### rows out of numbers -/
def bits (p x : Nat) : Row := (List.range p).map fun a => x.testBit (p - 1 - a)
theorem bits_len (p x : Nat) : (bits p x).length = p := by
  unfold bits
  rw [List.length_map, List.length_range]
theorem bits_inj {p x y : Nat} (hx : x < 2 ^ p) (hy : y < 2 ^ p) (h : bits p x = bits p y) : x = y := by
  refine Nat.eq_of_testBit_eq fun i => ?_
  by_cases hi : i < p
  · have e : (bits p x)[p - 1 - i]? = (bits p y)[p - 1 - i]? := by rw [h]
    unfold bits at e
    rw [List.getElem?_map, List.getElem?_map, List.getElem?_range (by omega)] at e
    have e2 : x.testBit (p - 1 - (p - 1 - i)) = y.testBit (p - 1 - (p - 1 - i)) := Option.some.inj e
    have e3 : p - 1 - (p - 1 - i) = i := by omega
    rw [e3] at e2
    exact e2
  · have h2 : 2 ^ p ≤ 2 ^ i := Nat.pow_le_pow_right (by decide) (by omega)
    rw [Nat.testBit_lt_two_pow (by omega), Nat.testBit_lt_two_pow (by omega)]
theorem shl1 (p : Nat) : (1 : Int) * 2 ^ ((p : Int)).toNat = ((2 ^ p : Nat) : Int) := by
  rw [Int.toNat_natCast, Int.one_mul]
  exact (Int.natCast_pow 2 p).symm
/-- one bit of a number, as the text reckons it -/
theorem bit_and (x k : Nat) {j : Int} (hj : j = (k : Nat)) : Builtin.bitAnd ((x : Int) / 2 ^ j.toNat) 1 = if x.testBit k = true then 1 else 0 := by
  subst hj
  rw [bitAnd_m1, Int.toNat_natCast]
  have e : (x : Int) / 2 ^ k % 2 = ((x / 2 ^ k % 2 : Nat) : Int) := by
    rw [Int.natCast_emod, Int.natCast_ediv, Int.natCast_pow]
    rfl
  rw [e, Nat.testBit_eq_decide_div_mod_eq]
  have := Nat.mod_two_eq_zero_or_one (x / 2 ^ k)
  rcases this with h | h <;> rw [h] <;> rfl
theorem sum_one : ∀ l : List Bool, ((l.map sgS).map (·.length)).sum = l.length
  | [] => rfl
  | b :: r => by
    rw [List.map_cons, List.map_cons, List.sum_cons, sum_one r, List.length_cons]
    have : (sgS b).length = 1 := rfl
    omega
theorem emptyS : (("" : String) : Str) = ⟨#[]⟩ := by decide +kernel
theorem join_sg : ∀ l : List Bool, Str.join ⟨#[]⟩ (l.map sgS) = encR l
  | [] => rfl
  | [b] => rfl
  | b :: c :: r => by
    have ih := join_sg (c :: r)
    show (sgS b ++ (⟨#[]⟩ : Str) ++ Str.join ⟨#[]⟩ ((c :: r).map sgS) : Str) = _
    rw [ih, show sgS b = ⟨[sgn b].toArray⟩ from rfl, show (⟨#[]⟩ : Str) = ⟨([] : List Nat).toArray⟩ from rfl, str_app]
    unfold encR
    rw [str_app]
    rfl
def spLRow : Sp := fun vs H Q _ => ∃ x p : Nat, vs = [.int (x : Nat), .int (p : Nat)] ∧ p ≤ 10 ∧ ∀ H', Same H H' → Q (.str (encR (bits p x))) H'
theorem sc32 : FnScope ["_law_number", "_law_places", "_law_at"] ["_law_number", "_law_places"] (defScope (top 32)) := ⟨rfl, rfl, rfl, by decide +kernel, rfl, by decide +kernel, by decide +kernel⟩
section
variable {P : Program} {w : World} {K : PySem.W.Frag} {mg : Str → Option Value} {base : Heap}
theorem c_lrow (T : Txt K mg) : CalL P w K mg base 1 "_law_row" spLRow := by
  refine mkCal T (j := 19) (i := 32) rfl rfl (fun _ _ _ _ _ _ us hl => match us, hl with | [_, _], _ => rfl) sc32 (fun vs H Q E h => ?_) (fun f cdv A outer s H vs Q E hr h => ?_)
  · obtain ⟨_, _, rfl, _⟩ := h
    rfl
  · obtain ⟨x, p, rfl, hp, q⟩ := h
    refine ⟨_, pss_one (ps_ret (pe_join pe_str (pe_lc (own := [("_law_at", 2)]) (g := gName 2) (tt := tYes) rfl sc32.nd (pi_range1 rfl T.rangeB (pa_cons (pv 1) pa_nil)) (blkOk_by (N := ["_law_number", "_law_places", "_law_at"]) (sc := defScope (top 32)) (by decide +kernel))
        (fun _ _ _ _ _ => pg_name (i := 2) sc32.nd rfl (Or.inl rfl)) (fun _ _ _ _ _ => pts_nil)
        (fun _ _ _ _ _ => pe_ix ix_str pe_str (pe_op op_and (pe_op op_shr (pv 0) (pe_op op_sub (pe_op op_sub (pv 1) pe_int) (pv 2))) pe_int) (fun _ _ => rfl))))), ?_⟩
    refine ⟨⟨_, rfl⟩, _, rfl, (p : Nat), rfl, by omega, by omega, fun D hD => lc_it (walk_range (lo := 0) (n := p)) (PvF H D (List.range p) fun a => [.str (sgS (x.testBit (p - 1 - a)))]) (PvF.zero hD) (fun _ _ _ _ => trivial) (fun i y H1 H2 hi pv yy => ?_) (fun H1 pv => ?_)⟩
    · obtain ⟨rfl, hx⟩ := yy
      have hx : y = .int (i : Nat) := hx.trans (congrArg V.int (Int.zero_add _))
      subst hx
      have hi2 : (List.range p)[i]? = some i := by rw [List.getElem?_range hi]
      refine ⟨rfl, _, rfl, _, rfl, _, _, rfl, rfl, _, rfl, _, _, rfl, rfl, _, _, rfl, rfl, by omega, _, _, rfl, rfl, _, _, sgn (x.testBit (p - 1 - i)), rfl, rfl, by decide, ?_, ?_⟩
      · rw [lit01, bit_and x (p - 1 - i) (by omega)]
        cases x.testBit (p - 1 - i) <;> rfl
      · exact pv.add hD (Same.refl _) (fun _ => Nat.le_refl 1) (by rw [List.length_range]; exact small10 (by omega)) hi2 rfl
    · have e := pv.done (List.length_range).symm
      rw [flat_map] at e
      refine ⟨_, D, (bits p x).map sgS, rfl, rfl, .inl (SqL.of ?_), ?_, ?_⟩
      · rw [e]
        unfold bits
        rw [List.map_map, List.map_map]
        rfl
      · rw [sum_one, List.length_map, bits_len]
        show p + p * 0 ≤ 16777216
        omega
      · have ej : Txt.join (("" : String) : Str) ((bits p x).map sgS) = encR (bits p x) := by
          rw [emptyS]
          exact (StrLaws.glued_eq_join _ _).trans (join_sg _)
        rw [ej]
        exact q H1 pv.1
end
end Lik
namespace Lik
open PySem PySem.Spec PyProof.Rows L2
/-! ### the law's rows -/
def numD (l : List Nat) : List (Key × V) := ND (fun _ => .bl true) l
def addN (l : List Nat) (k : Nat) : List Nat := if k ∈ l then l else l ++ [k]
theorem numD_put (l : List Nat) (k : Nat) : putK (numD l) (.inl (k : Nat)) (.bl true) = numD (addN l k) := by
  unfold addN numD
  by_cases h : k ∈ l
  · rw [if_pos h]
    have a : ((ND (fun _ => V.bl true) l).any fun kv => decide (kv.1 = (.inl (k : Nat) : Key))) = true := List.any_eq_true.mpr ⟨(.inl (k : Nat), .bl true), List.mem_map.mpr ⟨k, h, rfl⟩, decide_eq_true rfl⟩
    unfold putK
    rw [if_pos a]
    unfold ND
    rw [List.map_map]
    refine List.map_congr_left fun x _ => ?_
    show (if (.inl (x : Nat) : Key) = .inl (k : Nat) then ((.inl (x : Nat) : Key), V.bl true) else (.inl (x : Nat), .bl true)) = (.inl (x : Nat), .bl true)
    split <;> rfl
  · rw [if_neg h]
    exact ND_put (g := fun _ => V.bl true) h
structure NumsOk (m b : Nat) (l : List Nat) : Prop where
  ne : l ≠ []
  nd : l.Nodup
  lt : ∀ x ∈ l, x < m
  le : l.length ≤ b
theorem NumsOk.add {m b k : Nat} {l : List Nat} (h : NumsOk m b l) (hk : k < m) : NumsOk m (b + 1) (addN l k) := by
  unfold addN
  by_cases c : k ∈ l
  · rw [if_pos c]
    exact ⟨h.ne, h.nd, h.lt, Nat.le_succ_of_le h.le⟩
  · rw [if_neg c]
    refine ⟨fun e => ?_, nd_snoc h.nd c, fun x hx => ?_, ?_⟩
    · have := congrArg List.length e
      rw [List.length_append, List.length_singleton] at this
      cases this
    · rcases List.mem_append.mp hx with hx | hx
      · exact h.lt x hx
      · rw [List.mem_singleton.mp hx]
        exact hk
    · rw [List.length_append, List.length_singleton]
      have := h.le
      omega
theorem NumsOk.mono {m b c : Nat} {l : List Nat} (h : NumsOk m b l) (hc : b ≤ c) : NumsOk m c l := ⟨h.ne, h.nd, h.lt, Nat.le_trans h.le hc⟩
theorem rows_of_nums {p b : Nat} {l : List Nat} (h : NumsOk (2 ^ p) b l) (hb : b ≤ 10) (h1 : 1 ≤ p) (h2 : p ≤ 10) : RowsOk p (l.map (bits p)) ∧ (l.map (bits p)).Nodup := by
  refine ⟨⟨fun e => h.ne (List.map_eq_nil_iff.mp e), fun r hr => ?_, h1, h2, by rw [List.length_map]; exact Nat.le_trans h.le hb⟩, ?_⟩
  · obtain ⟨x, _, rfl⟩ := List.mem_map.mp hr
    exact bits_len p x
  · have : ∀ l : List Nat, l.Nodup → (∀ x ∈ l, x < 2 ^ p) → (l.map (bits p)).Nodup := fun l => by
      induction l with
      | nil => intro _ _; exact List.nodup_nil
      | cons a t ih =>
        intro hn hl
        obtain ⟨n1, n2⟩ := List.nodup_cons.mp hn
        rw [List.map_cons]
        refine List.nodup_cons.mpr ⟨fun m => ?_, ih n2 fun x hx => hl x (List.mem_cons_of_mem _ hx)⟩
        obtain ⟨y, hy, e⟩ := List.mem_map.mp m
        rw [bits_inj (hl y (List.mem_cons_of_mem _ hy)) (hl a List.mem_cons_self) e] at hy
        exact n1 hy
    exact this l h.nd h.lt
theorem some_bit {x m : Nat} (h0 : x ≠ 0) (h : x < 2 ^ m) : ∃ k, k < m ∧ x.testBit k = true := by
  obtain ⟨k, hk⟩ := Nat.exists_testBit_of_ne_zero h0
  refine ⟨k, ?_, hk⟩
  have h2 := Nat.ge_two_pow_of_testBit hk
  exact (Nat.pow_lt_pow_iff_right (a := 2) (by decide)).mp (Nat.lt_of_le_of_lt h2 h)
theorem dec_bit (x i : Nat) : V.bl (decide (V.int (Builtin.bitAnd ((x : Int) / 2 ^ ((i : Int)).toNat) 1) = V.int 1)) = V.bl (x.testBit i) := by
  rw [bit_and x i rfl]
  cases x.testBit i <;> rfl
def spLRows : Sp := fun vs H Q _ => ∃ (d : Addr) (b : Bool), vs = [.ref d, .bl b] ∧ DeckAt H d ∧
  ∀ (H' : Hp) (a : Addr) (R : List Row) (n : Nat), But d H H' → DeckAt H' d → H' a = some (.lst (rowsV R)) → RowsOk n R → R.Nodup → Q (.ref a) H'
theorem sc33 : FnScope ["_law_deck_here", "_law_is_large", "_law_places", "_law_mask", "_law_number", "_law_size", "_law_known", "_law_turn", "_law_step"] ["_law_deck_here", "_law_is_large"] (defScope (top 33)) := ⟨rfl, rfl, rfl, by decide +kernel, rfl, by decide +kernel, by decide +kernel⟩
theorem keys_numD (l : List Nat) : ((numD l).map fun kv => kV kv.1) = (l.map fun x => ((x : Nat) : Int)).map V.int := by
  unfold numD ND
  rw [List.map_map, List.map_map]
  rfl
/-- a name's value, said otherwise -/
theorem gn {i : Nat} {v v' : V} {σ : L2.St} {H : Hp} {Q : L2.St → Hp → Prop} (e : v = v') (h : Q (σ.set i (some v')) H) : gName i v σ H Q := by
  subst e
  exact h
theorem But.deck {d : Addr} {H H' : Hp} (s : Same H H') : But d H H' := But.of s
section
variable {P : Program} {w : World} {K : PySem.W.Frag} {mg : Str → Option Value} {base : Heap}
theorem c_lrows (T : Txt K mg) : CalL P w K mg base 2 "_law_rows" spLRows := by
  have cP : CalL P w K mg base 1 "_law_pick" spPick := c_pick T
  have cR : CalL P w K mg base 1 "_law_row" spLRow := c_lrow T
  refine mkCal T (j := 20) (i := 33) rfl rfl (fun _ _ _ _ _ _ us hl => match us, hl with | [_, _], _ => rfl) sc33 (fun vs H Q E h => ?_) (fun f cdv A outer s H vs Q E hr h => ?_)
  · obtain ⟨_, _, rfl, _⟩ := h
    rfl
  · obtain ⟨d, big, rfl, hD, q⟩ := h
    have hu := hu_of hr
    refine ⟨_, pss_cons (ps_if (pt_cmpR op_eq (pe_f cP hr (by decide) rfl (pa_cons (pv 0) (pa_cons pe_int pa_nil))) pe_int (nomark _))
        (pss_cons (ps_set (i := 2) sc33.nd rfl (Or.inr rfl) (pe_op op_add pe_int (pe_f cP hr (by decide) rfl (pa_cons (pv 0) (pa_cons pe_int pa_nil)))))
        (pss_cons (ps_set (i := 3) sc33.nd rfl (Or.inr rfl) (pe_op op_add pe_int (pe_f cP hr (by decide) rfl (pa_cons (pv 0) (pa_cons (pe_op op_sub (pe_op op_shl pe_int (pe_op op_shl pe_int (pv 2))) pe_int) pa_nil)))))
        (pss_one (ps_ret (pe_lc (own := [("_law_number", 4)]) (g := gName 4) rfl sc33.nd (pi_range1 rfl T.rangeB (pa_cons (pe_op op_shl pe_int (pv 2)) pa_nil)) (blkOk_by (N := ["_law_deck_here", "_law_is_large", "_law_places", "_law_mask", "_law_number", "_law_size", "_law_known", "_law_turn", "_law_step"]) (sc := defScope (top 33)) (by decide +kernel))
          (fun _ _ _ _ _ => pg_name (i := 4) sc33.nd rfl (Or.inl rfl)) (fun _ _ _ _ _ => pts_one (pt_cmpR op_eq (pe_op op_and (pe_op op_shr (pv 3) (pv 4)) pe_int) pe_int (nomark _))) (fun _ _ _ _ _ => pe_f cR hr (by decide) rfl (pa_cons (pv 4) (pa_cons (pv 2) pa_nil)))))))) pss_nil)
      (pss_cons (ps_set (i := 2) sc33.nd rfl (Or.inr rfl) (pe_op op_add (pe_op op_add pe_int (pe_f cP hr (by decide) rfl (pa_cons (pv 0) (pa_cons pe_int pa_nil)))) (pe_callTy call_int1 rfl T.intB bt_int (pa_cons (pv 1) pa_nil))))
      (pss_cons (ps_set (i := 5) sc33.nd rfl (Or.inl rfl) (pe_op op_shl pe_int (pv 2)))
      (pss_cons (ps_set (i := 6) sc33.nd rfl (Or.inl rfl) (pe_disp (pps_cons (pe_f cP hr (by decide) rfl (pa_cons (pv 0) (pa_cons (pv 5) pa_nil))) pe_bl pps_nil) (by rfl) (by rfl) (fun z => by cases z) (by decide)))
      (C8.pss_cut (ps_if (pt_cmpR op_eq (pe_f cP hr (by decide) rfl (pa_cons (pv 0) (pa_cons pe_int pa_nil))) pe_int (nomark _))
        (pss_cons (ps_for PassesOwn.never rfl (pi_range1 rfl T.rangeB (pa_cons (pe_f cP hr (by decide) rfl (pa_cons (pv 0) (pa_cons pe_int pa_nil))) pa_nil)) (pg_name (i := 7) sc33.nd rfl (Or.inl rfl))
          (pss_cons (ps_set (i := 8) sc33.nd rfl (Or.inl rfl) (pe_f cP hr (by decide) rfl (pa_cons (pv 0) (pa_cons (pv 5) pa_nil))))
          (pss_one (ps_for PassesOwn.never rfl (pi_listK K (pe_callTy (call_list_dK rfl) rfl T.listB bt_list (pa_cons (pv 6) pa_nil))) (pg_name (i := 4) sc33.nd rfl (Or.inl rfl))
            (pss_one (ps_dput hu (pv 6) (pe_op op_xor (pv 4) (pv 8)) pe_bl rfl))))))
        (pss_one (ps_dput hu (pv 6) (pe_f cP hr (by decide) rfl (pa_cons (pv 0) (pa_cons (pv 5) pa_nil))) pe_bl rfl)))
        (pss_one (ps_for PassesOwn.never rfl (pi_range1 rfl T.rangeB (pa_cons (pe_f cP hr (by decide) rfl (pa_cons (pv 0) (pa_cons pe_int pa_nil))) pa_nil)) (pg_name (i := 7) sc33.nd rfl (Or.inl rfl))
          (pss_one (ps_dput hu (pv 6) (pe_f cP hr (by decide) rfl (pa_cons (pv 0) (pa_cons (pv 5) pa_nil))) pe_bl rfl)))))
      (pss_one (ps_ret (pe_lc (own := [("_law_number", 4)]) (g := gName 4) (tt := tYes) rfl sc33.nd (pi_listK K (pe_callB cr_sorted rfl T.sortedB bt_sorted (pa_cons (pe_callTy (call_list_dK rfl) rfl T.listB bt_list (pa_cons (pv 6) pa_nil)) pa_nil))) (blkOk_by (N := ["_law_deck_here", "_law_is_large", "_law_places", "_law_mask", "_law_number", "_law_size", "_law_known", "_law_turn", "_law_step"]) (sc := defScope (top 33)) (by decide +kernel))
          (fun _ _ _ _ _ => pg_name (i := 4) sc33.nd rfl (Or.inl rfl)) (fun _ _ _ _ _ => pts_nil) (fun _ _ _ _ _ => pe_f cR hr (by decide) rfl (pa_cons (pv 4) (pa_cons (pv 2) pa_nil)))))))))), ?_⟩
    refine ⟨_, rfl, d, 3, rfl, hD, by decide, by decide, fun H1 r1 h10 h11 b1 D1 => ⟨rfl, _, rfl, ite2 (fun _ => ?_) (fun _ => ?_)⟩⟩
    · -- up to three places: every subset
      refine ⟨_, rfl, d, 3, rfl, D1, by decide, by decide, fun H2 r2 h20 h21 b2 D2 => ⟨_, _, rfl, rfl, ?_⟩⟩
      obtain ⟨p, hp, hp1, hp2⟩ : ∃ p : Nat, (1 : Int) + r2 = (p : Nat) ∧ 1 ≤ p ∧ p ≤ 3 := ⟨(1 + r2).toNat, by omega, by omega, by omega⟩
      refine gn (v' := .int (p : Nat)) (congrArg V.int hp) ?_
      have hw : 2 ^ (2 ^ p) ≤ 2 ^ (2 ^ 3) := Nat.pow_le_pow_right (by decide) (Nat.pow_le_pow_right (by decide) hp2)
      have hw3 : 2 ^ p ≤ 2 ^ 3 := Nat.pow_le_pow_right (by decide) hp2
      have hw1 : 2 ^ 1 ≤ 2 ^ p := Nat.pow_le_pow_right (by decide) hp1
      have hw2 : 2 ^ (2 ^ 1) ≤ 2 ^ (2 ^ p) := Nat.pow_le_pow_right (by decide) hw1
      have e8 : (2 : Nat) ^ (2 ^ 3) = 256 := by decide
      have e4 : (2 : Nat) ^ (2 ^ 1) = 4 := by decide
      refine ⟨_, rfl, _, rfl, _, _, rfl, rfl, ⟨by omega, by omega, by decide⟩, _, ((2 ^ p : Nat) : Int), rfl, congrArg V.int (shl1 p), ⟨by omega, by omega, by decide⟩, ((2 ^ (2 ^ p) : Nat) : Int), _, congrArg V.int (shl1 (2 ^ p)), rfl, d, ((2 ^ (2 ^ p) : Nat) : Int) - 1, rfl, D2, by omega, by omega, fun H3 r3 h30 h31 b3 D3 => ⟨_, _, rfl, rfl, ?_⟩⟩
      obtain ⟨mask, hm, hm0, hm1⟩ : ∃ mask : Nat, (1 : Int) + r3 = (mask : Nat) ∧ mask ≠ 0 ∧ mask < 2 ^ (2 ^ p) := ⟨(1 + r3).toNat, by omega, by omega, by omega⟩
      refine gn (v' := .int (mask : Nat)) (congrArg V.int hm) ?_
      refine ⟨_, rfl, _, _, rfl, rfl, ⟨by omega, by omega, by decide⟩, ((2 ^ p : Nat) : Int), congrArg (fun z => [V.int z]) (shl1 p), by omega, by omega, fun Dn hDn => lc_it (walk_range (lo := 0) (n := 2 ^ p)) (PvF H3 Dn (List.range (2 ^ p)) fun x => if mask.testBit x = true then [.str (encR (bits p x))] else []) (PvF.zero hDn) (fun _ _ _ _ => trivial) (fun i y H4 H5 hi pv yy => ?_) (fun H4 pv => ?_)⟩
      · obtain ⟨rfl, hx⟩ := yy
        have hx : y = .int (i : Nat) := hx.trans (congrArg V.int (Int.zero_add _))
        subst hx
        have hi2 : (List.range (2 ^ p))[i]? = some i := by rw [List.getElem?_range hi]
        have hF : ∀ a : Nat, (if mask.testBit a = true then [V.str (encR (bits p a))] else []).length ≤ 1 := fun a => by split <;> simp
        have hsz : (List.range (2 ^ p)).length ≤ sizeLine := by rw [List.length_range]; exact small10 (by omega)
        refine ⟨rfl, _, rfl, _, rfl, _, _, rfl, rfl, by omega, _, _, rfl, rfl, rfl, mask.testBit i, dec_bit mask i, ite2 (fun hb => ?_) (fun hb => ?_)⟩
        · refine ⟨_, rfl, _, rfl, i, p, rfl, by omega, fun H6 s6 => ?_⟩
          exact pv.add hDn s6 hF hsz hi2 (by rw [if_pos hb])
        · exact pv.skip (Same.refl _) hi2 (by rw [if_neg hb])
      · have e := pv.done (List.length_range).symm
        have eR : (List.range (2 ^ p)).flatMap (fun x => if mask.testBit x = true then [V.str (encR (bits p x))] else []) = rowsV (((List.range (2 ^ p)).filter fun x => mask.testBit x).map (bits p)) := by
          rw [flat_if (fun x => mask.testBit x) (fun x => V.str (encR (bits p x)))]
          unfold rowsV
          rw [List.map_map]
          rfl
        rw [eR] at e
        obtain ⟨k, hk, hkb⟩ := some_bit hm0 hm1
        have ok : NumsOk (2 ^ p) 8 ((List.range (2 ^ p)).filter fun x => mask.testBit x) := ⟨List.ne_nil_of_mem (List.mem_filter.mpr ⟨List.mem_range.mpr hk, hkb⟩), List.Pairwise.filter _ List.nodup_range, fun x hx => List.mem_range.mp (List.mem_filter.mp hx).1, by have := List.length_filter_le (fun x => mask.testBit x) (List.range (2 ^ p)); rw [List.length_range] at this; omega⟩
        obtain ⟨o1, o2⟩ := rows_of_nums ok (by decide) hp1 (by omega)
        exact q H4 Dn _ p (b1.trans (b2.trans (b3.trans (But.of pv.1)))) (D3.same pv.1) e o1 o2
    · -- drawn rows
      refine ⟨_, rfl, d, 2, rfl, D1, by decide, by decide, fun H2 r2 h20 h21 b2 D2 => ⟨_, _, rfl, rfl, _, rfl, .inr ⟨big, rfl, _, _, rfl, rfl, ?_⟩⟩⟩
      obtain ⟨p, hp, hp1, hp2⟩ : ∃ p : Nat, (4 : Int) + r2 + (if big = true then 1 else 0) = (p : Nat) ∧ 4 ≤ p ∧ p ≤ 6 := ⟨(4 + r2 + (if big = true then 1 else 0)).toNat, by split <;> omega, by split <;> omega, by split <;> omega⟩
      refine gn (v' := .int (p : Nat)) (congrArg V.int hp) ?_
      have hw : 2 ^ p ≤ 2 ^ 6 := Nat.pow_le_pow_right (by decide) hp2
      have hw0 : 0 < 2 ^ p := Nat.pow_pos (by decide)
      refine ⟨_, rfl, _, _, rfl, rfl, ⟨by omega, by omega, by decide⟩, ?_⟩
      refine gn (v' := .int ((2 ^ p : Nat) : Int)) (congrArg V.int (shl1 p)) ?_
      intro kd hkd
      have nkd : kd ≠ d := fun e => by
        obtain ⟨_, _, _, _, _, _, h, _⟩ := D2
        rw [e, h] at hkd
        cases hkd
      have sk := same_new hkd (.dK [])
      refine ⟨_, rfl, _, rfl, d, _, rfl, D2.same sk, by omega, by omega, fun H3 r3 h30 h31 b3 D3 => ⟨b3 _ _ nkd upd_same, [(.inl r3, .bl true)], rfl, by show 1 ≤ 15; decide, ?_⟩⟩
      obtain ⟨k3, rfl⟩ := Int.eq_ofNat_of_zero_le h30
      rw [show mergeK [] [((.inl (k3 : Nat) : Key), V.bl true)] = numD [k3] from rfl]
      have n0 : NumsOk (2 ^ p) 1 [k3] := ⟨List.cons_ne_nil _ _, List.nodup_cons.mpr ⟨List.not_mem_nil, List.nodup_nil⟩, fun x hx => by rw [List.mem_singleton.mp hx]; omega, Nat.le_refl _⟩
      -- all that stood, but the deck and the numbers' dict
      have dk : ∀ H' o, DeckAt H' d → DeckAt (upd H' kd o) d ∨ True := fun _ _ _ => .inr trivial
      have deckU : ∀ (H' : Hp) (o : HO) (u : List (Key × V)), H' kd = some (.dK u) → DeckAt H' d → DeckAt (upd H' kd o) d := fun H' o u hk h => by
        obtain ⟨c, cs, i, j, k, n, h1, h2⟩ := h
        exact ⟨c, cs, i, j, k, n, by rw [upd_ne nkd.symm]; exact h1, by rw [upd_ne (ne_of h2 hk (by intro z; cases z))]; exact h2⟩
      have e3 : H3 kd = some (.dK []) := b3 _ _ nkd upd_same
      have W3 : ∀ b o, b ≠ d → H2 b = some o → upd H3 kd (.dK (numD [k3])) b = some o := fun b o n h => by
        have nb : b ≠ kd := ne_of_none h hkd
        rw [upd_ne nb]
        exact b3 _ _ n (sk _ _ h)
      have D3' := deckU H3 (.dK (numD [k3])) _ e3 D3
      generalize hHs : upd H3 kd (.dK (numD [k3])) = Hs at W3 D3'
      have es : Hs kd = some (.dK (numD [k3])) := by rw [← hHs, upd_same]
      -- the state while the numbers are drawn
      have put : ∀ (H' : Hp) (l : List Nat) (b k : Nat), (∀ b o, b ≠ d → H2 b = some o → H' b = some o) → DeckAt H' d → H' kd = some (.dK (numD l)) → NumsOk (2 ^ p) b l → k < 2 ^ p → b ≤ 1000 →
          DPut H' kd (.int (k : Nat)) (.bl true) (upd H' kd (.dK (numD (addN l k)))) ∧ (∀ b o, b ≠ d → H2 b = some o → upd H' kd (.dK (numD (addN l k))) b = some o) ∧ DeckAt (upd H' kd (.dK (numD (addN l k)))) d ∧ NumsOk (2 ^ p) (b + 1) (addN l k) := fun H' l b k hW hDk hk hl hkm hb => by
        refine ⟨?_, fun c o n h => ?_, deckU _ _ _ hk hDk, hl.add hkm⟩
        · rw [← numD_put]
          exact DPut.k (k := .inl (k : Nat)) hk (by unfold numD; rw [ND_len]; exact small1000 (Nat.le_trans hl.le hb))
        · rw [upd_ne (ne_of_none h hkd)]
          exact hW _ _ n h
      refine ⟨fun σ' H' => ∃ (l : List Nat) (v4 v7 v8 : Option V), σ' = [some (.ref d), some (.bl big), some (.int (p : Nat)), none, v4, some (.int ((2 ^ p : Nat) : Int)), some (.ref kd), v7, v8] ∧ (∀ b o, b ≠ d → H2 b = some o → H' b = some o) ∧ DeckAt H' d ∧ H' kd = some (.dK (numD l)) ∧ NumsOk (2 ^ p) 10 l, ?_, ?_⟩
      · refine ⟨_, rfl, d, 2, rfl, D3', by decide, by decide, fun H4 r4 h40 h41 b4 D4 => ⟨rfl, _, rfl, ite2 (fun _ => ?_) (fun _ => ?_)⟩⟩
        · -- an even lot and one more
          refine ⟨_, rfl, d, 4, rfl, D4, by decide, by decide, fun H5 r5 h50 h51 b5 D5 => ⟨r5, rfl, by omega, by omega, ?_⟩⟩
          obtain ⟨k5, rfl⟩ := Int.eq_ofNat_of_zero_le h50
          have W5 : ∀ b o, b ≠ d → H2 b = some o → H5 b = some o := fun b o n h => b5 _ _ n (b4 _ _ n (W3 _ _ n h))
          have e5 : H5 kd = some (.dK (numD [k3])) := b5 _ _ nkd (b4 _ _ nkd es)
          refine for_it (walk_range (lo := 0) (n := k5)) (fun i σ H6 => ∃ (l : List Nat) (v4 v7 v8 : Option V), σ = [some (.ref d), some (.bl big), some (.int (p : Nat)), none, v4, some (.int ((2 ^ p : Nat) : Int)), some (.ref kd), v7, v8] ∧ (∀ b o, b ≠ d → H2 b = some o → H6 b = some o) ∧ DeckAt H6 d ∧ H6 kd = some (.dK (numD l)) ∧ NumsOk (2 ^ p) (2 ^ i) l)
            ⟨[k3], none, none, none, rfl, W5, D5, e5, n0⟩ (fun _ _ _ _ _ => trivial) (fun i x σ H6 H7 hi pv yy => ?_) (fun σ H6 pv => ?_)
          · obtain ⟨rfl, hx⟩ := yy
            obtain ⟨l, v4, v7, v8, rfl, W6, D6, e6, ok6⟩ := pv
            refine ⟨_, rfl, _, rfl, d, _, rfl, D6, by omega, by omega, fun H8 r8 h80 h81 b8 D8 => ?_⟩
            obtain ⟨st, rfl⟩ := Int.eq_ofNat_of_zero_le h80
            have W8 : ∀ b o, b ≠ d → H2 b = some o → H8 b = some o := fun b o n h => b8 _ _ n (W6 _ _ n h)
            have e8 := b8 _ _ nkd e6
            refine ⟨_, rfl, kd, _, rfl, e8, fun lq hlq => ?_⟩
            rw [keys_numD]
            have sl := same_new hlq (.lst ((l.map fun x => ((x : Nat) : Int)).map V.int))
            have nlk : lq ≠ kd := fun e => by rw [e, e8] at hlq; cases hlq
            have nld : lq ≠ d := fun e => by
              obtain ⟨_, _, _, _, _, _, h, _⟩ := D8
              rw [e, h] at hlq
              cases hlq
            have hi3 : 2 ^ i ≤ 2 ^ 3 := Nat.pow_le_pow_right (by decide) (by omega)
            refine ⟨lq, rfl, ⟨_, SqL.of upd_same⟩, for_it walk_list (fun j σ H9 => ∃ (l9 : List Nat) (v4 : Option V), σ = [some (.ref d), some (.bl big), some (.int (p : Nat)), none, v4, some (.int ((2 ^ p : Nat) : Int)), some (.ref kd), some x, some (.int (st : Nat))] ∧ (∀ b o, b ≠ d → H2 b = some o → H9 b = some o) ∧ DeckAt H9 d ∧ H9 kd = some (.dK (numD l9)) ∧ H9 lq = some (.lst ((l.map fun x => ((x : Nat) : Int)).map V.int)) ∧ NumsOk (2 ^ p) (2 ^ i + j) l9)
              ⟨l, _, rfl, fun b o n h => sl _ _ (W8 _ _ n h), D8.same sl, sl _ _ e8, upd_same, ok6⟩ (fun j σ H9 _ ⟨_, _, _, _, _, _, h, _⟩ => SqL.of h) (fun j x' σ H9 H10 hj pv yy => ?_) (fun σ H9 pv => ?_)⟩
            · obtain ⟨rfl, hx'⟩ := yy
              obtain ⟨z, hz, rfl⟩ := int_get hx'
              rw [List.getElem?_map] at hz
              obtain ⟨l9, w4, rfl, W9, D9, e9, g9, ok9⟩ := pv
              have hj2 : j < l.length := by
                rw [List.length_map, List.length_map] at hj
                exact hj
              rw [List.getElem?_eq_getElem hj2] at hz
              have hz := Option.some.inj hz
              subst hz
              have hxl : l[j] < 2 ^ p := ok6.lt _ (List.getElem_mem hj2)
              have hle := ok6.le
              have hst : st < 2 ^ p := by omega
              obtain ⟨g1, g2, g3, g4⟩ := put H10 l9 (2 ^ i + j) (l[j] ^^^ st) W9 D9 e9 ok9 (Nat.xor_lt_two_pow hxl hst) (by omega)
              refine ⟨_, rfl, _, rfl, _, rfl, _, _, rfl, rfl, kd, _, rfl, ?_, addN l9 (l[j] ^^^ st), _, rfl, g2, g3, upd_same, by rw [upd_ne nlk]; exact g9, g4⟩
              have ex : Builtin.bitXor ((l[j] : Nat) : Int) (st : Nat) = ((l[j] ^^^ st : Nat) : Int) := by rw [Bits.bitXor_pp (Int.natCast_nonneg _) (Int.natCast_nonneg _), Int.toNat_natCast, Int.toNat_natCast]
              show DPut H10 kd (.int (Builtin.bitXor ((l[j] : Nat) : Int) (st : Nat))) (.bl true) _
              rw [ex]
              exact g1
            · obtain ⟨l9, w4, rfl, W9, D9, e9, g9, ok9⟩ := pv
              rw [List.length_map, List.length_map] at ok9
              refine ⟨l9, _, _, _, rfl, W9, D9, e9, ok9.mono ?_⟩
              have := ok6.le
              rw [Nat.pow_succ]
              omega
          · obtain ⟨l, v4, v7, v8, rfl, W6, D6, e6, ok6⟩ := pv
            have hi3 : 2 ^ k5 ≤ 2 ^ 3 := Nat.pow_le_pow_right (by decide) (by omega)
            refine ⟨_, rfl, _, rfl, _, rfl, d, _, rfl, D6, by omega, by omega, fun H8 r8 h80 h81 b8 D8 => ?_⟩
            obtain ⟨k8, rfl⟩ := Int.eq_ofNat_of_zero_le h80
            obtain ⟨g1, g2, g3, g4⟩ := put H8 l (2 ^ k5) k8 (fun b o n h => b8 _ _ n (W6 _ _ n h)) D8 (b8 _ _ nkd e6) ok6 (by omega) (by omega)
            exact ⟨kd, _, rfl, g1, addN l k8, _, _, _, rfl, g2, g3, upd_same, g4.mono (by omega)⟩
        · -- up to ten rows
          refine ⟨_, rfl, d, 10, rfl, D4, by decide, by decide, fun H5 r5 h50 h51 b5 D5 => ⟨r5, rfl, by omega, by omega, ?_⟩⟩
          obtain ⟨k5, rfl⟩ := Int.eq_ofNat_of_zero_le h50
          have W5 : ∀ b o, b ≠ d → H2 b = some o → H5 b = some o := fun b o n h => b5 _ _ n (b4 _ _ n (W3 _ _ n h))
          have e5 : H5 kd = some (.dK (numD [k3])) := b5 _ _ nkd (b4 _ _ nkd es)
          refine for_it (walk_range (lo := 0) (n := k5)) (fun i σ H6 => ∃ (l : List Nat) (v4 v7 v8 : Option V), σ = [some (.ref d), some (.bl big), some (.int (p : Nat)), none, v4, some (.int ((2 ^ p : Nat) : Int)), some (.ref kd), v7, v8] ∧ (∀ b o, b ≠ d → H2 b = some o → H6 b = some o) ∧ DeckAt H6 d ∧ H6 kd = some (.dK (numD l)) ∧ NumsOk (2 ^ p) (1 + i) l)
            ⟨[k3], none, none, none, rfl, W5, D5, e5, n0⟩ (fun _ _ _ _ _ => trivial) (fun i x σ H6 H7 hi pv yy => ?_) (fun σ H6 pv => ?_)
          · obtain ⟨rfl, hx⟩ := yy
            obtain ⟨l, v4, v7, v8, rfl, W6, D6, e6, ok6⟩ := pv
            refine ⟨_, rfl, _, rfl, _, rfl, d, _, rfl, D6, by omega, by omega, fun H8 r8 h80 h81 b8 D8 => ?_⟩
            obtain ⟨k8, rfl⟩ := Int.eq_ofNat_of_zero_le h80
            obtain ⟨g1, g2, g3, g4⟩ := put H8 l (1 + i) k8 (fun b o n h => b8 _ _ n (W6 _ _ n h)) D8 (b8 _ _ nkd e6) ok6 (by omega) (by omega)
            exact ⟨kd, _, rfl, g1, addN l k8, _, _, _, rfl, g2, g3, upd_same, g4⟩
          · obtain ⟨l, v4, v7, v8, rfl, W6, D6, e6, ok6⟩ := pv
            exact ⟨l, _, _, _, rfl, W6, D6, e6, ok6.mono (by omega)⟩
      · rintro σ' H4 ⟨l, v4, v7, v8, rfl, W4, D4, e4, ok4⟩
        have hl10 := ok4.le
        refine ⟨_, rfl, kd, _, rfl, e4, fun lq hlq => ?_⟩
        rw [keys_numD]
        have sl := same_new hlq (.lst ((l.map fun x => ((x : Nat) : Int)).map V.int))
        refine ⟨lq, _, rfl, SqL.of upd_same, by rw [List.length_map]; omega, fun ns' sp hperm _ hsp => ?_⟩
        have s2 := sl.trans (same_new hsp (.lst (ns'.map V.int)))
        -- the sorted numbers
        obtain ⟨l', hl', rfl⟩ : ∃ l' : List Nat, l'.Perm l ∧ ns' = l'.map fun x => ((x : Nat) : Int) := by
          refine ⟨ns'.map Int.toNat, ?_, ?_⟩
          · have h2 := hperm.map Int.toNat
            rw [List.map_map] at h2
            have e : l.map (Int.toNat ∘ fun x => ((x : Nat) : Int)) = l := by
              have : (Int.toNat ∘ fun x => ((x : Nat) : Int)) = id := by
                funext x
                exact Int.toNat_natCast x
              rw [this, List.map_id]
            rw [e] at h2
            exact h2
          · rw [List.map_map]
            have : ∀ l1 : List Int, (∀ y ∈ l1, 0 ≤ y) → l1 = l1.map ((fun x => ((x : Nat) : Int)) ∘ Int.toNat) := fun l1 => by
              induction l1 with
              | nil => intro _; rfl
              | cons y t ih =>
                intro h
                rw [List.map_cons, ← ih fun z hz => h z (List.mem_cons_of_mem _ hz)]
                have h0 := h y List.mem_cons_self
                refine congrArg (· :: t) ?_
                show y = ((y.toNat : Nat) : Int)
                omega
            refine this ns' fun y hy => ?_
            obtain ⟨x, _, e⟩ := List.mem_map.mp (hperm.mem_iff.mp hy)
            omega
        have ok' : NumsOk (2 ^ p) 10 l' := ⟨fun e => ok4.ne (by have h2 := hl'.length_eq; rw [e] at h2; exact List.length_eq_zero_iff.mp h2.symm), hl'.nodup_iff.mpr ok4.nd, fun x hx => ok4.lt x (hl'.mem_iff.mp hx), by rw [hl'.length_eq]; exact ok4.le⟩
        refine ⟨sp, rfl, ⟨_, SqL.of upd_same⟩, fun Dn hDn => lc_it walk_list (PvF (upd (upd H4 lq (.lst ((l.map fun x => ((x : Nat) : Int)).map V.int))) sp (.lst ((l'.map fun x => ((x : Nat) : Int)).map V.int))) Dn l' fun x => [.str (encR (bits p x))]) (PvF.zero hDn) (fun j H5 _ pv => SqL.of (pv.1 _ _ upd_same)) (fun j x' H5 H6 hj pv yy => ?_) (fun H5 pv => ?_)⟩
        · obtain ⟨rfl, hx'⟩ := yy
          obtain ⟨z, hz, rfl⟩ := int_get hx'
          rw [List.getElem?_map] at hz
          have hj2 : j < l'.length := by
            rw [List.length_map, List.length_map] at hj
            exact hj
          rw [List.getElem?_eq_getElem hj2] at hz
          have hz := Option.some.inj hz
          subst hz
          refine ⟨rfl, _, rfl, _, rfl, l'[j], p, rfl, by omega, fun H7 s7 => ?_⟩
          exact pv.add hDn s7 (fun _ => Nat.le_refl 1) (small10 (by have := ok'.le; omega)) (List.getElem?_eq_getElem hj2) rfl
        · have e := pv.done (by rw [List.length_map, List.length_map])
          have eR : l'.flatMap (fun x => [V.str (encR (bits p x))]) = rowsV (l'.map (bits p)) := by
            rw [flat_map]
            unfold rowsV
            rw [List.map_map]
            rfl
          rw [eR] at e
          obtain ⟨o1, o2⟩ := rows_of_nums ok' (by decide) (by omega) (by omega)
          have sA := s2.trans pv.1
          exact q H5 Dn _ p (b1.trans (b2.trans fun b o n h => sA _ _ (W4 _ _ n h))) (D4.same sA) e o1 o2
end
end Lik
namespace Lik
open PySem PySem.Spec PyProof.Rows L2
/-! ### a few long rows -/
def rowD (l : List Row) : List (Key × V) := l.map fun r => (.inr (encR r), .bl true)
def addR (l : List Row) (r : Row) : List Row := if r ∈ l then l else l ++ [r]
theorem rowD_put (l : List Row) (r : Row) : putK (rowD l) (.inr (encR r)) (.bl true) = rowD (addR l r) := by
  unfold addR
  by_cases h : r ∈ l
  · rw [if_pos h]
    have a : ((rowD l).any fun kv => decide (kv.1 = (.inr (encR r) : Key))) = true := List.any_eq_true.mpr ⟨(.inr (encR r), .bl true), List.mem_map.mpr ⟨r, h, rfl⟩, decide_eq_true rfl⟩
    unfold putK
    rw [if_pos a]
    unfold rowD
    rw [List.map_map]
    refine List.map_congr_left fun x _ => ?_
    show (if (.inr (encR x) : Key) = .inr (encR r) then ((.inr (encR x) : Key), V.bl true) else (.inr (encR x), .bl true)) = (.inr (encR x), .bl true)
    split <;> rfl
  · rw [if_neg h]
    have hn : valV (rowD l) (.inr (encR r)) = none := valV_out fun m => by
      unfold rowD at m
      rw [List.map_map] at m
      obtain ⟨y, hy, e⟩ := List.mem_map.mp m
      rw [encR_inj (Sum.inr.inj e)] at hy
      exact h hy
    rw [putK_new _ hn]
    unfold rowD
    rw [List.map_append]
    rfl
structure FewOk (p b : Nat) (l : List Row) : Prop where
  nd : l.Nodup
  wd : Wide p l
  le : l.length ≤ b
  ne : b = 0 ∨ l ≠ []
theorem FewOk.add {p b : Nat} {l : List Row} {r : Row} (h : FewOk p b l) (hr : r.length = p) : FewOk p (b + 1) (addR l r) := by
  unfold addR
  by_cases c : r ∈ l
  · rw [if_pos c]
    exact ⟨h.nd, h.wd, Nat.le_succ_of_le h.le, .inr (List.ne_nil_of_mem c)⟩
  · rw [if_neg c]
    refine ⟨nd_snoc h.nd c, fun x hx => ?_, ?_, .inr fun e => ?_⟩
    · rcases List.mem_append.mp hx with hx | hx
      · exact h.wd x hx
      · rw [List.mem_singleton.mp hx]
        exact hr
    · rw [List.length_append, List.length_singleton]
      have := h.le
      omega
    · have := congrArg List.length e
      rw [List.length_append, List.length_singleton] at this
      cases this
theorem keys_rowD (l : List Row) : ((rowD l).map fun kv => kV kv.1) = (l.map encR).map V.str := by
  unfold rowD
  rw [List.map_map, List.map_map]
  rfl
def spFew : Sp := fun vs H Q _ => ∃ (d : Addr), vs = [.ref d] ∧ DeckAt H d ∧
  ∀ (H' : Hp) (a : Addr) (R : List Row) (n : Nat), But d H H' → DeckAt H' d → H' a = some (.lst (rowsV R)) → RowsOk n R → R.Nodup → Q (.ref a) H'
theorem sc34 : FnScope ["_law_deck_here", "_law_places", "_law_known", "_law_turn"] ["_law_deck_here"] (defScope (top 34)) := ⟨rfl, rfl, rfl, by decide +kernel, rfl, by decide +kernel, by decide +kernel⟩
section
variable {P : Program} {w : World} {K : PySem.W.Frag} {mg : Str → Option Value} {base : Heap}
theorem c_few (T : Txt K mg) : CalL P w K mg base 2 "_law_few" spFew := by
  have cP : CalL P w K mg base 1 "_law_pick" spPick := c_pick T
  have cR : CalL P w K mg base 1 "_law_row" spLRow := c_lrow T
  refine mkCal T (j := 21) (i := 34) rfl rfl (fun _ _ _ _ _ _ us hl => match us, hl with | [_], _ => rfl) sc34 (fun vs H Q E h => ?_) (fun f cdv A outer s H vs Q E hr h => ?_)
  · obtain ⟨_, rfl, _⟩ := h
    rfl
  · obtain ⟨d, rfl, hD, q⟩ := h
    have hu := hu_of hr
    refine ⟨_, pss_cons (ps_set (i := 1) sc34.nd rfl (Or.inl rfl) (pe_op op_add pe_int (pe_f cP hr (by decide) rfl (pa_cons (pv 0) (pa_cons pe_int pa_nil)))))
      (pss_cons (ps_set (i := 2) sc34.nd rfl (Or.inl rfl) pe_dnewK)
      (pss_cons (ps_for PassesOwn.never rfl (pi_range1 rfl T.rangeB (pa_cons (pe_op op_add pe_int (pe_f cP hr (by decide) rfl (pa_cons (pv 0) (pa_cons pe_int pa_nil)))) pa_nil)) (pg_name (i := 3) sc34.nd rfl (Or.inl rfl))
        (pss_one (ps_dput hu (pv 2) (pe_f cR hr (by decide) rfl (pa_cons (pe_f cP hr (by decide) rfl (pa_cons (pv 0) (pa_cons (pe_op op_shl pe_int (pv 1)) pa_nil))) (pa_cons (pv 1) pa_nil))) pe_bl rfl)))
      (pss_one (ps_ret (pe_callB cr_sortedS rfl T.sortedB bt_sorted (pa_cons (pe_callTy (call_list_dK rfl) rfl T.listB bt_list (pa_cons (pv 2) pa_nil)) pa_nil)))))), ?_⟩
    refine ⟨_, rfl, d, 2, rfl, hD, by decide, by decide, fun H1 r1 h10 h11 b1 D1 => ⟨_, _, rfl, rfl, ?_⟩⟩
    obtain ⟨p, hp, hp1, hp2⟩ : ∃ p : Nat, (7 : Int) + r1 = (p : Nat) ∧ 7 ≤ p ∧ p ≤ 8 := ⟨(7 + r1).toNat, by omega, by omega, by omega⟩
    refine gn (v' := .int (p : Nat)) (congrArg V.int hp) ?_
    have hw : 2 ^ p ≤ 2 ^ 8 := Nat.pow_le_pow_right (by decide) hp2
    have hw0 : 0 < 2 ^ p := Nat.pow_pos (by decide)
    intro kd hkd
    have nkd : kd ≠ d := fun e => by
      obtain ⟨_, _, _, _, _, _, h, _⟩ := D1
      rw [e, h] at hkd
      cases hkd
    have sk := same_new hkd (.dK [])
    refine ⟨_, rfl, d, 4, rfl, D1.same sk, by decide, by decide, fun H3 r3 h30 h31 b3 D3 => ⟨_, _, rfl, rfl, 2 + r3, rfl, by omega, by omega, ?_⟩⟩
    obtain ⟨k3, hk3, hk31, hk32⟩ : ∃ k : Nat, (2 : Int) + r3 = (k : Nat) ∧ 2 ≤ k ∧ k ≤ 5 := ⟨(2 + r3).toNat, by omega, by omega, by omega⟩
    have e3 : H3 kd = some (.dK []) := b3 _ _ nkd upd_same
    have W3 : ∀ b o, b ≠ d → H1 b = some o → H3 b = some o := fun b o n h => b3 _ _ n (sk _ _ h)
    have deckU : ∀ (H' : Hp) (o : HO) (u : List (Key × V)), H' kd = some (.dK u) → DeckAt H' d → DeckAt (upd H' kd o) d := fun H' o u hk h => by
      obtain ⟨c, cs, i, j, k, n, h1, h2⟩ := h
      exact ⟨c, cs, i, j, k, n, by rw [upd_ne nkd.symm]; exact h1, by rw [upd_ne (ne_of h2 hk (by intro z; cases z))]; exact h2⟩
    rw [hk3]
    refine for_it (walk_range (lo := 0) (n := k3)) (fun i σ H6 => ∃ (l : List Row) (v3 : Option V), σ = [some (.ref d), some (.int (p : Nat)), some (.ref kd), v3] ∧ (∀ b o, b ≠ d → H1 b = some o → H6 b = some o) ∧ DeckAt H6 d ∧ H6 kd = some (.dK (rowD l)) ∧ FewOk p i l)
      ⟨[], none, rfl, W3, D3, e3, ⟨List.nodup_nil, fun _ h => (by cases h), Nat.le_refl _, .inl rfl⟩⟩ (fun _ _ _ _ _ => trivial) (fun i x σ H6 H7 hi pv yy => ?_) (fun σ H6 pv => ?_)
    · obtain ⟨rfl, hx⟩ := yy
      obtain ⟨l, v3, rfl, W6, D6, e6, ok6⟩ := pv
      refine ⟨_, rfl, _, rfl, _, rfl, _, _, rfl, rfl, ⟨by omega, by omega, by decide⟩, ?_⟩
      refine ⟨d, _, rfl, D6, by rw [shl1]; omega, by rw [shl1]; omega, fun H8 r8 h80 h81 b8 D8 => ?_⟩
      obtain ⟨k8, rfl⟩ := Int.eq_ofNat_of_zero_le h80
      refine ⟨_, rfl, k8, p, rfl, by omega, fun H9 s9 => ?_⟩
      have e9 : H9 kd = some (.dK (rowD l)) := s9 _ _ (b8 _ _ nkd e6)
      have hle := ok6.le
      refine ⟨kd, _, rfl, DPut.k (k := .inr (encR (bits p k8))) e9 (by unfold rowD; rw [List.length_map]; exact small1000 (by omega)), addR l (bits p k8), _, rfl, fun b o n h => ?_, deckU _ _ _ e9 (D8.same s9), ?_, ok6.add (bits_len p k8)⟩
      · rw [upd_ne (ne_of_none h hkd)]
        exact s9 _ _ (b8 _ _ n (W6 _ _ n h))
      · rw [upd_same, rowD_put]
    · obtain ⟨l, v3, rfl, W6, D6, e6, ok6⟩ := pv
      have hle := ok6.le
      refine ⟨_, rfl, kd, _, rfl, e6, fun lq hlq => ?_⟩
      rw [keys_rowD]
      have sl := same_new hlq (.lst ((l.map encR).map V.str))
      refine ⟨lq, l.map encR, rfl, SqL.of upd_same, by rw [List.length_map]; omega, fun ys sp hperm _ hsp => ?_⟩
      have s2 := sl.trans (same_new hsp (.lst (ys.map V.str)))
      obtain ⟨R', hR', rfl⟩ := perm_rows hperm
      have ne : l ≠ [] := by
        rcases ok6.ne with h | h
        · omega
        · exact h
      exact q _ sp R' p (b1.trans fun b o n h => s2 _ _ (W6 _ _ n h)) (D6.same s2) (by rw [upd_same, rowsV_str]) ⟨fun e => ne (by have h2 := hR'.length_eq; rw [e] at h2; exact List.length_eq_zero_iff.mp h2.symm), fun r hr => ok6.wd r (hR'.mem_iff.mp hr), by omega, by omega, by rw [hR'.length_eq]; omega⟩ (hR'.nodup_iff.mpr ok6.nd)
end
end Lik
namespace Lik
open PySem PySem.Spec PyProof.Rows L2
/-! ### the law's ways out of a standing -/
structure WayAt (H : Hp) (s : Stg) (p : Nat) (S : List Row) (la : Addr) (t0 t1 r0 r1 : Addr) : Prop where
  l : Rd H la (.lst [.ref t0, .ref t1])
  t0 : Rd H t0 (.tup [.str (encS (s.set p (some false))), .ref r0])
  t1 : Rd H t1 (.tup [.str (encS (s.set p (some true))), .ref r1])
  r0 : Rd H r0 (.lst (rowsV (side false p S)))
  r1 : Rd H r1 (.lst (rowsV (side true p S)))
theorem WayAt.keep {H H' : Hp} {s : Stg} {p : Nat} {S : List Row} {la t0 t1 r0 r1 : Addr} (k : Keep H H') (h : WayAt H s p S la t0 t1 r0 r1) : WayAt H' s p S la t0 t1 r0 r1 :=
  ⟨k _ _ (.inl trivial) h.l, k _ _ (.inr ⟨_, rfl⟩) h.t0, k _ _ (.inr ⟨_, rfl⟩) h.t1, k _ _ (.inl trivial) h.r0, k _ _ (.inl trivial) h.r1⟩
/-- the dict of the ways: each open place, the two later standings with their rows -/
def WaysAt (H : Hp) (n : Nat) (S : List Row) (s : Stg) (w : Addr) : Prop := ∃ la : Nat → Addr, Rd H w (.dK (ND (fun p => .ref (la p)) (opens n S))) ∧ ∀ p ∈ opens n S, ∃ t0 t1 r0 r1, WayAt H s p S (la p) t0 t1 r0 r1
theorem WaysAt.keep {H H' : Hp} {n : Nat} {s : Stg} {S : List Row} {w : Addr} (k : Keep H H') (h : WaysAt H n S s w) : WaysAt H' n S s w := by
  obtain ⟨la, h1, h2⟩ := h
  refine ⟨la, k.dK h1, fun p hp => ?_⟩
  obtain ⟨t0, t1, r0, r1, h⟩ := h2 p hp
  exact ⟨t0, t1, r0, r1, h.keep k⟩
theorem ND_congr {g g' : Nat → V} {l : List Nat} (h : ∀ p ∈ l, g p = g' p) : ND g l = ND g' l := by
  unfold ND
  exact List.map_congr_left fun p hp => by rw [h p hp]
def putLa (la : Nat → Addr) (i : Nat) (a : Addr) : Nat → Addr := fun p => if p = i then a else la p
theorem putLa_self (la : Nat → Addr) (i : Nat) (a : Addr) : putLa la i a i = a := if_pos rfl
theorem putLa_ne {la : Nat → Addr} {i p : Nat} {a : Addr} (h : p ≠ i) : putLa la i a p = la p := if_neg h
def fo (S : List Row) (i : Nat) : List Nat := (List.range i).filter (isOpen S)
theorem fo_succ (S : List Row) (i : Nat) : fo S (i + 1) = fo S i ++ (if isOpen S i = true then [i] else []) := by
  unfold fo
  rw [List.range_succ, List.filter_append, List.filter_cons]
  rfl
theorem fo_lt {S : List Row} {i p : Nat} (h : p ∈ fo S i) : p < i := List.mem_range.mp (List.mem_filter.mp h).1
theorem fo_len (S : List Row) (i : Nat) : (fo S i).length ≤ i := opens_len i S
def spWays (K : PySem.W.Frag) : Sp := fun vs H Q _ => ∃ (a : Addr) (S : List Row) (s : Stg) (n : Nat), vs = [.ref a, .str (encS s)] ∧ SqL K H a (rowsV S) ∧ Wide n S ∧ s.length = n ∧ n ≤ 10 ∧ S.length ≤ 1000 ∧
  ∀ (H' : Hp) (w : Addr), Same H H' → H w = none → WaysAt H' n S s w → Q (.ref w) H'
theorem sc35 : FnScope ["_law_rows_here", "_law_standing", "_law_found", "_law_at", "_law_zero", "_law_one", "_law_first", "_law_last", "_law_row_here"] ["_law_rows_here", "_law_standing"] (defScope (top 35)) := ⟨rfl, rfl, rfl, by decide +kernel, rfl, by decide +kernel, by decide +kernel⟩
section
variable {P : Program} {w : World} {K : PySem.W.Frag} {mg : Str → Option Value} {base : Heap}
theorem c_ways (T : Txt K mg) : CalL P w K mg base 1 "_law_ways" (spWays K) := by
  refine mkCal T (j := 22) (i := 35) rfl rfl (fun _ _ _ _ _ _ us hl => match us, hl with | [_, _], _ => rfl) sc35 (fun vs H Q E h => ?_) (fun f cdv A outer s H vs Q E hr h => ?_)
  · obtain ⟨_, _, _, _, rfl, _⟩ := h
    rfl
  · obtain ⟨a, S, st, n, rfl, hS, hW, hlen, hn, hl, q⟩ := h
    have hu := hu_of hr
    refine ⟨_, pss_cons (ps_set (i := 2) sc35.nd rfl (Or.inl rfl) pe_dnewK)
      (pss_cons (ps_for PassesOwn.never rfl (pi_range1 rfl T.rangeB (pa_cons (pe_callB (call_lenK K) rfl T.lenB bt_len (pa_cons (pv 1) pa_nil)) pa_nil)) (pg_name (i := 3) sc35.nd rfl (Or.inr rfl))
        (pss_cons (ps_setLc (i := 4) (own := [("_law_row_here", 8)]) (g := gName 8) rfl sc35.nd rfl rfl (sw_true rfl rfl rfl (by decide +kernel)) (pi_listK K (pv 0)) (blkOk_by (N := ["_law_rows_here", "_law_standing", "_law_found", "_law_at", "_law_zero", "_law_one", "_law_first", "_law_last", "_law_row_here"]) (sc := defScope (top 35)) (by decide +kernel))
          (fun _ _ _ _ _ => pg_name (i := 8) sc35.nd rfl (Or.inl rfl)) (fun _ _ _ _ _ => pts_one (pt_cmpR op_eq (pe_ix ix_str (pv 8) (pv 3) (fun _ _ => rfl)) pe_str (nomark _))) (fun _ _ _ _ _ => pv 8))
        (pss_cons (ps_setLc (i := 5) (own := [("_law_row_here", 8)]) (g := gName 8) rfl sc35.nd rfl rfl (sw_true rfl rfl rfl (by decide +kernel)) (pi_listK K (pv 0)) (blkOk_by (N := ["_law_rows_here", "_law_standing", "_law_found", "_law_at", "_law_zero", "_law_one", "_law_first", "_law_last", "_law_row_here"]) (sc := defScope (top 35)) (by decide +kernel))
          (fun _ _ _ _ _ => pg_name (i := 8) sc35.nd rfl (Or.inl rfl)) (fun _ _ _ _ _ => pts_one (pt_cmpR op_eq (pe_ix ix_str (pv 8) (pv 3) (fun _ _ => rfl)) pe_str (nomark _))) (fun _ _ _ _ _ => pv 8))
        (pss_one (ps_if (PW.pt (pw_and (pt_cmpR op_gt (pe_callB (call_lenK K) rfl T.lenB bt_len (pa_cons (pv 4) pa_nil)) pe_int (nomark _)) (pw_and1 (pt_cmpR op_gt (pe_callB (call_lenK K) rfl T.lenB bt_len (pa_cons (pv 5) pa_nil)) pe_int (nomark _)))))
          (pss_cons (ps_set (i := 6) sc35.nd rfl (Or.inl rfl) (pe_slice sl_str (pv 1) po_none (po_some (pv 3))))
          (pss_cons (ps_set (i := 7) sc35.nd rfl (Or.inl rfl) (pe_slice sl_str (pv 1) (po_some (pe_op op_add (pv 3) pe_int)) po_none))
          (pss_one (ps_dput hu (pv 2) (pv 3) (pe_lst (pa_cons (pe_tup (pa_cons (pe_op op_add_str (pe_op op_add_str (pv 6) pe_str) (pv 7)) (pa_cons (pv 4) pa_nil))) (pa_cons (pe_tup (pa_cons (pe_op op_add_str (pe_op op_add_str (pv 6) pe_str) (pv 7)) (pa_cons (pv 5) pa_nil))) pa_nil))) rfl)))) pss_nil)))))
      (pss_one (ps_ret (pv 2)))), ?_⟩
    intro d hd
    have sd := same_new hd (.dK [])
    have lenV : (rowsV S).length = S.length := rowsV_len S
    have hsz : S.length ≤ sizeLine := small10 hl
    refine ⟨_, rfl, _, n, rfl, ⟨small10 (by rw [encS_len]; omega), by rw [encS_len, hlen]⟩, n, rfl, by omega, by omega, ?_⟩
    refine for_it (walk_range (lo := 0) (n := n)) (fun i σ H6 => ∃ (v3 v4 v5 v6 v7 v8 : Option V) (la : Nat → Addr), σ = [some (.ref a), some (.str (encS st)), some (.ref d), v3, v4, v5, v6, v7, v8] ∧ Same H H6 ∧ H6 d = some (.dK (ND (fun p => .ref (la p)) (fo S i))) ∧ ∀ p ∈ fo S i, ∃ t0 t1 r0 r1, WayAt H6 st p S (la p) t0 t1 r0 r1)
      ⟨none, none, none, none, none, none, fun _ => 0, rfl, sd, upd_same, fun p hp => by cases hp⟩ (fun _ _ _ _ _ => trivial) (fun i x σ H6 H7 hi pv yy => ?_) (fun σ H6 pv => ?_)
    · obtain ⟨rfl, hx⟩ := yy
      have hx : x = .int (i : Nat) := hx.trans (congrArg V.int (Int.zero_add _))
      subst hx
      obtain ⟨v3, v4, v5, v6, v7, v8, la, rfl, s6, e6, w6⟩ := pv
      have e6 : H7 d = _ := e6
      have w6 : ∀ p ∈ fo S i, ∃ t0 t1 r0 r1, WayAt H7 st p S (la p) t0 t1 r0 r1 := w6
      have s6 : Same H H7 := s6
      -- the rows with 0
      refine ⟨_, rfl, a, rfl, ⟨_, (same_keep s6).sqL hS⟩, fun D hD => lc_it walk_list (PvF H7 D S (fSide false i)) (PvF.zero hD) (fun j H1 _ pv => (same_keep (s6.trans pv.1)).sqL hS) (fun j x H1 H2 hj pv y => ?_) (fun H1 pv => ?_)⟩
      · obtain ⟨rfl, hx⟩ := y
        obtain ⟨r, hr2, rfl⟩ := rowsV_get hx
        have hrl := wide_get hW hr2
        refine ⟨rfl, _, rfl, _, rfl, _, _, _, rfl, rfl, small10 (by rw [encR_len]; omega), encR_at (by omega), rfl, _, rfl, ?_⟩
        rw [lit0, show decide (V.str ⟨#[sgn (r.getD i false)]⟩ = V.str (sgS false)) = _ from sg_eq _ _]
        refine ite2 (fun c => ?_) (fun c => ?_)
        · refine ⟨_, rfl, pv.add hD (Same.refl _) (fSide_le false i) hsz hr2 ?_⟩
          unfold fSide
          rw [if_pos c]
        · refine pv.skip (Same.refl _) hr2 ?_
          unfold fSide
          rw [if_neg c]
      have e0 : H1 D = some (.lst (rowsV (side false i S))) := by rw [pv.done lenV, fSide_all]
      have s1 : Same H7 H1 := pv.1
      clear pv
      -- the rows with 1
      refine ⟨_, rfl, a, rfl, ⟨_, (same_keep (s6.trans s1)).sqL hS⟩, fun D2 hD2 => lc_it walk_list (PvF H1 D2 S (fSide true i)) (PvF.zero hD2) (fun j H3 _ pv => (same_keep ((s6.trans s1).trans pv.1)).sqL hS) (fun j x H3 H2 hj pv y => ?_) (fun H3 pv => ?_)⟩
      · obtain ⟨rfl, hx⟩ := y
        obtain ⟨r, hr2, rfl⟩ := rowsV_get hx
        have hrl := wide_get hW hr2
        refine ⟨rfl, _, rfl, _, rfl, _, _, _, rfl, rfl, small10 (by rw [encR_len]; omega), encR_at (by omega), rfl, _, rfl, ?_⟩
        rw [lit1, show decide (V.str ⟨#[sgn (r.getD i false)]⟩ = V.str (sgS true)) = _ from sg_eq _ _]
        refine ite2 (fun c => ?_) (fun c => ?_)
        · refine ⟨_, rfl, pv.add hD2 (Same.refl _) (fSide_le true i) hsz hr2 ?_⟩
          unfold fSide
          rw [if_pos c]
        · refine pv.skip (Same.refl _) hr2 ?_
          unfold fSide
          rw [if_neg c]
      have e1 : H3 D2 = some (.lst (rowsV (side true i S))) := by rw [pv.done lenV, fSide_all]
      have s3 : Same H7 H3 := s1.trans pv.1
      have e0' : H3 D = some (.lst (rowsV (side false i S))) := pv.1 _ _ e0
      clear pv e0
      have skip : ¬ isOpen S i = true → ∃ (u3 u4 u5 u6 u7 u8 : Option V) (la : Nat → Addr), [some (.ref a), some (.str (encS st)), some (.ref d), some (.int (i : Nat)), some (.ref D), some (.ref D2), v6, v7, v8] = [some (.ref a), some (.str (encS st)), some (.ref d), u3, u4, u5, u6, u7, u8] ∧ Same H H3 ∧ H3 d = some (.dK (ND (fun p => .ref (la p)) (fo S (i + 1)))) ∧ ∀ p ∈ fo S (i + 1), ∃ t0 t1 r0 r1, WayAt H3 st p S (la p) t0 t1 r0 r1 := fun hno => by
        have ef : fo S (i + 1) = fo S i := by rw [fo_succ, if_neg hno, List.append_nil]
        refine ⟨_, _, _, v6, v7, v8, la, rfl, s6.trans s3, by rw [ef]; exact s3 _ _ e6, fun p hp => ?_⟩
        rw [ef] at hp
        obtain ⟨t0, t1, r0, r1, h⟩ := w6 p hp
        exact ⟨t0, t1, r0, r1, h.keep (same_keep s3)⟩
      refine ⟨_, rfl, _, _, rfl, .inl ⟨_, SqL.of e0', (rowsV_len _).symm⟩, _, _, rfl, rfl, _, rfl, ite2 (fun c0 => ?_) (fun c0 => iteF ?_)⟩
      · refine ⟨_, rfl, _, _, rfl, .inl ⟨_, SqL.of e1, (rowsV_len _).symm⟩, _, _, rfl, rfl, _, rfl, ite2 (fun c1 => ?_) (fun c1 => ?_)⟩
        · have l0 : 0 < (side false i S).length := by have := of_decide_eq_true c0; omega
          have l1 : 0 < (side true i S).length := by have := of_decide_eq_true c1; omega
          have hop : isOpen S i = true := isOpen_iff.mpr ⟨List.length_pos_iff.mp l0, List.length_pos_iff.mp l1⟩
          have hil : i < st.length := by omega
          have z : (encS st).length ≤ sizeLine := by rw [encS_len]; exact small10 (by omega)
          have z1 := cutS_length (encS st) none (some (i : Int))
          have z2 := cutS_length (encS st) (some ((i : Int) + 1)) none
          rw [encS_len] at z1 z2
          have z3 : ∀ b, (cutS (encS st) none (some (i : Int)) ++ sgS b : Str).length = (cutS (encS st) none (some (i : Int))).length + 1 := fun b => by
            show (_ ++ _ : Array Nat).size = _
            rw [Array.size_append]
            rfl
          refine ⟨_, rfl, _, rfl, _, rfl, _, rfl, z, ?_⟩
          refine ⟨_, rfl, _, rfl, _, _, rfl, rfl, _, rfl, _, rfl, z, ?_⟩
          have sz1 : ∀ b, (cutS (encS st) none (some (i : Int))).length + (sgS b).length ≤ sizeLine := fun b => small10 (by show _ + 1 ≤ _; omega)
          refine ⟨_, rfl, _, _, rfl, rfl, by rw [lit0]; exact sz1 false, _, rfl, _, _, rfl, rfl, by rw [lit0, z3]; exact small10 (by omega), _, rfl, by show 2 ≤ sizeLine; decide, fun t0 ht0 => ?_⟩
          refine ⟨_, rfl, _, _, rfl, rfl, by rw [lit1]; exact sz1 true, _, rfl, _, _, rfl, rfl, by rw [lit1, z3]; exact small10 (by omega), _, rfl, by show 2 ≤ sizeLine; decide, fun t1 ht1 => ?_⟩
          rw [lit1] at *
          rw [lit0] at *
          rw [set_enc (b := false) hil] at *
          rw [set_enc (b := true) hil] at *
          refine ⟨by show 2 ≤ sizeLine; decide, fun lp hlp => ?_⟩
          have sA := (same_new ht0 (.tup [.str (encS (st.set i (some false))), .ref D]))
          have sB := (same_new ht1 (.tup [.str (encS (st.set i (some true))), .ref D2]))
          have sC := same_new hlp (.lst [.ref t0, .ref t1])
          have s4 := sA.trans (sB.trans sC)
          have s5 := s3.trans s4
          refine ⟨_, rfl, _, rfl, d, _, rfl, DPut.k (k := .inl (i : Nat)) (s5 _ _ e6) (by rw [ND_len]; have := fo_len S i; exact small1000 (by omega)), ?_⟩
          have hni : i ∉ fo S i := fun h => Nat.lt_irrefl _ (fo_lt h)
          have ef : fo S (i + 1) = fo S i ++ [i] := by rw [fo_succ, if_pos hop]
          have kp : ∀ b o, (∀ m, o ≠ .dK m) → H3 b = some o → upd (upd (upd (upd H3 t0 (.tup [.str (encS (st.set i (some false))), .ref D])) t1 (.tup [.str (encS (st.set i (some true))), .ref D2])) lp (.lst [.ref t0, .ref t1])) d (.dK (putK (ND (fun p => .ref (la p)) (fo S i)) (.inl (i : Nat)) (.ref lp))) b = some o := fun b o nk h => by
            rw [upd_ne (ne_of h (s3 _ _ e6) (nk _))]
            exact s4 _ _ h
          have nd : ∀ b o, (∀ m, o ≠ .dK m) → (upd (upd (upd H3 t0 (.tup [.str (encS (st.set i (some false))), .ref D])) t1 (.tup [.str (encS (st.set i (some true))), .ref D2])) lp (.lst [.ref t0, .ref t1])) b = some o → upd (upd (upd (upd H3 t0 (.tup [.str (encS (st.set i (some false))), .ref D])) t1 (.tup [.str (encS (st.set i (some true))), .ref D2])) lp (.lst [.ref t0, .ref t1])) d (.dK (putK (ND (fun p => .ref (la p)) (fo S i)) (.inl (i : Nat)) (.ref lp))) b = some o := fun b o nk h => by
            rw [upd_ne (ne_of h (s5 _ _ e6) (nk _))]
            exact h
          have keepR : Keep H7 (upd (upd (upd (upd H3 t0 (.tup [.str (encS (st.set i (some false))), .ref D])) t1 (.tup [.str (encS (st.set i (some true))), .ref D2])) lp (.lst [.ref t0, .ref t1])) d (.dK (putK (ND (fun p => .ref (la p)) (fo S i)) (.inl (i : Nat)) (.ref lp)))) ∨ True := .inr trivial
          refine ⟨_, _, _, _, _, _, putLa la i lp, rfl, fun b o h => ?_, ?_, fun p hp => ?_⟩
          · rw [upd_ne (ne_of_none h hd)]
            exact s5 _ _ (s6 _ _ h)
          · rw [upd_same, ef]
            have nei : ∀ p ∈ fo S i, p ≠ i := fun p hp e => hni (e ▸ hp)
            have e7 : ND (fun p => V.ref (la p)) (fo S i) = ND (fun p => V.ref (putLa la i lp p)) (fo S i) := ND_congr fun p hp => by rw [putLa_ne (nei p hp)]
            rw [e7]
            have e8 := ND_put (g := fun p => V.ref (putLa la i lp p)) hni
            simp only [putLa_self] at e8
            rw [e8]
          · rw [ef] at hp
            rcases List.mem_append.mp hp with hp | hp
            · obtain ⟨u0, u1, r0, r1, h⟩ := w6 p hp
              have nk : ∀ b xs, (Rd H7 b (.tup xs) ∨ Rd H7 b (.lst xs)) → b ≠ d := fun b xs h e => by
                rw [e] at h
                rcases h with (h | ⟨_, h⟩) | (h | ⟨_, h⟩) <;> rw [e6] at h <;> cases h
              have kr : ∀ b u, b ≠ d → Rd H7 b u → Rd (upd (upd (upd (upd H3 t0 (.tup [.str (encS (st.set i (some false))), .ref D])) t1 (.tup [.str (encS (st.set i (some true))), .ref D2])) lp (.lst [.ref t0, .ref t1])) d (.dK (putK (ND (fun p => .ref (la p)) (fo S i)) (.inl (i : Nat)) (.ref lp)))) b u := fun b u nb h => by
                unfold Rd
                rw [upd_ne nb]
                exact same_rd s5 h
              refine ⟨u0, u1, r0, r1, ?_⟩
              have nei : p ≠ i := fun e => by rw [e] at hp; exact hni hp
              rw [putLa_ne nei]
              exact ⟨kr _ _ (nk _ _ (.inr h.l)) h.l, kr _ _ (nk _ _ (.inl h.t0)) h.t0, kr _ _ (nk _ _ (.inl h.t1)) h.t1, kr _ _ (nk _ _ (.inr h.r0)) h.r0, kr _ _ (nk _ _ (.inr h.r1)) h.r1⟩
            · rw [List.mem_singleton.mp hp, putLa_self]
              exact ⟨t0, t1, D, D2, .inl (nd _ _ (fun m z => by cases z) upd_same), .inl (nd _ _ (fun m z => by cases z) (sC _ _ (sB _ _ upd_same))), .inl (nd _ _ (fun m z => by cases z) (sC _ _ upd_same)), .inl (kp _ _ (fun m z => by cases z) e0'), .inl (kp _ _ (fun m z => by cases z) e1)⟩
        · refine skip fun z => c1 ?_
          have := List.length_pos_iff.mpr (side_ne z true)
          exact decide_eq_true (by omega)
      · refine skip fun z => c0 ?_
        have := List.length_pos_iff.mpr (side_ne z false)
        exact decide_eq_true (by omega)
    · obtain ⟨v3, v4, v5, v6, v7, v8, la, rfl, s6, e6, w6⟩ := pv
      exact ⟨_, rfl, q _ d s6 hd ⟨la, .inl e6, w6⟩⟩
end
end Lik
namespace Lik
open PySem PySem.Spec PyProof.Rows L2
/-! ### the law's standings -/
theorem Keep.unlk {H : Hp} {d : Addr} {u o0 : HO} {od : Obj} (h : H d = some (.frz od u)) (ho : o0 = u ∨ ∃ o, o0 = .frz o u) (mu : Mut (some u)) : Keep H (upd H d o0) := fun a w mw r => by
  by_cases e : a = d
  · subst e
    have ew : w = u := by
      rcases r with r | ⟨o, r⟩
      · rw [h] at r
        have e2 := Option.some.inj r
        rw [← e2] at mw
        rcases mw with z | ⟨_, z⟩
        · exact absurd z (fun z => z)
        · cases z
      · rw [h] at r
        injection Option.some.inj r with _ e2
        exact e2.symm
    subst ew
    rcases ho with rfl | ⟨o, rfl⟩
    · exact .inl upd_same
    · exact .inr ⟨o, upd_same⟩
  · unfold Rd
    rw [upd_ne e]
    exact r
theorem WayAt.upd {H : Hp} {s : Stg} {p : Nat} {S : List Row} {la t0 t1 r0 r1 d : Addr} {m m' : List (Key × V)} (h : WayAt H s p S la t0 t1 r0 r1) (hd : H d = some (.dK m)) : WayAt (upd H d (.dK m')) s p S la t0 t1 r0 r1 := by
  have nk : ∀ b xs, (Rd H b (.tup xs) ∨ Rd H b (.lst xs)) → b ≠ d := fun b xs h e => by
    rw [e] at h
    rcases h with (h | ⟨_, h⟩) | (h | ⟨_, h⟩) <;> rw [hd] at h <;> cases h
  have kr : ∀ b u, b ≠ d → Rd H b u → Rd (L2.upd H d (.dK m')) b u := fun b u nb h => by
    unfold Rd
    rw [upd_ne nb]
    exact h
  exact ⟨kr _ _ (nk _ _ (.inr h.l)) h.l, kr _ _ (nk _ _ (.inl h.t0)) h.t0, kr _ _ (nk _ _ (.inl h.t1)) h.t1, kr _ _ (nk _ _ (.inr h.r0)) h.r0, kr _ _ (nk _ _ (.inr h.r1)) h.r1⟩
theorem WaysAt.upd {H : Hp} {n : Nat} {S : List Row} {s : Stg} {w d : Addr} {m m' : List (Key × V)} (h : WaysAt H n S s w) (hd : H d = some (.dK m)) (nw : w ≠ d) : WaysAt (upd H d (.dK m')) n S s w := by
  obtain ⟨la, h1, h2⟩ := h
  have kr : Rd (L2.upd H d (.dK m')) w (.dK (ND (fun p => .ref (la p)) (opens n S))) := by
    unfold Rd
    rw [upd_ne nw]
    exact h1
  refine ⟨la, kr, fun p hp => ?_⟩
  obtain ⟨t0, t1, r0, r1, h⟩ := h2 p hp
  exact ⟨t0, t1, r0, r1, h.upd hd⟩
theorem WaysAt.here {H : Hp} {n : Nat} {S : List Row} {s : Stg} {w : Addr} (h : WaysAt H n S s w) : H w ≠ none := by
  obtain ⟨la, h1 | ⟨_, h1⟩, _⟩ := h <;> rw [h1] <;> intro z <;> cases z
/-- the law's standings, each with its ways -/
structure Std (H : Hp) (n : Nat) (R : List Row) (d : Addr) (L : List (Stg × Addr)) : Prop where
  hd : Rd H d (.dK (SDict V.ref L))
  nd : (L.map (·.1)).Nodup
  ok : ∀ e ∈ L, Reach n R e.1 ∧ WaysAt H n (rowsOf R e.1) e.1 e.2
  full : Full n R L
theorem Std.keep {H H' : Hp} {n : Nat} {R : List Row} {d : Addr} {L : List (Stg × Addr)} (k : Keep H H') (h : Std H n R d L) : Std H' n R d L := ⟨k.dK h.hd, h.nd, fun e he => ⟨(h.ok e he).1, (h.ok e he).2.keep k⟩, h.full⟩
theorem reach_len {n : Nat} {R : List Row} {α : Type} {L : List (Stg × α)} (nd : (L.map (·.1)).Nodup) (h : ∀ e ∈ L, Reach n R e.1) (hn : n ≤ 10) : L.length < sizeLine := by
  have h1 := stg_count (n := n) nd fun s hs => by
    obtain ⟨e, he, rfl⟩ := List.mem_map.mp hs
    exact (h e he).len
  rw [List.length_map] at h1
  have h2 : 3 ^ n ≤ 3 ^ 10 := Nat.pow_le_pow_right (by decide) hn
  exact Nat.lt_of_le_of_lt (Nat.le_trans h1 h2) (by decide)
def stgV (W : List Stg) : List V := W.map fun x => .str (encS x)
theorem stg_get {W : List Stg} {i : Nat} {x : V} (h : (stgV W)[i]? = some x) : ∃ s, W[i]? = some s ∧ x = .str (encS s) := by
  unfold stgV at h
  rw [List.getElem?_map] at h
  cases e : W[i]? with
  | none =>
    rw [e] at h
    cases h
  | some r =>
    rw [e] at h
    exact ⟨r, rfl, (Option.some.inj h).symm⟩
structure LInv (H0 : Hp) (n : Nat) (R : List Row) (d e hr : Addr) (k : Nat) (L : List (Stg × Addr)) (W : List Stg) (M : List (Stg × Addr)) (H : Hp) : Prop where
  s0 : Same H0 H
  hd : H d = some (.dK (SDict V.ref L))
  he : H e = some (.dK (SDict V.ref M))
  hL : (L.map (·.1)).Nodup
  hM : (M.map (·.1)).Nodup
  oL : ∀ x ∈ L, Reach n R x.1 ∧ WaysAt H n (rowsOf R x.1) x.1 x.2 ∧ H0 x.2 = none ∧ x.2 ≠ d ∧ x.2 ≠ e
  oM : ∀ x ∈ M, Reach n R x.1 ∧ told x.1 = k + 1 ∧ WaysAt H n (rowsOf R x.1) x.1 x.2 ∧ H0 x.2 = none ∧ x.2 ≠ d ∧ x.2 ≠ e
  hw : H hr = some (.lst (stgV W))
section
variable {H0 : Hp} {n : Nat} {R : List Row} {d e hr : Addr} {k : Nat} {L : List (Stg × Addr)} {W : List Stg} {M : List (Stg × Addr)} {H H' : Hp}
theorem LInv.same (s : Same H H') (I : LInv H0 n R d e hr k L W M H) : LInv H0 n R d e hr k L W M H' :=
  ⟨I.s0.trans s, s _ _ I.hd, s _ _ I.he, I.hL, I.hM, fun x hx => ⟨(I.oL x hx).1, (I.oL x hx).2.1.keep (same_keep s), (I.oL x hx).2.2⟩, fun x hx => ⟨(I.oM x hx).1, (I.oM x hx).2.1, (I.oM x hx).2.2.1.keep (same_keep s), (I.oM x hx).2.2.2⟩, s _ _ I.hw⟩
/-- one dict of ways is locked, or had again -/
theorem LInv.turn {x : Stg × Addr} {o : HO} (hx : x ∈ L) (kp : Keep H (upd H x.2 o)) (hz : ∀ xs, H x.2 ≠ some (.lst xs)) (I : LInv H0 n R d e hr k L W M H) : LInv H0 n R d e hr k L W M (upd H x.2 o) := by
  obtain ⟨_, _, q1, q2, q3⟩ := I.oL x hx
  refine ⟨fun b u h => ?_, ?_, ?_, I.hL, I.hM, fun y hy => ⟨(I.oL y hy).1, (I.oL y hy).2.1.keep kp, (I.oL y hy).2.2⟩, fun y hy => ⟨(I.oM y hy).1, (I.oM y hy).2.1, (I.oM y hy).2.2.1.keep kp, (I.oM y hy).2.2.2⟩, ?_⟩
  · rw [upd_ne (ne_of_none h q1)]
    exact I.s0 _ _ h
  · rw [upd_ne q2.symm]
    exact I.hd
  · rw [upd_ne q3.symm]
    exact I.he
  · rw [upd_ne (fun z => hz _ (by rw [← z]; exact I.hw))]
    exact I.hw
theorem LInv.put {s : Stg} {w : Addr} (I : LInv H0 n R d e hr k L W M H) (hde : d ≠ e) (h0e : H0 e = none) (hs : Reach n R s) (ht : told s = k + 1) (hn : s ∉ M.map (·.1)) (hw : WaysAt H n (rowsOf R s) s w) (h0 : H0 w = none) (nd : w ≠ d) (ne : w ≠ e) :
    LInv H0 n R d e hr k L W (M ++ [(s, w)]) (upd H e (.dK (putK (SDict V.ref M) (.inr (encS s)) (.ref w)))) := by
  refine ⟨fun b u h => ?_, ?_, ?_, I.hL, ?_, fun y hy => ⟨(I.oL y hy).1, (I.oL y hy).2.1.upd I.he (I.oL y hy).2.2.2.2, (I.oL y hy).2.2⟩, fun y hy => ?_, ?_⟩
  · rw [upd_ne (ne_of_none h h0e)]
    exact I.s0 _ _ h
  · rw [upd_ne hde]
    exact I.hd
  · rw [upd_same, SDict_put hn]
  · rw [List.map_append]
    exact nd_snoc I.hM hn
  · rcases List.mem_append.mp hy with hy | hy
    · obtain ⟨q1, q2, q3, q4⟩ := I.oM y hy
      exact ⟨q1, q2, q3.upd I.he q4.2.2, q4⟩
    · rw [List.mem_singleton.mp hy]
      exact ⟨hs, ht, hw.upd I.he ne, h0, nd, ne⟩
  · rw [upd_ne (ne_of I.hw I.he (by intro z; cases z))]
    exact I.hw
end
def spLReach (K : PySem.W.Frag) : Sp := fun vs H Q _ => ∃ (a : Addr) (R : List Row) (n : Nat), vs = [.ref a] ∧ SqL K H a (rowsV R) ∧ RowsOk n R ∧
  ∀ (H' : Hp) (d : Addr) (L : List (Stg × Addr)), Same H H' → H d = none → Std H' n R d L → (∀ e ∈ L, H e.2 = none) → Q (.ref d) H'
theorem sc36 : FnScope ["_law_rows_here", "_law_begin", "_law_found", "_law_here", "_law_turn", "_law_later", "_law_standing", "_law_at", "_law_way"] ["_law_rows_here"] (defScope (top 36)) := ⟨rfl, rfl, rfl, by decide +kernel, rfl, by decide +kernel, by decide +kernel⟩
section
variable {P : Program} {w : World} {K : PySem.W.Frag} {mg : Str → Option Value} {base : Heap}
theorem c_lreach (T : Txt K mg) : CalL P w K mg base 2 "_law_reached" (spLReach K) := by
  have cW : CalL P w K mg base 1 "_law_ways" (spWays K) := c_ways T
  refine mkCal T (j := 23) (i := 36) rfl rfl (fun _ _ _ _ _ _ us hl => match us, hl with | [_], _ => rfl) sc36 (fun vs H Q E h => ?_) (fun f cdv A outer s H vs Q E hr h => ?_)
  · obtain ⟨_, _, _, rfl, _⟩ := h
    rfl
  · obtain ⟨a, R, n, rfl, hS, O, q⟩ := h
    have hu := hu_of hr
    refine ⟨_, pss_cons (ps_set (i := 1) sc36.nd rfl (Or.inl rfl) (pe_op op_mul_str pe_str (pe_callB (call_lenK K) rfl T.lenB bt_len (pa_cons (pe_ix (ix_listK K) (pv 0) pe_int (fun _ _ => rfl)) pa_nil))))
      (pss_cons (ps_set (i := 2) sc36.nd rfl (Or.inl rfl) (pe_disp (pps_cons (pv 1) (pe_f cW hr (by decide) rfl (pa_cons (pv 0) (pa_cons (pv 1) pa_nil))) pps_nil) (by rfl) (by rfl) (fun z => by cases z) (by decide)))
      (pss_cons (ps_set (i := 3) sc36.nd rfl (Or.inl rfl) (pe_lst (pa_cons (pv 1) pa_nil)))
      (pss_cons (ps_for PassesOwn.never rfl (pi_range1 rfl T.rangeB (pa_cons (pe_callB (call_lenK K) rfl T.lenB bt_len (pa_cons (pe_ix (ix_listK K) (pv 0) pe_int (fun _ _ => rfl)) pa_nil)) pa_nil)) (pg_name (i := 4) sc36.nd rfl (Or.inl rfl))
        (pss_cons (ps_set (i := 5) sc36.nd rfl (Or.inl rfl) pe_dnewK)
        (pss_cons (ps_for PassesOwn.never rfl (pi_listK K (pv 3)) (pg_name (i := 6) sc36.nd rfl (Or.inl rfl))
          (pss_one (ps_lkr (ps_for PassesOwn.never rfl (pi_keys (pe_dget hu (pv 2) (pv 6) (fun _ _ => rfl))) (pg_name (i := 7) sc36.nd rfl (Or.inl rfl))
            (pss_one (ps_for PassesOwn.never rfl (pi_listK K (pe_dget hu (pe_dget hu (pv 2) (pv 6) (fun _ _ => rfl)) (pv 7) (fun _ _ => rfl))) (pg_name (i := 8) sc36.nd rfl (Or.inl rfl))
              (pss_one (ps_if (pt_cmp (pc_dnotin hu (pe_ix (ix_tupK K) (pv 8) pe_int (fun _ _ => rfl)) (pv 5)))
                (pss_one (ps_dput hu (pv 5) (pe_ix (ix_tupK K) (pv 8) pe_int (fun _ _ => rfl)) (pe_f cW hr (by decide) rfl (pa_cons (pe_ix (ix_tupK K) (pv 8) pe_int (fun _ _ => rfl)) (pa_cons (pe_ix (ix_tupK K) (pv 8) pe_int (fun _ _ => rfl)) pa_nil))) rfl)) pss_nil))))))))
        (pss_cons (ps_lkr (ps_for PassesOwn.never rfl (pi_keys (pv 5)) (pg_name (i := 6) sc36.nd rfl (Or.inl rfl))
          (pss_one (ps_dput hu (pv 2) (pv 6) (pe_dget hu (pv 5) (pv 6) (fun _ _ => rfl)) rfl))))
        (pss_one (ps_set (i := 3) sc36.nd rfl (Or.inl rfl) (pe_callTy (call_list_dK rfl) rfl T.listB bt_list (pa_cons (pv 5) pa_nil))))))))
      (pss_one (ps_ret (pv 2)))))), ?_⟩
    obtain ⟨r0, rs, eR⟩ : ∃ r0 rs, R = r0 :: rs := by
      cases R with
      | nil => exact absurd rfl O.ne
      | cons r0 rs => exact ⟨r0, rs, rfl⟩
    have l0 : r0.length = n := O.wide r0 (by rw [eR]; exact List.mem_cons_self)
    have a0 : atI (rowsV R) 0 = some (.str (encR r0)) := by
      rw [eR]
      exact at_of (j := 0) rfl rfl
    have hn10 := O.n10
    have hl10 := O.l10
    have lz : (encR r0).length ≤ sizeLine ∧ n = (encR r0).length := by
      rw [encR_len, l0]
      exact ⟨small10 (by omega), rfl⟩
    have sub10 : ∀ s, (rowsOf R s).length ≤ 1000 := fun s => by have := (rowsOf_sub R s).length_le; omega
    -- begin
    refine ⟨_, rfl, a, _, _, _, rfl, rfl, hS, a0, _, n, rfl, lz, _, _, rfl, rfl, (dots_mul O.n10).1, ?_⟩
    rw [(dots_mul O.n10).2]
    -- found
    intro d hd
    have sd := same_new hd (.dK [])
    refine ⟨_, rfl, _, rfl, _, rfl, a, R, st0 n, n, rfl, (same_keep sd).sqL hS, O.wide, (Reach.base (R := R)).len, O.n10, by omega, fun H1 w1 s1 nw1 ww1 => ⟨s1 _ _ upd_same, [(.inr (encS (st0 n)), .ref w1)], rfl, by show 1 ≤ 15; decide, ?_⟩⟩
    rw [show mergeK [] [((.inr (encS (st0 n)) : Key), V.ref w1)] = SDict V.ref [(st0 n, w1)] from rfl]
    have ed1 : H1 d = some (.dK []) := s1 _ _ upd_same
    have nw1d : w1 ≠ d := fun e => by rw [e, upd_same] at nw1; cases nw1
    have nw1H : H w1 = none := by rw [upd_ne nw1d] at nw1; exact nw1
    have ww2 : WaysAt (upd H1 d (.dK (SDict V.ref [(st0 n, w1)]))) n (rowsOf R (st0 n)) (st0 n) w1 := by
      rw [rowsOf_st0]
      exact ww1.upd ed1 nw1d
    have s2 : Same H (upd H1 d (.dK (SDict V.ref [(st0 n, w1)]))) := fun b o h => by
      rw [upd_ne (ne_of_none h hd)]
      exact s1 _ _ (sd _ _ h)
    generalize hH2 : upd H1 d (.dK (SDict V.ref [(st0 n, w1)])) = H2 at ww2 s2
    have ed2 : H2 d = some (.dK (SDict V.ref [(st0 n, w1)])) := by rw [← hH2, upd_same]
    -- here
    refine ⟨_, rfl, by show 1 ≤ sizeLine; decide, fun hr0 hhr0 => ?_⟩
    have s3 := same_new hhr0 (.lst [.str (encS (st0 n))])
    refine ⟨_, rfl, a, _, _, _, rfl, rfl, (same_keep (s2.trans s3)).sqL hS, a0, _, n, rfl, lz, n, rfl, by omega, by omega, ?_⟩
    -- the turns
    refine for_it (walk_range (lo := 0) (n := n)) (fun k σ H4 => ∃ (hq : Addr) (L : List (Stg × Addr)) (W : List Stg) (v4 v5 v6 v7 v8 : Option V), σ = [some (.ref a), some (.str (encS (st0 n))), some (.ref d), some (.ref hq), v4, v5, v6, v7, v8] ∧
        Same H H4 ∧ H4 d = some (.dK (SDict V.ref L)) ∧ (L.map (·.1)).Nodup ∧ (∀ x ∈ L, Reach n R x.1 ∧ WaysAt H4 n (rowsOf R x.1) x.1 x.2 ∧ H x.2 = none ∧ x.2 ≠ d) ∧ H4 hq = some (.lst (stgV W)) ∧
        (∀ s, Reach n R s → told s ≤ k → s ∈ L.map (·.1)) ∧ (∀ s ∈ L.map (·.1), told s ≤ k) ∧ ∀ s, s ∈ W ↔ Reach n R s ∧ told s = k)
      ⟨hr0, [(st0 n, w1)], [st0 n], none, none, none, none, none, rfl, s2.trans s3, s3 _ _ ed2, by simp, fun x hx => ?_, upd_same, fun s hs ht => ?_, fun s hs => ?_, fun s => ?_⟩ (fun _ _ _ _ _ => trivial) (fun k x σ H4 H5 hk pv yy => ?_) (fun σ H4 pv => ?_)
    · rw [List.mem_singleton.mp hx]
      exact ⟨.base, ww2.keep (same_keep s3), nw1H, nw1d⟩
    · rw [hs.zero (Nat.le_zero.mp ht)]
      exact List.mem_singleton.mpr rfl
    · rw [List.mem_singleton.mp hs, told_st0]
      exact Nat.le_refl 0
    · constructor
      · intro h
        rw [List.mem_singleton.mp h]
        exact ⟨.base, told_st0 n⟩
      · rintro ⟨h1, h2⟩
        rw [h1.zero h2]
        exact List.mem_singleton.mpr rfl
    · obtain ⟨rfl, hx⟩ := yy
      obtain ⟨hq, L, W, v4, v5, v6, v7, v8, rfl, s4, e4, nd4, ok4, hw4, in4, le4, hW⟩ := pv
      -- later = {}
      intro e he
      have se := same_new he (.dK [])
      have nde : d ≠ e := ne_of_none e4 he
      have h0e : H e = none := s4.free he
      have I0 : LInv H n R d e hq k L W [] (upd H5 e (.dK [])) := ⟨s4.trans se, se _ _ e4, upd_same, nd4, List.nodup_nil, fun y hy => by
          obtain ⟨q1, q2, q3, q4⟩ := ok4 y hy
          exact ⟨q1, q2.keep (same_keep se), q3, q4, fun z => q2.here (by rw [z]; exact he)⟩, fun y hy => (by cases hy), se _ _ hw4⟩
      -- for standing in here
      refine ⟨_, rfl, hq, rfl, ⟨_, SqL.of I0.hw⟩, for_it walk_list (fun i σ H6 => ∃ (M : List (Stg × Addr)) (v6 v7 v8 : Option V), σ = [some (.ref a), some (.str (encS (st0 n))), some (.ref d), some (.ref hq), some x, some (.ref e), v6, v7, v8] ∧ LInv H n R d e hq k L W M H6 ∧ ∀ s ∈ W.take i, ∀ p ∈ opens n (rowsOf R s), ∀ b, s.set p (some b) ∈ M.map (·.1))
        ⟨[], v6, v7, v8, rfl, I0, fun s hs => by cases hs⟩ (fun i σ H6 _ ⟨_, _, _, _, _, h, _⟩ => SqL.of h.hw) (fun i y σ H6 H7 hi pv yy => ?_) (fun σ H6 pv => ?_)⟩
      · obtain ⟨rfl, hy⟩ := yy
        obtain ⟨sh, hsh, rfl⟩ := stg_get hy
        obtain ⟨M, u6, u7, u8, rfl, I, hin⟩ := pv
        obtain ⟨rS, tS⟩ := (hW sh).mp (List.mem_of_getElem? hsh)
        obtain ⟨wS, hwS⟩ := key_mem (in4 sh rS (by omega))
        obtain ⟨_, ww, z1, z2, z3⟩ := I.oL _ hwS
        obtain ⟨la, rdw, wy⟩ := ww
        obtain ⟨o0, h0, ho⟩ := rd_lock rdw
        have rdw' : Rd H7 wS (.dK (ND (fun p => .ref (la p)) (opens n (rowsOf R sh)))) := rdw
        refine ⟨wS, _, o0, h0, ho, trivial, fun od => ?_⟩
        have kp := Keep.lkr od h0 ho trivial
        have IL := I.turn (o := .frz od (.dK (ND (fun p => .ref (la p)) (opens n (rowsOf R sh))))) hwS kp (fun xs z => by
          rw [h0] at z
          rcases ho with rfl | ⟨o, rfl⟩ <;> cases z)
        have wyL : ∀ p ∈ opens n (rowsOf R sh), ∃ t0 t1 r0 r1, WayAt (upd H7 wS (.frz od (.dK (ND (fun p => .ref (la p)) (opens n (rowsOf R sh)))))) sh p (rowsOf R sh) (la p) t0 t1 r0 r1 := fun p hp => by
          obtain ⟨t0, t1, r0, r1, h⟩ := wy p hp
          exact ⟨t0, t1, r0, r1, h.keep kp⟩
        generalize hHL : upd H7 wS (.frz od (.dK (ND (fun p => .ref (la p)) (opens n (rowsOf R sh))))) = HL at IL wyL
        have ez : HL wS = some (.frz od (.dK (ND (fun p => .ref (la p)) (opens n (rowsOf R sh))))) := by rw [← hHL, upd_same]
        have nwe : wS ≠ e := z3
        have nod := opens_nodup n (rowsOf R sh)
        -- for at in found[standing]
        refine ⟨_, rfl, _, rfl, d, .ref wS, rfl, sget (.inl IL.hd) IL.hL hwS rfl, wS, od, rfl, .inl ⟨_, ez, for_it walk_keys (fun j σ H8 => ∃ (M8 : List (Stg × Addr)) (v7 v8 : Option V), σ = [some (.ref a), some (.str (encS (st0 n))), some (.ref d), some (.ref hq), some x, some (.ref e), some (.str (encS sh)), v7, v8] ∧ LInv H n R d e hq k L W M8 H8 ∧ (∀ p ∈ opens n (rowsOf R sh), ∃ t0 t1 r0 r1, WayAt H8 sh p (rowsOf R sh) (la p) t0 t1 r0 r1) ∧
            H8 wS = some (.frz od (.dK (ND (fun p => .ref (la p)) (opens n (rowsOf R sh))))) ∧ (∀ s ∈ M.map (·.1), s ∈ M8.map (·.1)) ∧ ∀ p ∈ (opens n (rowsOf R sh)).take j, ∀ b, sh.set p (some b) ∈ M8.map (·.1))
          ⟨M, _, _, rfl, IL, wyL, ez, fun _ h => h, fun p hp => by cases hp⟩ (fun j σ H8 _ ⟨_, _, _, _, _, _, h, _⟩ => h) (fun j y σ H8 H9 hj pv yy => ?_) (fun σ H8 pv => ?_)⟩⟩
        · obtain ⟨rfl, k1, v1, hkv, rfl⟩ := yy
          obtain ⟨p, hp, rfl, rfl⟩ : ∃ p, (opens n (rowsOf R sh))[j]? = some p ∧ k1 = .inl (p : Nat) ∧ v1 = .ref (la p) := by
            unfold ND at hkv
            rw [List.getElem?_map] at hkv
            cases ep : (opens n (rowsOf R sh))[j]? with
            | none =>
              rw [ep] at hkv
              cases hkv
            | some p =>
              rw [ep] at hkv
              cases hkv
              exact ⟨p, rfl, rfl, rfl⟩
          obtain ⟨M8, u7, u8, rfl, I8, k8, ez8, mo8, in8⟩ := pv
          have hpo := List.mem_of_getElem? hp
          obtain ⟨t0, t1, r0, r1, wp8⟩ := k8 p hpo
          -- for way in found[standing][at]
          refine ⟨_, rfl, _, rfl, d, .ref wS, rfl, sget (.inl I8.hd) I8.hL hwS rfl, _, rfl, wS, .ref (la p), rfl, .inl ⟨_, .inl (p : Nat), .inr ⟨od, ez8⟩, rfl, (ND_val (g := fun p => V.ref (la p)) nod hpo).symm⟩, la p, rfl, ⟨_, .inl wp8.l⟩, for_it walk_list (fun c σ H10 => ∃ (M10 : List (Stg × Addr)) (v8 : Option V), σ = [some (.ref a), some (.str (encS (st0 n))), some (.ref d), some (.ref hq), some x, some (.ref e), some (.str (encS sh)), some (.int (p : Nat)), v8] ∧ LInv H n R d e hq k L W M10 H10 ∧ ((∀ p ∈ opens n (rowsOf R sh), ∃ t0 t1 r0 r1, WayAt H10 sh p (rowsOf R sh) (la p) t0 t1 r0 r1) ∧ WayAt H10 sh p (rowsOf R sh) (la p) t0 t1 r0 r1) ∧
              H10 wS = some (.frz od (.dK (ND (fun p => .ref (la p)) (opens n (rowsOf R sh))))) ∧ (∀ s ∈ M8.map (·.1), s ∈ M10.map (·.1)) ∧ ∀ b ∈ [false, true].take c, sh.set p (some b) ∈ M10.map (·.1))
            ⟨M8, u8, rfl, I8, ⟨k8, wp8⟩, ez8, fun _ h => h, fun b hb => by cases hb⟩ (fun c σ H10 _ ⟨_, _, _, _, h, _⟩ => .inl h.2.l) (fun c y σ H10 H11 hc pv yy => ?_) (fun σ H10 pv => ?_)⟩
          · obtain ⟨rfl, hy⟩ := yy
            obtain ⟨M10, u8, rfl, I10, ⟨k10, wp10⟩, ez10, mo10, in10⟩ := pv
            obtain ⟨b, tb, rb, rfl, hb, gt, gr⟩ : ∃ (b : Bool) (tb rb : Addr), y = .ref tb ∧ [false, true].take (c + 1) = [false, true].take c ++ [b] ∧ Rd H11 tb (.tup [.str (encS (sh.set p (some b))), .ref rb]) ∧ Rd H11 rb (.lst (rowsV (side b p (rowsOf R sh)))) := by
              match c, hy with
              | 0, hy =>
                cases hy
                exact ⟨false, t0, r0, rfl, rfl, wp10.t0, wp10.r0⟩
              | 1, hy =>
                cases hy
                exact ⟨true, t1, r1, rfl, rfl, wp10.t1, wp10.r1⟩
              | c + 2, hy => cases hy
            have g0 : atI [V.str (encS (sh.set p (some b))), V.ref rb] 0 = some (.str (encS (sh.set p (some b)))) := at_of (j := 0) rfl rfl
            have g1 : atI [V.str (encS (sh.set p (some b))), V.ref rb] 1 = some (.ref rb) := at_of (j := 1) rfl rfl
            have rN := Reach.step b rS hpo
            have tN : told (sh.set p (some b)) = k + 1 := by rw [rS.told_step hpo b, tS]
            refine ⟨_, rfl, tb, _, _, _, rfl, rfl, .inl gt, g0, _, rfl, e, _, rfl, DGet.k (k := .inr (encS (sh.set p (some b)))) I10.he, _, rfl, ?_⟩
            have fin : ∀ (M' : List (Stg × Addr)), (∀ s ∈ M10.map (·.1), s ∈ M'.map (·.1)) → sh.set p (some b) ∈ M'.map (·.1) → (∀ s ∈ M8.map (·.1), s ∈ M'.map (·.1)) ∧ ∀ b' ∈ [false, true].take (c + 1), sh.set p (some b') ∈ M'.map (·.1) := fun M' h1 h2 => ⟨fun s h => h1 _ (mo10 s h), fun b' hb' => by
              rw [hb] at hb'
              rcases List.mem_append.mp hb' with z | z
              · exact h1 _ (in10 b' z)
              · rw [List.mem_singleton.mp z]
                exact h2⟩
            by_cases hin : sh.set p (some b) ∈ M10.map (·.1)
            · obtain ⟨wx, hwx⟩ := key_mem hin
              rw [SDict_val I10.hM hwx]
              obtain ⟨f1, f2⟩ := fin M10 (fun _ h => h) hin
              exact iteF ⟨M10, _, rfl, I10, ⟨k10, wp10⟩, ez10, f1, f2⟩
            · rw [SDict_none hin]
              refine iteT ?_
              refine ⟨_, rfl, tb, _, _, _, rfl, rfl, .inl gt, g1, _, rfl, tb, _, _, _, rfl, rfl, .inl gt, g0, rb, side b p (rowsOf R sh), sh.set p (some b), n, rfl, .inl gr, (O.wide.sub (rowsOf_sub R sh)).side b p, rN.len, O.n10, by have := (side_sub b p (rowsOf R sh)).length_le; have := sub10 sh; omega, fun H12 w12 s12 nw12 ww12 => ?_⟩
              have ewS : H12 wS = _ := s12 _ _ ez10
              have I12 := I10.same s12
              have gt12 := same_rd s12 gt
              have ww13 : WaysAt H12 n (rowsOf R (sh.set p (some b))) (sh.set p (some b)) w12 := by
                rw [rS.rows hpo b]
                exact ww12
              have n1 : w12 ≠ d := fun z => by rw [z, I10.hd] at nw12; cases nw12
              have n2 : w12 ≠ e := fun z => by rw [z, I10.he] at nw12; cases nw12
              have I13 := I12.put nde h0e rN tN hin ww13 (I10.s0.free nw12) n1 n2
              refine ⟨_, rfl, _, rfl, tb, _, _, _, rfl, rfl, .inl gt12, g0, e, _, rfl, DPut.k (k := .inr (encS (sh.set p (some b)))) I12.he (by rw [SDict_len]; exact reach_len I12.hM (fun y hy => (I12.oM y hy).1) O.n10), ?_⟩
              obtain ⟨f1, f2⟩ := fin (M10 ++ [(sh.set p (some b), w12)]) (fun s h => by rw [List.map_append]; exact List.mem_append_left _ h) (by rw [List.map_append]; exact List.mem_append_right _ (List.mem_singleton.mpr rfl))
              refine ⟨M10 ++ [(sh.set p (some b), w12)], _, rfl, I13, ⟨fun p' hp' => ?_, (wp10.keep (same_keep s12)).upd I12.he⟩, by rw [upd_ne nwe]; exact ewS, f1, f2⟩
              obtain ⟨z0, z1, z2, z3, z4⟩ := k10 p' hp'
              exact ⟨z0, z1, z2, z3, (z4.keep (same_keep s12)).upd I12.he⟩
          · obtain ⟨M10, u8, rfl, I10, ⟨k10, _⟩, ez10, mo10, in10⟩ := pv
            refine ⟨M10, _, _, rfl, I10, k10, ez10, fun s h => mo10 _ (mo8 s h), fun p' hp' b => ?_⟩
            have et : (opens n (rowsOf R sh)).take (j + 1) = (opens n (rowsOf R sh)).take j ++ [p] := by rw [List.take_add_one, hp]; rfl
            rw [et] at hp'
            rcases List.mem_append.mp hp' with z | z
            · exact mo10 _ (in8 p' z b)
            · rw [List.mem_singleton.mp z]
              exact in10 b (by cases b <;> simp)
        · obtain ⟨M8, u7, u8, rfl, I8, k8, ez8, mo8, in8⟩ := pv
          rw [ND_len, List.take_length] at in8
          have kU := Keep.unlk ez8 ho trivial
          have IU := I8.turn (o := o0) hwS kU (fun xs z => by rw [ez8] at z; cases z)
          refine ⟨ez8, M8, _, _, _, rfl, IU, fun s hs p hp b => ?_⟩
          have et : W.take (i + 1) = W.take i ++ [sh] := by rw [List.take_add_one, hsh]; rfl
          rw [et] at hs
          rcases List.mem_append.mp hs with z | z
          · exact mo8 _ (hin s z p hp b)
          · rw [List.mem_singleton.mp z] at hp ⊢
            exact in8 p hp b
      · obtain ⟨M, u6, u7, u8, rfl, I, hin⟩ := pv
        have hin : ∀ s ∈ W, ∀ p ∈ opens n (rowsOf R s), ∀ b, s.set p (some b) ∈ M.map (·.1) := by
          have : (stgV W).length = W.length := List.length_map _
          rw [this, List.take_length] at hin
          exact hin
        -- for standing in later
        refine ⟨e, _, _, I.he, .inl rfl, trivial, fun od => ?_⟩
        have kp := Keep.lk od I.he trivial
        have IoL : ∀ x ∈ L, WaysAt (upd H6 e (.frz od (.dK (SDict V.ref M)))) n (rowsOf R x.1) x.1 x.2 := fun y hy => (I.oL y hy).2.1.keep kp
        have IoM : ∀ x ∈ M, WaysAt (upd H6 e (.frz od (.dK (SDict V.ref M)))) n (rowsOf R x.1) x.1 x.2 := fun y hy => (I.oM y hy).2.2.1.keep kp
        have hdL : (upd H6 e (.frz od (.dK (SDict V.ref M)))) d = some (.dK (SDict V.ref L)) := by rw [upd_ne nde]; exact I.hd
        have hsL : Same H (upd H6 e (.frz od (.dK (SDict V.ref M)))) := fun b o h => by
          rw [upd_ne (ne_of_none h h0e)]
          exact I.s0 _ _ h
        generalize hHL : upd H6 e (.frz od (.dK (SDict V.ref M))) = HL at IoL IoM hdL hsL
        have ez : HL e = some (.frz od (.dK (SDict V.ref M))) := by rw [← hHL, upd_same]
        refine ⟨_, rfl, e, od, rfl, .inl ⟨_, ez, for_it walk_keys (fun i σ H7 => ∃ (v6 v7 v8 : Option V), σ = [some (.ref a), some (.str (encS (st0 n))), some (.ref d), some (.ref hq), some x, some (.ref e), v6, v7, v8] ∧ Same H H7 ∧ H7 e = some (.frz od (.dK (SDict V.ref M))) ∧ H7 d = some (.dK (SDict V.ref (L ++ M.take i))) ∧
            (∀ x ∈ L, WaysAt H7 n (rowsOf R x.1) x.1 x.2) ∧ ∀ x ∈ M, WaysAt H7 n (rowsOf R x.1) x.1 x.2)
          ⟨_, _, _, rfl, hsL, ez, by rw [List.take_zero, List.append_nil]; exact hdL, IoL, IoM⟩ (fun i σ H7 _ ⟨_, _, _, _, _, h, _⟩ => h) (fun i y σ H7 H8 hi pv yy => ?_) (fun σ H7 pv => ?_)⟩⟩
        · obtain ⟨rfl, k1, v1, hkv, rfl⟩ := yy
          obtain ⟨⟨sh, wS⟩, hx7, rfl, rfl⟩ := SDict_at hkv
          obtain ⟨u6, u7, u8, rfl, s7, ez7, ed7, oL7, oM7⟩ := pv
          have hmem := List.mem_of_getElem? hx7
          obtain ⟨q1, q2, _, q3⟩ := I.oM _ hmem
          have et : M.take (i + 1) = M.take i ++ [(sh, wS)] := by rw [List.take_add_one, hx7]; rfl
          have hnin : sh ∉ (L ++ M.take i).map (·.1) := by
            rw [List.map_append]
            intro z
            rcases List.mem_append.mp z with z | z
            · have h1 := le4 _ z
              have h2 : told sh = k + 1 := q2
              omega
            · rw [List.map_take] at z
              exact nd_take I.hM (by rw [List.getElem?_map, hx7]; rfl) z
          have hR : ∀ y ∈ L ++ M.take i, Reach n R y.1 := fun y hy => by
            rcases List.mem_append.mp hy with z | z
            · exact (I.oL y z).1
            · exact (I.oM y (List.mem_of_mem_take z)).1
          have hnd : ((L ++ M.take i).map (·.1)).Nodup := by
            rw [List.map_append]
            refine List.nodup_append.mpr ⟨I.hL, ?_, ?_⟩
            · rw [List.map_take]
              exact List.Sublist.nodup (List.take_sublist _ _) I.hM
            · intro u hu v hv euv
              subst euv
              have h1 := le4 _ hu
              obtain ⟨z, hz, rfl⟩ := List.mem_map.mp hv
              have h2 := (I.oM z (List.mem_of_mem_take hz)).2.1
              omega
          refine ⟨_, rfl, _, rfl, e, .ref wS, rfl, sget (.inr ⟨od, ez7⟩) I.hM hmem rfl, _, rfl, _, rfl, d, _, rfl, DPut.k (k := .inr (encS sh)) ed7 (by rw [SDict_len]; exact reach_len hnd hR O.n10), ?_⟩
          refine ⟨_, _, _, rfl, fun b o h => ?_, ?_, ?_, fun y hy => (oL7 y hy).upd ed7 (I.oL y hy).2.2.2.1, fun y hy => (oM7 y hy).upd ed7 (I.oM y hy).2.2.2.2.1⟩
          · rw [upd_ne (ne_of_none h hd)]
            exact s7 _ _ h
          · rw [upd_ne nde.symm]
            exact ez7
          · rw [upd_same, SDict_put hnin, et, List.append_assoc]
        · obtain ⟨u6, u7, u8, rfl, s7, ez7, ed7, oL7, oM7⟩ := pv
          rw [SDict_len, List.take_length] at ed7
          have kU := Keep.unlk (o0 := .dK (SDict V.ref M)) ez7 (.inl rfl) trivial
          refine ⟨ez7, _, rfl, e, _, rfl, upd_same, fun lq hlq => ?_⟩
          have ek : ((SDict V.ref M).map fun kv => kV kv.1) = stgV (M.map (·.1)) := by
            unfold SDict stgV
            rw [List.map_map, List.map_map]
            rfl
          rw [ek]
          have sq := same_new hlq (.lst (stgV (M.map (·.1))))
          have kA := kU.trans (same_keep sq)
          have dU : upd H7 e (.dK (SDict V.ref M)) d = some (.dK (SDict V.ref (L ++ M))) := by rw [upd_ne nde]; exact ed7
          refine ⟨lq, L ++ M, M.map (·.1), _, _, _, _, _, rfl, fun b o h => ?_, sq _ _ dU, ?_, fun y hy => ?_, upd_same, fun s hs ht => ?_, fun s hs => ?_, fun s => ⟨fun hs => ?_, fun hs => ?_⟩⟩
          · refine sq _ _ ?_
            rw [upd_ne (ne_of_none h h0e)]
            exact s7 _ _ h
          · rw [List.map_append]
            refine List.nodup_append.mpr ⟨I.hL, I.hM, ?_⟩
            intro u hu v hv euv
            subst euv
            have h1 := le4 _ hu
            obtain ⟨z, hz, rfl⟩ := List.mem_map.mp hv
            have h2 := (I.oM z hz).2.1
            omega
          · rcases List.mem_append.mp hy with z | z
            · exact ⟨(I.oL y z).1, (oL7 y z).keep kA, (I.oL y z).2.2.1, (I.oL y z).2.2.2.1⟩
            · exact ⟨(I.oM y z).1, (oM7 y z).keep kA, (I.oM y z).2.2.2.1, (I.oM y z).2.2.2.2.1⟩
          · rw [List.map_append]
            rcases Nat.lt_or_ge k (told s) with h | h
            · refine List.mem_append_right _ ?_
              obtain ⟨s', p, b, r1, t1, p1, rfl⟩ := hs.back (show told s = k + 1 by omega)
              exact hin s' ((hW s').mpr ⟨r1, t1⟩) p p1 b
            · exact List.mem_append_left _ (in4 s hs h)
          · rw [List.map_append] at hs
            rcases List.mem_append.mp hs with z | z
            · have := le4 _ z
              omega
            · obtain ⟨y, hy, rfl⟩ := List.mem_map.mp z
              have := (I.oM y hy).2.1
              omega
          · obtain ⟨y, hy, rfl⟩ := List.mem_map.mp hs
            exact ⟨(I.oM y hy).1, (I.oM y hy).2.1⟩
          · obtain ⟨s', p, b, r1, t1, p1, rfl⟩ := hs.1.back hs.2
            exact hin s' ((hW s').mpr ⟨r1, t1⟩) p p1 b
    · obtain ⟨hq, L, W, v4, v5, v6, v7, v8, rfl, s4, e4, nd4, ok4, hw4, in4, le4, hW⟩ := pv
      exact ⟨_, rfl, q _ d L s4 hd ⟨.inl e4, nd4, fun y hy => ⟨(ok4 y hy).1, (ok4 y hy).2.1⟩, fun s hs => in4 s hs (by have := told_le s; rw [hs.len] at this; exact this)⟩ fun y hy => (ok4 y hy).2.2.1⟩
end
end Lik
namespace Lik
open PySem PySem.Spec PyProof.Rows L2
/-! ### the law's look at an entry and at a table -/
def spLEntry (K : PySem.W.Frag) : Sp := fun vs H Q _ => ∃ (tp w wd : Addr) (k : Nat) (g : Nat → Bool) (g2 : Nat → V) (l : List Nat), vs = [.ref tp, .ref w] ∧ H tp = some (.tup [.int (k : Nat), .ref wd]) ∧ Rd H wd (.dK (ND (fun p => .str (sgS (g p))) l)) ∧ Rd H w (.dK (ND g2 l)) ∧ l.length ≤ 1000 ∧ l.Nodup ∧
  ∀ H', Same H H' → Q (.bl true) H'
theorem sc37 : FnScope ["_law_thing", "_law_ways_here", "_law_at"] ["_law_thing", "_law_ways_here"] (defScope (top 37)) := ⟨rfl, rfl, rfl, by decide +kernel, rfl, by decide +kernel, by decide +kernel⟩
theorem all_false {α : Type} (l : List α) : (l.map fun _ => false).any id = false := by simp
theorem ND_key {g : Nat → V} {l : List Nat} {i : Nat} {k : Key} {v : V} (h : (ND g l)[i]? = some (k, v)) : ∃ p, l[i]? = some p ∧ k = .inl (p : Nat) ∧ v = g p := by
  unfold ND at h
  rw [List.getElem?_map] at h
  cases e : l[i]? with
  | none =>
    rw [e] at h
    cases h
  | some q =>
    rw [e] at h
    cases h
    exact ⟨q, rfl, rfl, rfl⟩
theorem nget {g : Nat → V} {l : List Nat} {p : Nat} {v : V} {H : Hp} {d : Addr} (hd : Rd H d (.dK (ND g l))) (nd : l.Nodup) (m : p ∈ l) (hv : g p = v) : DGet H d (.int (p : Nat)) (some v) :=
  .inl ⟨_, .inl (p : Nat), hd, rfl, by rw [ND_val nd m, hv]⟩
/-- the tuples stay as they are, too -/
structure Keep2 (H H' : Hp) : Prop where
  k : Keep H H'
  t : ∀ a xs, H a = some (.tup xs) → H' a = some (.tup xs)
theorem Keep2.same {H H' : Hp} (s : Same H H') : Keep2 H H' := ⟨same_keep s, fun a xs h => s _ _ h⟩
theorem Keep2.trans {H H1 H2 : Hp} (a : Keep2 H H1) (b : Keep2 H1 H2) : Keep2 H H2 := ⟨a.k.trans b.k, fun c xs h => b.t c xs (a.t c xs h)⟩
theorem nlk_tup {H : Hp} {d : Addr} {u o0 : HO} (h : H d = some o0) (ho : o0 = u ∨ ∃ o, o0 = .frz o u) (mu : Mut (some u)) {a : Addr} {xs : List V} (ha : H a = some (.tup xs)) : a ≠ d := fun e => by
  rw [e, h] at ha
  have e2 := Option.some.inj ha
  rcases ho with rfl | ⟨o, rfl⟩
  · rw [e2] at mu
    exact mu
  · cases e2
theorem Keep2.lkr {H : Hp} {d : Addr} {u o0 : HO} (od : Obj) (h : H d = some o0) (ho : o0 = u ∨ ∃ o, o0 = .frz o u) (mu : Mut (some u)) : Keep2 H (upd H d (.frz od u)) :=
  ⟨Keep.lkr od h ho mu, fun a xs ha => by rw [upd_ne (nlk_tup h ho mu ha)]; exact ha⟩
theorem Keep2.unlk {H : Hp} {d : Addr} {u o0 : HO} {od : Obj} (h : H d = some (.frz od u)) (ho : o0 = u ∨ ∃ o, o0 = .frz o u) (mu : Mut (some u)) : Keep2 H (upd H d o0) :=
  ⟨Keep.unlk h ho mu, fun a xs ha => by rw [upd_ne (nlk_tup h (.inr ⟨od, rfl⟩) mu ha)]; exact ha⟩
section
variable {P : Program} {w : World} {K : PySem.W.Frag} {mg : Str → Option Value} {base : Heap}
theorem c_lentry (T : Txt K mg) : CalL P w K mg base 1 "_law_is_entry" (spLEntry K) := by
  refine mkCal T (j := 24) (i := 37) rfl rfl (fun _ _ _ _ _ _ us hl => match us, hl with | [_, _], _ => rfl) sc37 (fun vs H Q E h => ?_) (fun f cdv A outer s H vs Q E hr h => ?_)
  · obtain ⟨_, _, _, _, _, _, _, rfl, _⟩ := h
    rfl
  · obtain ⟨tp, wy, wd, k, g, g2, l, rfl, ht, hw, hy, hl, hnd, q⟩ := h
    have hu := hu_of hr
    refine ⟨_, pss_cons (ps_if (PW.pt (pw_or (pt_not (pt_val (pe_isi K rfl T.isi rfl T.tupleB bt_tuple (pv 0)))) (pw_or (pt_cmpR op_ne (pe_callB (call_lenK K) rfl T.lenB bt_len (pa_cons (pv 0) pa_nil)) pe_int (nomark _))
        (pw_or1 (pt_not (pt_val (pe_isi K rfl T.isi rfl T.dictB bt_dict (pe_ix (ix_tupK K) (pv 0) pe_int (fun _ _ => rfl))))))))) (pss_one (ps_ret pe_bl)) pss_nil)
      (pss_cons (ps_if (PW.pt (pw_or (pt_not (pt_val (pe_isi K rfl T.isi rfl T.intB bt_int (pe_ix (ix_tupK K) (pv 0) pe_int (fun _ _ => rfl))))) (pw_or (pt_val (pe_isi K rfl T.isi rfl T.boolB bt_bool (pe_ix (ix_tupK K) (pv 0) pe_int (fun _ _ => rfl))))
        (pw_or (pt_cmpR op_lt (pe_ix (ix_tupK K) (pv 0) pe_int (fun _ _ => rfl)) pe_int (nomark _)) (pw_or1 (pt_cmpR op_ne (pe_callB call_lenR rfl T.lenB bt_len (pa_cons (pe_ix (ix_tupK K) (pv 0) pe_int (fun _ _ => rfl)) pa_nil)) (pe_callB call_lenR rfl T.lenB bt_len (pa_cons (pv 1) pa_nil)) (nomark _))))))) (pss_one (ps_ret pe_bl)) pss_nil)
      (pss_cons (ps_if (pt_val (pe_callB (cr_anyK K) rfl T.anyB bt_any (pa_cons (pe_lkr (pe_lc (own := [("_law_at", 2)]) (g := gName 2) (tt := tYes) rfl sc37.nd (pi_keys (pe_ix (ix_tupK K) (pv 0) pe_int (fun _ _ => rfl))) (blkOk_by (N := ["_law_thing", "_law_ways_here", "_law_at"]) (sc := defScope (top 37)) (by decide +kernel))
        (fun _ _ _ _ _ => pg_name (i := 2) sc37.nd rfl (Or.inl rfl)) (fun _ _ _ _ _ => pts_nil) (fun _ _ _ _ _ => pe_isi K rfl T.isi rfl T.boolB bt_bool (pv 2)))) pa_nil))) (pss_one (ps_ret pe_bl)) pss_nil)
      (pss_one (ps_ret (pe_callB (cr_allK K) rfl T.allB bt_all (pa_cons (pe_lkr (pe_lc (own := [("_law_at", 2)]) (g := gName 2) (tt := tYes) rfl sc37.nd (pi_keys (pv 1)) (blkOk_by (N := ["_law_thing", "_law_ways_here", "_law_at"]) (sc := defScope (top 37)) (by decide +kernel))
        (fun _ _ _ _ _ => pg_name (i := 2) sc37.nd rfl (Or.inl rfl)) (fun _ _ _ _ _ => pts_nil)
        (fun _ _ _ _ _ => pe_and (pe_cmp (pc_din hu (pv 2) (pe_ix (ix_tupK K) (pv 0) pe_int (fun _ _ => rfl))) rfl) (pe_one (pe_cmpR (op_inK K) (pe_dget hu (pe_ix (ix_tupK K) (pv 0) pe_int (fun _ _ => rfl)) (pv 2) (fun _ _ => rfl)) (pe_tup (pa_cons pe_str (pa_cons pe_str pa_nil))) rfl))))) pa_nil)))))), ?_⟩
    have a0 : atI [V.int (k : Nat), V.ref wd] 0 = some (.int (k : Nat)) := at_of (j := 0) rfl rfl
    have a1 : atI [V.int (k : Nat), V.ref wd] 1 = some (.ref wd) := at_of (j := 1) rfl rfl
    refine ⟨_, rfl, _, _, _, _, true, rfl, .ty _, .base (.tup ht), kit_ty (by decide +kernel), true, rfl, iteF ?_⟩
    refine ⟨_, rfl, _, 2, rfl, .inr ⟨_, .inl (.inl ht), rfl⟩, rfl, _, rfl, iteF ?_⟩
    refine ⟨_, rfl, tp, _, _, _, rfl, rfl, .inl (.inl ht), a1, _, _, _, _, true, rfl, .ty _, ty_dict hw, kit_ty (by decide +kernel), true, rfl, iteF ?_⟩
    refine ⟨_, rfl, tp, _, _, _, rfl, rfl, .inl (.inl ht), a0, _, _, _, _, true, rfl, .ty _, .base (.int _), kit_ty (by decide +kernel), true, rfl, iteF ?_⟩
    refine ⟨_, rfl, tp, _, _, _, rfl, rfl, .inl (.inl ht), a0, _, _, _, _, false, rfl, .ty _, .base (.int _), kit_ty (by decide +kernel), false, rfl, iteF ?_⟩
    have en : ¬ decide ((k : Int) < 0) = true := fun z => by
      have := of_decide_eq_true z
      omega
    refine ⟨_, rfl, tp, _, _, _, rfl, rfl, .inl (.inl ht), a0, _, _, rfl, rfl, _, rfl, ite2 (fun c => absurd c en) (fun _ => ?_)⟩
    refine ⟨_, rfl, tp, _, _, _, rfl, rfl, .inl (.inl ht), a1, wd, _, rfl, hw, _, rfl, wy, _, rfl, hy, rfl, _, rfl, iteNS (by rw [ND_len, ND_len]) ?_⟩
    -- no key is a bool
    obtain ⟨o0, h0, ho⟩ := rd_lock hw
    refine ⟨wd, _, o0, h0, ho, trivial, fun od => ?_⟩
    have kp := Keep2.lkr od h0 ho trivial
    have back : ∀ H', Same (upd H wd (.frz od (.dK (ND (fun p => .str (sgS (g p))) l)))) H' → Same H (upd H' wd o0) := fun H' s' => same_unlk h0 s'
    generalize hHL : upd H wd (.frz od (.dK (ND (fun p => .str (sgS (g p))) l))) = HL at kp back
    have ez : HL wd = some (.frz od (.dK (ND (fun p => .str (sgS (g p))) l))) := by rw [← hHL, upd_same]
    refine ⟨_, rfl, tp, _, _, _, rfl, rfl, .inl (.inl (kp.t _ _ ht)), a1, wd, od, rfl, .inl ⟨_, ez, fun D hD => lc_it walk_keys (PvF HL D l fun _ => [V.bl false]) (PvF.zero hD) (fun i H2 _ pv => pv.1 _ _ ez) (fun i x H2 H3 hi pv y => ?_) (fun H2 pv => ?_)⟩⟩
    · obtain ⟨rfl, k1, v, hp, rfl⟩ := y
      obtain ⟨p, hpe, rfl, rfl⟩ := ND_key hp
      refine ⟨rfl, _, rfl, _, _, _, _, false, rfl, .ty _, .base (.int _), kit_ty (by decide +kernel), ?_⟩
      exact pv.add hD (Same.refl _) (fun _ => Nat.le_refl 1) (small10 hl) hpe rfl
    have e := pv.done (ND_len _ _)
    have nD : D ≠ wd := fun e1 => by rw [e1, ez] at hD; cases hD
    refine ⟨pv.1 _ _ ez, D, l.map fun _ => false, rfl, SqL.of (by rw [upd_ne nD, e, flat_map, List.map_map]; rfl), _, rfl, ?_⟩
    rw [all_false]
    refine iteF ?_
    have sA := back _ pv.1
    have ht2 := sA _ _ ht
    have hw2 := same_rd sA hw
    have hy2 := same_rd sA hy
    generalize upd H2 wd o0 = HA at sA ht2 hw2 hy2
    clear pv e
    -- all keys of the ways are there
    obtain ⟨p0, g0, go⟩ := rd_lock hy2
    refine ⟨wy, _, p0, g0, go, trivial, fun od2 => ?_⟩
    have kp2 := Keep2.lkr od2 g0 go trivial
    have back2 : ∀ H', Same (upd HA wy (.frz od2 (.dK (ND g2 l)))) H' → Same HA (upd H' wy p0) := fun H' s' => same_unlk g0 s'
    generalize hHM : upd HA wy (.frz od2 (.dK (ND g2 l))) = HM at kp2 back2
    have ez2 : HM wy = some (.frz od2 (.dK (ND g2 l))) := by rw [← hHM, upd_same]
    have ht3 := kp2.t _ _ ht2
    have hw3 := kp2.k.dK hw2
    refine ⟨_, rfl, wy, od2, rfl, .inl ⟨_, ez2, fun D2 hD2 => lc_it walk_keys (PvF HM D2 l fun _ => [V.bl true]) (PvF.zero hD2) (fun i H2 _ pv => pv.1 _ _ ez2) (fun i x H2 H3 hi pv y => ?_) (fun H2 pv => ?_)⟩⟩
    · obtain ⟨rfl, k1, v, hp, rfl⟩ := y
      obtain ⟨p, hpe, rfl, rfl⟩ := ND_key hp
      have hm := List.mem_of_getElem? hpe
      refine ⟨rfl, _, rfl, _, rfl, tp, _, _, _, rfl, rfl, .inl (.inl (pv.1 _ _ ht3)), a1, wd, some (.str (sgS (g p))), rfl, nget (same_rd pv.1 hw3) hnd hm rfl, true, rfl, iteT ?_⟩
      refine ⟨_, rfl, tp, _, _, _, rfl, rfl, .inl (.inl (pv.1 _ _ ht3)), a1, _, rfl, wd, .str (sgS (g p)), rfl, nget (same_rd pv.1 hw3) hnd hm rfl, by show 2 ≤ sizeLine; decide, fun tq htq => ?_⟩
      refine ⟨tq, _, rfl, .inr (SqT.of upd_same), rfl, rfl, ?_⟩
      rw [lit0, lit1, if_neg (by decide : ¬ (false = true)), in_signs]
      exact pv.add hD2 (same_new htq _) (fun _ => Nat.le_refl 1) (small10 hl) hpe rfl
    · have e := pv.done (ND_len _ _)
      have nD : D2 ≠ wy := fun e1 => by rw [e1, ez2] at hD2; cases hD2
      refine ⟨pv.1 _ _ ez2, D2, l.map fun _ => true, rfl, SqL.of (by rw [upd_ne nD, e, flat_map, List.map_map]; rfl), ?_⟩
      rw [all_true]
      exact q _ (sA.trans (back2 _ pv.1))
/-- a table as the law reads it -/
structure Tab (H : Hp) (n : Nat) (R : List Row) (more : Nat) (d : Addr) (L : List (Stg × Addr × Addr)) : Prop where
  hd : Rd H d (.dK (SDict fT L))
  nd : (L.map (·.1)).Nodup
  ok : ∀ e ∈ L, Reach n R e.1 ∧ H e.2.1 = some (.tup [.int ((D n (rowsOf R e.1) + more : Nat) : Int), .ref e.2.2]) ∧ Rd H e.2.2 (.dK (wordsD n (rowsOf R e.1)))
  full : Full n R L
theorem Tab.keep {H H' : Hp} {n : Nat} {R : List Row} {more : Nat} {d : Addr} {L : List (Stg × Addr × Addr)} (k : Keep2 H H') (h : Tab H n R more d L) : Tab H' n R more d L :=
  ⟨k.k.dK h.hd, h.nd, fun e he => ⟨(h.ok e he).1, k.t _ _ (h.ok e he).2.1, k.k.dK (h.ok e he).2.2⟩, h.full⟩
def bi (b : Bool) : Int := if b = true then 1 else 0
theorem bi_not (b : Bool) : 1 - bi b = bi (!b) := by cases b <;> rfl
theorem int_sg (b : Bool) : PySem.intText? (sgS b) = some (bi b) := by cases b <;> decide +kernel
theorem way_pick {H : Hp} {s : Stg} {p : Nat} {S : List Row} {la t0 t1 r0 r1 : Addr} (h : WayAt H s p S la t0 t1 r0 r1) (b : Bool) : ∃ tb rb, atI [V.ref t0, V.ref t1] (bi b) = some (.ref tb) ∧ Rd H tb (.tup [.str (encS (s.set p (some b))), .ref rb]) := by
  cases b
  · exact ⟨t0, r0, at_of (j := 0) rfl rfl, h.t0⟩
  · exact ⟨t1, r1, at_of (j := 1) rfl rfl, h.t1⟩
theorem Std.len {H H' : Hp} {n : Nat} {R : List Row} {d d' : Addr} {more : Nat} {L : List (Stg × Addr)} {M : List (Stg × Addr × Addr)} (a : Std H n R d L) (b : Tab H' n R more d' M) : M.length = L.length :=
  full_len b.nd a.nd b.full a.full (fun e he => (b.ok e he).1) fun e he => (a.ok e he).1
def spLTab (n : Nat) (R : List Row) : Sp := fun vs H Q _ => ∃ (sd td : Addr) (L : List (Stg × Addr)) (M : List (Stg × Addr × Addr)) (more : Nat), vs = [.ref sd, .ref td] ∧ Std H n R sd L ∧ Tab H n R more td M ∧ ∀ H', Same H H' → Q (.bl true) H'
theorem sc38 : FnScope ["_law_standings", "_law_table", "_law_standing", "_law_number", "_law_words", "_law_at", "_law_sure", "_law_slip"] ["_law_standings", "_law_table"] (defScope (top 38)) := ⟨rfl, rfl, rfl, by decide +kernel, rfl, by decide +kernel, by decide +kernel⟩
theorem c_ltab (T : Txt K mg) {n : Nat} {R : List Row} (O : RowsOk n R) : CalL P w K mg base 2 "_law_is_table" (spLTab n R) := by
  have cN : CalL P w K mg base 1 "_law_is_entry" (spLEntry K) := c_lentry T
  refine mkCal T (j := 25) (i := 38) rfl rfl (fun _ _ _ _ _ _ us hl => match us, hl with | [_, _], _ => rfl) sc38 (fun vs H Q E h => ?_) (fun f cdv A outer s H vs Q E hr h => ?_)
  · obtain ⟨_, _, _, _, _, rfl, _⟩ := h
    rfl
  · obtain ⟨sd, td, L, M, more, rfl, hS, hT, q⟩ := h
    have hu := hu_of hr
    refine ⟨_, pss_cons (ps_if (PW.pt (pw_or (pt_not (pt_val (pe_isi K rfl T.isi rfl T.dictB bt_dict (pv 1)))) (pw_or1 (pt_cmpR op_ne (pe_callB call_lenR rfl T.lenB bt_len (pa_cons (pv 1) pa_nil)) (pe_callB call_lenR rfl T.lenB bt_len (pa_cons (pv 0) pa_nil)) (nomark _))))) (pss_one (ps_ret pe_bl)) pss_nil)
      (pss_cons (ps_lkr (ps_for PassesOwn.never rfl (pi_keys (pv 0)) (pg_name (i := 2) sc38.nd rfl (Or.inl rfl))
        (pss_one (ps_if (PW.pt (pw_or (pt_cmp (pc_dnotin hu (pv 2) (pv 1))) (pw_or1 (pt_not (pt_val (pe_f cN hr (by decide) rfl (pa_cons (pe_dget hu (pv 1) (pv 2) (fun _ _ => rfl)) (pa_cons (pe_dget hu (pv 0) (pv 2) (fun _ _ => rfl)) pa_nil)))))))) (pss_one (ps_ret pe_bl)) pss_nil))))
      (pss_cons (ps_lkr (ps_for PassesOwn.never rfl (pi_keys (pv 0)) (pg_name (i := 2) sc38.nd rfl (Or.inl rfl))
        (pss_cons (ps_asg (pe_dget hu (pv 1) (pv 2) (fun _ _ => rfl)) (pg_tup rfl (pgs_cons (pg_name (i := 3) sc38.nd rfl (Or.inl rfl)) (pgs_cons (pg_name (i := 4) sc38.nd rfl (Or.inl rfl)) pgs_nil))))
        (pss_one (ps_lkr (ps_for PassesOwn.never rfl (pi_keys (pv 4)) (pg_name (i := 5) sc38.nd rfl (Or.inl rfl))
          (pss_cons (ps_set (i := 6) sc38.nd rfl (Or.inl rfl) (pe_ix (ix_tupK K) (pe_dget hu (pv 1) (pe_ix (ix_tupK K) (pe_ix (ix_listK K) (pe_dget hu (pe_dget hu (pv 0) (pv 2) (fun _ _ => rfl)) (pv 5) (fun _ _ => rfl)) (pe_callTy call_int_str rfl T.intB bt_int (pa_cons (pe_dget hu (pv 4) (pv 5) (fun _ _ => rfl)) pa_nil)) (fun _ _ => rfl)) pe_int (fun _ _ => rfl)) (fun _ _ => rfl)) pe_int (fun _ _ => rfl)))
          (pss_cons (ps_set (i := 7) sc38.nd rfl (Or.inl rfl) (pe_ix (ix_tupK K) (pe_dget hu (pv 1) (pe_ix (ix_tupK K) (pe_ix (ix_listK K) (pe_dget hu (pe_dget hu (pv 0) (pv 2) (fun _ _ => rfl)) (pv 5) (fun _ _ => rfl)) (pe_op op_sub pe_int (pe_callTy call_int_str rfl T.intB bt_int (pa_cons (pe_dget hu (pv 4) (pv 5) (fun _ _ => rfl)) pa_nil))) (fun _ _ => rfl)) pe_int (fun _ _ => rfl)) (fun _ _ => rfl)) pe_int (fun _ _ => rfl)))
          (pss_one (ps_if (PW.pt (pw_or (pt_cmpR op_gt (pv 6) (pv 3) (nomark _)) (pw_or1 (pt_cmpR op_ge (pv 7) (pv 3) (nomark _))))) (pss_one (ps_ret pe_bl)) pss_nil))))))))))
      (pss_one (ps_ret pe_bl)))), ?_⟩
    have hlen := hS.len hT
    have inM : ∀ x, Reach n R x → ∃ y, (x, y) ∈ M := fun x hx => key_mem (hT.full x hx)
    refine ⟨_, rfl, _, _, _, _, true, rfl, .ty _, ty_dict hT.hd, kit_ty (by decide +kernel), true, rfl, iteF ?_⟩
    refine ⟨_, rfl, td, _, rfl, hT.hd, _, rfl, sd, _, rfl, hS.hd, rfl, _, rfl, iteNS (by rw [SDict_len, SDict_len, hlen]) ?_⟩
    -- the entries
    obtain ⟨o0, h0, ho⟩ := rd_lock hS.hd
    refine ⟨sd, _, o0, h0, ho, trivial, fun od => ?_⟩
    have kp := Keep2.lkr od h0 ho trivial
    have back : ∀ H', Same (upd H sd (.frz od (.dK (SDict V.ref L)))) H' → Same H (upd H' sd o0) := fun H' s' => same_unlk h0 s'
    generalize hHL : upd H sd (.frz od (.dK (SDict V.ref L))) = HL at kp back
    have ez : HL sd = some (.frz od (.dK (SDict V.ref L))) := by rw [← hHL, upd_same]
    refine ⟨_, rfl, sd, od, rfl, .inl ⟨_, ez, for_it walk_keys (fun i σ H2 => ∃ (v2 v3 v4 v5 v6 v7 : Option V), σ = [some (.ref sd), some (.ref td), v2, v3, v4, v5, v6, v7] ∧ Same HL H2)
      ⟨_, _, _, _, _, _, rfl, Same.refl _⟩ (fun i σ H2 _ ⟨_, _, _, _, _, _, _, h⟩ => h _ _ ez) (fun i x σ H2 H3 hi pv y => ?_) (fun σ H2 pv => ?_)⟩⟩
    · obtain ⟨rfl, k1, v1, hp, rfl⟩ := y
      obtain ⟨⟨sh, wy⟩, he, rfl, rfl⟩ := SDict_at hp
      obtain ⟨v2, v3, v4, v5, v6, v7, rfl, s2⟩ := pv
      have hmem := List.mem_of_getElem? he
      have k3 := kp.trans (Keep2.same s2)
      have hS3 := hS.keep k3.k
      have hT3 := hT.keep k3
      obtain ⟨rS, la, g1, _⟩ := hS3.ok _ hmem
      obtain ⟨⟨tp, wd⟩, hxe⟩ := inM sh rS
      obtain ⟨_, e1, e2⟩ := hT3.ok _ hxe
      refine ⟨_, rfl, _, rfl, td, some (.ref tp), rfl, sget hT3.hd hT3.nd hxe rfl, _, rfl, iteF ?_⟩
      refine ⟨_, rfl, _, rfl, td, .ref tp, rfl, sget hT3.hd hT3.nd hxe rfl, _, rfl, _, rfl, sd, .ref wy, rfl, sget hS3.hd hS3.nd hmem rfl, ?_⟩
      refine ⟨tp, wy, wd, Lik.D n (rowsOf R sh) + more, wordOf n (rowsOf R sh), _, opens n (rowsOf R sh), rfl, e1, e2, g1, by have := opens_len n (rowsOf R sh); have := O.n10; omega, opens_nodup _ _, fun H6 s6 => ⟨true, rfl, iteF ?_⟩⟩
      exact ⟨_, _, _, _, _, _, rfl, s2.trans s6⟩
    obtain ⟨v2, v3, v4, v5, v6, v7, rfl, s2⟩ := pv
    refine ⟨s2 _ _ ez, ?_⟩
    have sA := back _ s2
    have hSA := hS.keep (same_keep sA)
    have hTA := hT.keep (Keep2.same sA)
    generalize upd H2 sd o0 = HA at sA hSA hTA
    -- the numbers
    obtain ⟨p0, g0, go⟩ := rd_lock hSA.hd
    refine ⟨sd, _, p0, g0, go, trivial, fun od2 => ?_⟩
    have kp2 := Keep2.lkr od2 g0 go trivial
    have back2 : ∀ H', Same (upd HA sd (.frz od2 (.dK (SDict V.ref L)))) H' → Same HA (upd H' sd p0) := fun H' s' => same_unlk g0 s'
    generalize hHM : upd HA sd (.frz od2 (.dK (SDict V.ref L))) = HM at kp2 back2
    have ez2 : HM sd = some (.frz od2 (.dK (SDict V.ref L))) := by rw [← hHM, upd_same]
    refine ⟨_, rfl, sd, od2, rfl, .inl ⟨_, ez2, for_it walk_keys (fun i σ H2 => ∃ (v2 v3 v4 v5 v6 v7 : Option V), σ = [some (.ref sd), some (.ref td), v2, v3, v4, v5, v6, v7] ∧ Same HM H2)
      ⟨_, _, _, _, _, _, rfl, Same.refl _⟩ (fun i σ H2 _ ⟨_, _, _, _, _, _, _, h⟩ => h _ _ ez2) (fun i x σ H2 H3 hi pv y => ?_) (fun σ H2 pv => ?_)⟩⟩
    · obtain ⟨rfl, k1, v1, hp, rfl⟩ := y
      obtain ⟨⟨sh, wy⟩, he, rfl, rfl⟩ := SDict_at hp
      obtain ⟨v2, v3, v4, v5, v6, v7, rfl, s2⟩ := pv
      have hmem := List.mem_of_getElem? he
      have k3 := kp2.trans (Keep2.same s2)
      have hS3 := hSA.keep k3.k
      have hT3 := hTA.keep k3
      obtain ⟨rS, _⟩ := hS3.ok _ hmem
      obtain ⟨⟨tp, wd⟩, hxe⟩ := inM sh rS
      obtain ⟨_, e1, e2⟩ := hT3.ok _ hxe
      refine ⟨_, rfl, _, rfl, td, .ref tp, rfl, sget hT3.hd hT3.nd hxe rfl, tp, _, rfl, SqT.of e1, rfl, _, _, rfl, _, _, rfl, rfl, ?_⟩
      -- for at in words
      obtain ⟨q0, j0, jo⟩ := rd_lock e2
      refine ⟨wd, _, q0, j0, jo, trivial, fun od3 => ?_⟩
      have kp3 := Keep2.lkr od3 j0 jo trivial
      have back3 : ∀ H', Same (upd H3 wd (.frz od3 (.dK (wordsD n (rowsOf R sh))))) H' → Same H3 (upd H' wd q0) := fun H' s' => same_unlk j0 s'
      generalize hHN : upd H3 wd (.frz od3 (.dK (wordsD n (rowsOf R sh)))) = HN at kp3 back3
      have ez3 : HN wd = some (.frz od3 (.dK (wordsD n (rowsOf R sh)))) := by rw [← hHN, upd_same]
      refine ⟨_, rfl, wd, od3, rfl, .inl ⟨_, ez3, for_it walk_keys (fun j σ H5 => ∃ (v5 v6 v7 : Option V), σ = [some (.ref sd), some (.ref td), some (.str (encS sh)), some (.int ((Lik.D n (rowsOf R sh) + more : Nat) : Int)), some (.ref wd), v5, v6, v7] ∧ Same HN H5)
        ⟨_, _, _, rfl, Same.refl _⟩ (fun j σ H5 _ ⟨_, _, _, _, h⟩ => h _ _ ez3) (fun j x σ H5 H6 hj pv y => ?_) (fun σ H5 pv => ?_)⟩⟩
      · obtain ⟨rfl, k1, v1, hp1, rfl⟩ := y
        obtain ⟨p, hpe, rfl, rfl⟩ := ND_key hp1
        have hpo := List.mem_of_getElem? hpe
        obtain ⟨v5, v6, v7, rfl, s5⟩ := pv
        have k6 := kp3.trans (Keep2.same s5)
        have hS6 := hS3.keep k6.k
        have hT6 := hT3.keep k6
        obtain ⟨_, la, gw, wyx⟩ := hS6.ok _ hmem
        obtain ⟨t0, t1, r0, r1, wp⟩ := wyx p hpo
        have ew := k6.k.dK e2
        have nod := opens_nodup n (rowsOf R sh)
        have one : ∀ b, ∃ tb rb tp' wd', atI [V.ref t0, V.ref t1] (bi b) = some (.ref tb) ∧ Rd H6 tb (.tup [.str (encS (sh.set p (some b))), .ref rb]) ∧ DGet H6 td (.str (encS (sh.set p (some b)))) (some (.ref tp')) ∧ H6 tp' = some (.tup [.int ((Lik.D n (side b p (rowsOf R sh)) + more : Nat) : Int), .ref wd']) := fun b => by
          obtain ⟨tb, rb, z1, z2⟩ := way_pick wp b
          have rN := Reach.step b rS hpo
          obtain ⟨⟨tp', wd'⟩, hy⟩ := inM _ rN
          obtain ⟨_, f1, _⟩ := hT6.ok _ hy
          rw [show (sh.set p (some b), (tp', wd')).fst = sh.set p (some b) from rfl, rS.rows hpo b] at f1
          exact ⟨tb, rb, tp', wd', z1, z2, sget hT6.hd hT6.nd hy rfl, f1⟩
        obtain ⟨tb, rb, tp1, wd1, z1, z2, z3, z4⟩ := one (wordOf n (rowsOf R sh) p)
        obtain ⟨ub, sb, tp2, wd2, y1, y2, y3, y4⟩ := one (!wordOf n (rowsOf R sh) p)
        refine ⟨_, rfl, _, rfl, _, rfl, sd, .ref wy, rfl, sget hS6.hd hS6.nd hmem rfl, _, rfl, wy, .ref (la p), rfl, nget gw nod hpo rfl, _, rfl, _, rfl, wd, _, rfl, nget ew nod hpo rfl, _, _, rfl, int_sg _, by show 1 ≤ 640; decide, la p, _, _, _, rfl, rfl, .inl wp.l, z1, tb, _, _, _, rfl, rfl, .inl z2, at_of (j := 0) rfl rfl, td, .ref tp1, rfl, z3, tp1, _, _, _, rfl, rfl, SqT.of z4, at_of (j := 0) rfl rfl, ?_⟩
        refine ⟨_, rfl, _, rfl, _, rfl, sd, .ref wy, rfl, sget hS6.hd hS6.nd hmem rfl, _, rfl, wy, .ref (la p), rfl, nget gw nod hpo rfl, _, rfl, _, rfl, wd, _, rfl, nget ew nod hpo rfl, _, _, rfl, int_sg _, by show 1 ≤ 640; decide, _, _, rfl, rfl, la p, _, _, _, rfl, rfl, .inl wp.l, by rw [bi_not]; exact y1, ub, _, _, _, rfl, rfl, .inl y2, at_of (j := 0) rfl rfl, td, .ref tp2, rfl, y3, tp2, _, _, _, rfl, rfl, SqT.of y4, at_of (j := 0) rfl rfl, ?_⟩
        have le1 := word_sure n (rowsOf R sh) p
        have le2 := word_slip hpo
        refine ⟨_, rfl, _, rfl, _, _, rfl, rfl, _, rfl, ite2 (fun c => absurd (of_decide_eq_true c) (by omega)) (fun _ => ?_)⟩
        refine ⟨_, rfl, _, rfl, _, _, rfl, rfl, _, rfl, ite2 (fun c => absurd (of_decide_eq_true c) (by omega)) (fun _ => ?_)⟩
        exact ⟨_, _, _, rfl, s5⟩
      · obtain ⟨v5, v6, v7, rfl, s5⟩ := pv
        exact ⟨s5 _ _ ez3, _, _, _, _, _, _, rfl, s2.trans (back3 _ s5)⟩
    · obtain ⟨v2, v3, v4, v5, v6, v7, rfl, s2⟩ := pv
      exact ⟨s2 _ _ ez2, q _ (sA.trans (back2 _ s2))⟩
end
end Lik
namespace Lik
open PySem PySem.Spec PyProof.Rows L2
/-! ### the most slips of a table, the least of all -/
def nv : Nat → V := fun x => .int (x : Nat)
def MemP (n : Nat) (R : List Row) (ok : Stg → Nat → Prop) (m : List (Stg × Nat)) : Prop := (m.map (·.1)).Nodup ∧ ∀ x ∈ m, Reach n R x.1 ∧ ok x.1 x.2
def putS (m : List (Stg × Nat)) (s : Stg) (r : Nat) : List (Stg × Nat) := if s ∈ m.map (·.1) then m.map (fun x => if x.1 = s then (x.1, r) else x) else m ++ [(s, r)]
theorem SDict_putS (m : List (Stg × Nat)) (s : Stg) (r : Nat) : putK (SDict nv m) (.inr (encS s)) (nv r) = SDict nv (putS m s r) := by
  unfold putS
  by_cases h : s ∈ m.map (·.1)
  · rw [if_pos h]
    obtain ⟨y, hy⟩ := key_mem h
    have a : ((SDict nv m).any fun kv => decide (kv.1 = (.inr (encS s) : Key))) = true := List.any_eq_true.mpr ⟨(.inr (encS s), nv y), List.mem_map.mpr ⟨_, hy, rfl⟩, decide_eq_true rfl⟩
    unfold putK
    rw [if_pos a]
    unfold SDict
    rw [List.map_map, List.map_map]
    refine List.map_congr_left fun x _ => ?_
    show (if (.inr (encS x.1) : Key) = .inr (encS s) then ((.inr (encS x.1) : Key), nv r) else (.inr (encS x.1), nv x.2)) = (.inr (encS (if x.1 = s then (x.1, r) else x).1), nv (if x.1 = s then (x.1, r) else x).2)
    by_cases c : x.1 = s
    · rw [if_pos (by rw [c]), if_pos c]
    · rw [if_neg (fun z => c (encS_inj (Sum.inr.inj z))), if_neg c]
  · rw [if_neg h]
    exact SDict_put (f := nv) h
theorem MemP.put {n : Nat} {R : List Row} {ok : Stg → Nat → Prop} {m : List (Stg × Nat)} {s : Stg} {r : Nat} (M : MemP n R ok m) (hs : Reach n R s) (hr : ok s r) : MemP n R ok (putS m s r) := by
  unfold putS
  by_cases h : s ∈ m.map (·.1)
  · rw [if_pos h]
    constructor
    · have : (m.map fun x => if x.1 = s then (x.1, r) else x).map (·.1) = m.map (·.1) := by
        rw [List.map_map]
        refine List.map_congr_left fun x _ => ?_
        show (if x.1 = s then (x.1, r) else x).1 = x.1
        split <;> rfl
      rw [this]
      exact M.1
    · intro x hx
      obtain ⟨q, hq, rfl⟩ := List.mem_map.mp hx
      by_cases c : q.1 = s
      · rw [if_pos c]
        exact ⟨by rw [c]; exact hs, by rw [c]; exact hr⟩
      · rw [if_neg c]
        exact M.2 q hq
  · rw [if_neg h]
    refine ⟨?_, fun x hx => ?_⟩
    · rw [List.map_append]
      exact nd_snoc M.1 h
    · rcases List.mem_append.mp hx with z | z
      · exact M.2 x z
      · rw [List.mem_singleton.mp z]
        exact ⟨hs, hr⟩
theorem MemP.len {n : Nat} {R : List Row} {ok : Stg → Nat → Prop} {m : List (Stg × Nat)} (M : MemP n R ok m) (hn : n ≤ 10) : m.length < sizeLine := reach_len M.1 (fun e he => (M.2 e he).1) hn
theorem Keep2.but {H0 H H' : Hp} {kn : Addr} (k : Keep2 H0 H) (b : But kn H H') (h0 : H0 kn = none) : Keep2 H0 H' := by
  refine ⟨fun a u mu r => ?_, fun a xs h => b _ _ (ne_of_none h h0) (k.t _ _ h)⟩
  have ne : a ≠ kn := fun e => by
    rw [e] at r
    rcases r with r | ⟨_, r⟩ <;> rw [h0] at r <;> cases r
  exact b.rd ne (k.k a u mu r)
theorem but_unlk {kn : Addr} {H H' : Hp} {d : Addr} {o0 o1 : HO} (h : H d = some o0) (s : But kn (upd H d o1) H') : But kn H (upd H' d o0) := fun b o nb q => by
  by_cases e : b = d
  · subst e
    rw [h] at q
    rw [upd_same]
    exact q
  · rw [upd_ne e]
    exact s b o nb (by rw [upd_ne e]; exact q)
def okMost (n : Nat) (R : List Row) (s : Stg) (r : Nat) : Prop := r ≤ D n (rowsOf R s)
def okLeast (n : Nat) (R : List Row) (s : Stg) (r : Nat) : Prop := r = D n (rowsOf R s)
def spMost (n : Nat) (R : List Row) (k : Nat) : Sp := fun vs H Q _ => ∃ (sd td kn : Addr) (s : Stg) (L : List (Stg × Addr)) (M : List (Stg × Addr × Addr)) (m : List (Stg × Nat)) (H0 : Hp), vs = [.ref sd, .ref td, .ref kn, .str (encS s)] ∧ H0 kn = none ∧ Keep2 H0 H ∧ Std H0 n R sd L ∧ Tab H0 n R 0 td M ∧
  H kn = some (.dK (SDict nv m)) ∧ MemP n R (okMost n R) m ∧ Reach n R s ∧ (rowsOf R s).length ≤ k ∧
  ∀ (H' : Hp) (m' : List (Stg × Nat)) (r : Nat), But kn H H' → H' kn = some (.dK (SDict nv m')) → MemP n R (okMost n R) m' → r ≤ D n (rowsOf R s) → Q (.int (r : Nat)) H'
def spLeast (n : Nat) (R : List Row) (k : Nat) : Sp := fun vs H Q _ => ∃ (sd kn : Addr) (s : Stg) (L : List (Stg × Addr)) (m : List (Stg × Nat)) (H0 : Hp), vs = [.ref sd, .ref kn, .str (encS s)] ∧ H0 kn = none ∧ Keep2 H0 H ∧ Std H0 n R sd L ∧
  H kn = some (.dK (SDict nv m)) ∧ MemP n R (okLeast n R) m ∧ Reach n R s ∧ (rowsOf R s).length ≤ k ∧
  ∀ (H' : Hp) (m' : List (Stg × Nat)), But kn H H' → H' kn = some (.dK (SDict nv m')) → MemP n R (okLeast n R) m' → Q (.int (D n (rowsOf R s) : Nat)) H'
theorem sc39 : FnScope ["_law_standings", "_law_table", "_law_known", "_law_standing", "_law_best", "_law_at", "_law_sign", "_law_slip"] ["_law_standings", "_law_table", "_law_known", "_law_standing"] (defScope (top 39)) := ⟨rfl, rfl, rfl, by decide +kernel, rfl, by decide +kernel, by decide +kernel⟩
theorem sc40 : FnScope ["_law_standings", "_law_known", "_law_standing", "_law_best", "_law_at", "_law_zero", "_law_one"] ["_law_standings", "_law_known", "_law_standing"] (defScope (top 40)) := ⟨rfl, rfl, rfl, by decide +kernel, rfl, by decide +kernel, by decide +kernel⟩
theorem at01 (b : Bool) : atI (("01" : String) : Str).cps.toList (bi b) = some (sgn b) := by
  rw [lit01]
  cases b <;> rfl
section
variable {P : Program} {w : World} {K : PySem.W.Frag} {mg : Str → Option Value} {base : Heap}
theorem c_most (T : Txt K mg) {n : Nat} {R : List Row} (O : RowsOk n R) : ∀ k : Nat, CalL P w K mg base (k + 1) "_law_most" (spMost n R k)
  | 0 => by
    refine mkCal T (j := 26) (i := 39) rfl rfl (fun _ _ _ _ _ _ us hl => match us, hl with | [_, _, _, _], _ => rfl) sc39 (fun vs H Q E h => ?_) (fun f cdv A outer s H vs Q E hr h => ?_)
    · obtain ⟨_, _, _, _, _, _, _, _, rfl, _⟩ := h
      rfl
    · obtain ⟨sd, td, kn, st, L, M, m, H0, rfl, h0k, k0, hS, hT, hk, hm, rS, hlen, q⟩ := h
      exact absurd (List.length_eq_zero_iff.mp (Nat.le_zero.mp hlen)) (rS.ne O.ne)
  | k + 1 => by
    have cS : CalL P w K mg base (k + 1) "_law_most" (spMost n R k) := c_most T O k
    refine mkCal T (j := 26) (i := 39) rfl rfl (fun _ _ _ _ _ _ us hl => match us, hl with | [_, _, _, _], _ => rfl) sc39 (fun vs H Q E h => ?_) (fun f cdv A outer s H vs Q E hr h => ?_)
    · obtain ⟨_, _, _, _, _, _, _, _, rfl, _⟩ := h
      rfl
    · obtain ⟨sd, td, kn, st, L, M, m, H0, rfl, h0k, k0, hS, hT, hk, hm, rS, hlen, q⟩ := h
      have hu := hu_of hr
      refine ⟨_, pss_cons (ps_if (pt_cmp (pc_din hu (pv 3) (pv 2))) (pss_one (ps_ret (pe_dget hu (pv 2) (pv 3) (fun _ _ => rfl)))) pss_nil)
        (pss_cons (ps_set (i := 4) sc39.nd rfl (Or.inl rfl) pe_int)
        (pss_cons (ps_lkr (ps_for PassesOwn.never rfl (pi_keys (pe_dget hu (pv 0) (pv 3) (fun _ _ => rfl))) (pg_name (i := 5) sc39.nd rfl (Or.inl rfl))
          (pss_one (ps_for PassesOwn.never rfl (pi_listK K (pe_lst (pa_cons pe_int (pa_cons pe_int pa_nil)))) (pg_name (i := 6) sc39.nd rfl (Or.inl rfl))
            (pss_cons (ps_set (i := 7) sc39.nd rfl (Or.inl rfl) (pe_callTy call_int1 rfl T.intB bt_int (pa_cons (pe_cmpR op_ne (pe_ix ix_str pe_str (pv 6) (fun _ _ => rfl)) (pe_dget hu (pe_ix (ix_tupK K) (pe_dget hu (pv 1) (pv 3) (fun _ _ => rfl)) pe_int (fun _ _ => rfl)) (pv 5) (fun _ _ => rfl)) (nomark _)) pa_nil)))
            (pss_one (ps_set (i := 4) sc39.nd rfl (Or.inl rfl) (pe_callB (call_max2 rfl) rfl T.maxB bt_max (pa_cons (pv 4) (pa_cons (pe_op op_add (pv 7) (pe_f cS hr (by omega) rfl (pa_cons (pv 0) (pa_cons (pv 1) (pa_cons (pv 2) (pa_cons (pe_ix (ix_tupK K) (pe_ix (ix_listK K) (pe_dget hu (pe_dget hu (pv 0) (pv 3) (fun _ _ => rfl)) (pv 5) (fun _ _ => rfl)) (pv 6) (fun _ _ => rfl)) pe_int (fun _ _ => rfl)) pa_nil)))))) pa_nil))))))))))
        (pss_cons (ps_dput hu (pv 2) (pv 3) (pv 4) rfl)
        (pss_one (ps_ret (pv 4)))))), ?_⟩
      refine ⟨_, rfl, _, rfl, kn, _, rfl, DGet.k (k := .inr (encS st)) hk, _, rfl, ?_⟩
      by_cases hin : st ∈ m.map (·.1)
      · obtain ⟨r, hr2⟩ := key_mem hin
        rw [SDict_val hm.1 hr2]
        refine iteT ?_
        refine ⟨_, rfl, _, rfl, kn, nv r, rfl, sget (.inl hk) hm.1 hr2 rfl, ?_⟩
        exact q H m r (fun _ _ _ h => h) hk hm (hm.2 _ hr2).2
      rw [SDict_none hin]
      refine iteF ?_
      -- best = 0
      obtain ⟨wS, hwS⟩ := key_mem (hS.full st rS)
      obtain ⟨⟨tp, wd⟩, hxe⟩ := key_mem (hT.full st rS)
      obtain ⟨_, la, rdw0, wy0⟩ := hS.ok _ hwS
      have rdw := k0.k.dK rdw0
      obtain ⟨o0, h0, ho⟩ := rd_lock rdw
      have nwk : wS ≠ kn := fun e => by
        rw [e] at rdw0
        rcases rdw0 with r | ⟨_, r⟩ <;> rw [h0k] at r <;> cases r
      refine ⟨wS, _, o0, h0, ho, trivial, fun od => ?_⟩
      have kL := k0.trans (Keep2.lkr od h0 ho trivial)
      have back : ∀ H', But kn (upd H wS (.frz od (.dK (ND (fun p => .ref (la p)) (opens n (rowsOf R st)))))) H' → But kn H (upd H' wS o0) := fun H' b => but_unlk h0 b
      have hkL : upd H wS (.frz od (.dK (ND (fun p => .ref (la p)) (opens n (rowsOf R st))))) kn = some (.dK (SDict nv m)) := by rw [upd_ne nwk.symm]; exact hk
      generalize hHL : upd H wS (.frz od (.dK (ND (fun p => .ref (la p)) (opens n (rowsOf R st))))) = HL at kL back hkL
      have ez : HL wS = some (.frz od (.dK (ND (fun p => .ref (la p)) (opens n (rowsOf R st))))) := by rw [← hHL, upd_same]
      have nod := opens_nodup n (rowsOf R st)
      refine ⟨_, rfl, _, rfl, sd, .ref wS, rfl, sget (hS.keep kL.k).hd hS.nd hwS rfl, wS, od, rfl, .inl ⟨_, ez, for_it walk_keys (fun i σ H2 => ∃ (best : Nat) (m2 : List (Stg × Nat)) (v5 v6 v7 : Option V), σ = [some (.ref sd), some (.ref td), some (.ref kn), some (.str (encS st)), some (.int (best : Nat)), v5, v6, v7] ∧ But kn HL H2 ∧ H2 kn = some (.dK (SDict nv m2)) ∧ MemP n R (okMost n R) m2 ∧ best ≤ D n (rowsOf R st))
        ⟨0, m, _, _, _, rfl, fun _ _ _ h => h, hkL, hm, Nat.zero_le _⟩ (fun i σ H2 _ ⟨_, _, _, _, _, _, b, _⟩ => b _ _ nwk ez) (fun i x σ H2 H3 hi pv y => ?_) (fun σ H2 pv => ?_)⟩⟩
      · obtain ⟨rfl, k1, v1, hp1, rfl⟩ := y
        obtain ⟨p, hpe, rfl, rfl⟩ := ND_key hp1
        have hpo := List.mem_of_getElem? hpe
        obtain ⟨best, m2, v5, v6, v7, rfl, b2, hk2, hm2, hb⟩ := pv
        refine ⟨by show 2 ≤ sizeLine; decide, fun lq hlq => ?_⟩
        have sq := same_new hlq (.lst [.int 0, .int 1])
        refine ⟨lq, rfl, ⟨_, SqL.of upd_same⟩, for_it walk_list (fun j σ H4 => ∃ (best : Nat) (m2 : List (Stg × Nat)) (v6 v7 : Option V), σ = [some (.ref sd), some (.ref td), some (.ref kn), some (.str (encS st)), some (.int (best : Nat)), some (.int (p : Nat)), v6, v7] ∧ But kn HL H4 ∧ H4 kn = some (.dK (SDict nv m2)) ∧ MemP n R (okMost n R) m2 ∧ best ≤ D n (rowsOf R st) ∧ H4 lq = some (.lst [.int 0, .int 1]))
          ⟨best, m2, _, _, rfl, b2.trans (But.of sq), sq _ _ hk2, hm2, hb, upd_same⟩ (fun j σ H4 _ ⟨_, _, _, _, _, _, _, _, _, h⟩ => SqL.of h) (fun j x σ H4 H5 hj pv y => ?_) (fun σ H4 pv => ?_)⟩
        · obtain ⟨rfl, hx⟩ := y
          obtain ⟨b, rfl⟩ : ∃ b : Bool, x = .int (bi b) := by
            match j, hx with
            | 0, hx => cases hx; exact ⟨false, rfl⟩
            | 1, hx => cases hx; exact ⟨true, rfl⟩
            | j + 2, hx => cases hx
          obtain ⟨best, m2, v6, v7, rfl, b4, hk4, hm4, hb4, el⟩ := pv
          have k4 := kL.but b4 h0k
          have hS4 := hS.keep k4.k
          have hT4 := hT.keep k4
          obtain ⟨_, e1, e2⟩ := hT4.ok _ hxe
          have rdw4 := k4.k.dK rdw0
          obtain ⟨t0, t1, r0, r1, wp0⟩ := wy0 p hpo
          obtain ⟨tb, rb, z1, z2⟩ := way_pick (wp0.keep k4.k) b
          have rN := Reach.step b rS hpo
          have er := rS.rows hpo b
          have lt := side_lt (mem_opens.mp hpo).2 b
          -- slip
          refine ⟨_, rfl, _, _, sgn b, rfl, rfl, by decide, at01 b, _, rfl, _, rfl, td, .ref tp, rfl, sget hT4.hd hT4.nd hxe rfl, tp, _, _, _, rfl, rfl, SqT.of e1, at_of (j := 1) rfl rfl, _, rfl, wd, _, rfl, nget e2 nod hpo rfl, rfl, .inr ⟨_, rfl, ?_⟩⟩
          rw [show decide (V.str ⟨#[sgn b]⟩ = V.str (sgS (wordOf n (rowsOf R st) p))) = _ from sg_eq _ _]
          refine gn (v' := .int ((if b = wordOf n (rowsOf R st) p then 0 else 1 : Nat) : Int)) (by cases b <;> cases wordOf n (rowsOf R st) p <;> rfl) ?_
          refine ⟨_, rfl, _, rfl, _, rfl, _, rfl, _, rfl, _, rfl, _, rfl, sd, .ref wS, rfl, sget hS4.hd hS4.nd hwS rfl, _, rfl, wS, .ref (la p), rfl, nget rdw4 nod hpo rfl, _, rfl, la p, _, _, _, rfl, rfl, .inl (wp0.keep k4.k).l, z1, tb, _, _, _, rfl, rfl, .inl z2, at_of (j := 0) rfl rfl, ?_⟩
          refine ⟨sd, td, kn, st.set p (some b), L, M, m2, H0, rfl, h0k, k4, hS, hT, hk4, hm4, rN, by rw [er]; omega, fun H6 m6 r6 b6 hk6 hm6 hr6 => ?_⟩
          rw [er] at hr6
          have le1 := word_sure n (rowsOf R st) p
          have le2 := word_slip hpo
          refine ⟨_, _, rfl, rfl, _, _, rfl, ?_⟩
          have esum : (((if b = wordOf n (rowsOf R st) p then 0 else 1 : Nat) : Int) + (r6 : Nat)) = (((if b = wordOf n (rowsOf R st) p then 0 else 1) + r6 : Nat) : Int) := by omega
          have hle : (if b = wordOf n (rowsOf R st) p then 0 else 1) + r6 ≤ D n (rowsOf R st) := by
            by_cases c : b = wordOf n (rowsOf R st) p
            · rw [if_pos c]
              rw [c] at hr6
              omega
            · rw [if_neg c]
              have eb : b = !wordOf n (rowsOf R st) p := by
                cases b <;> cases h : wordOf n (rowsOf R st) p <;> first | rfl | (rw [h] at c; exact absurd rfl c)
              rw [eb] at hr6
              omega
          refine gn (v' := .int ((max best ((if b = wordOf n (rowsOf R st) p then 0 else 1) + r6) : Nat) : Int)) (by rw [esum, max_int]) ?_
          exact ⟨_, m6, _, _, rfl, b4.trans b6, hk6, hm6, Nat.max_le.mpr ⟨hb4, hle⟩, b6 _ _ (ne_of el hk4 (by intro z; cases z)) el⟩
        · obtain ⟨best, m2, v6, v7, rfl, b4, hk4, hm4, hb4, el⟩ := pv
          exact ⟨best, m2, _, _, _, rfl, b4, hk4, hm4, hb4⟩
      · obtain ⟨best, m2, v5, v6, v7, rfl, b2, hk2, hm2, hb⟩ := pv
        refine ⟨b2 _ _ nwk ez, ?_⟩
        have hk3 : upd H2 wS o0 kn = some (.dK (SDict nv m2)) := by rw [upd_ne nwk.symm]; exact hk2
        refine ⟨_, rfl, _, rfl, _, rfl, kn, _, rfl, DPut.k (k := .inr (encS st)) hk3 (by rw [SDict_len]; exact hm2.len O.n10), _, rfl, ?_⟩
        exact q _ (putS m2 st best) best ((back _ b2).trans (but_upd _)) (by rw [upd_same]; exact congrArg (fun x => some (HO.dK x)) (SDict_putS m2 st best)) (hm2.put rS hb) hb
theorem c_least (T : Txt K mg) {n : Nat} {R : List Row} (O : RowsOk n R) : ∀ k : Nat, CalL P w K mg base (k + 1) "_law_least" (spLeast n R k)
  | 0 => by
    refine mkCal T (j := 27) (i := 40) rfl rfl (fun _ _ _ _ _ _ us hl => match us, hl with | [_, _, _], _ => rfl) sc40 (fun vs H Q E h => ?_) (fun f cdv A outer s H vs Q E hr h => ?_)
    · obtain ⟨_, _, _, _, _, _, rfl, _⟩ := h
      rfl
    · obtain ⟨sd, kn, st, L, m, H0, rfl, h0k, k0, hS, hk, hm, rS, hlen, q⟩ := h
      exact absurd (List.length_eq_zero_iff.mp (Nat.le_zero.mp hlen)) (rS.ne O.ne)
  | k + 1 => by
    have cS : CalL P w K mg base (k + 1) "_law_least" (spLeast n R k) := c_least T O k
    refine mkCal T (j := 27) (i := 40) rfl rfl (fun _ _ _ _ _ _ us hl => match us, hl with | [_, _, _], _ => rfl) sc40 (fun vs H Q E h => ?_) (fun f cdv A outer s H vs Q E hr h => ?_)
    · obtain ⟨_, _, _, _, _, _, rfl, _⟩ := h
      rfl
    · obtain ⟨sd, kn, st, L, m, H0, rfl, h0k, k0, hS, hk, hm, rS, hlen, q⟩ := h
      have hu := hu_of hr
      refine ⟨_, pss_cons (ps_if (pt_cmp (pc_din hu (pv 2) (pv 1))) (pss_one (ps_ret (pe_dget hu (pv 1) (pv 2) (fun _ _ => rfl)))) pss_nil)
        (pss_cons (ps_set (i := 3) sc40.nd rfl (Or.inl rfl) pe_int)
        (pss_cons (ps_lkr (ps_for PassesOwn.never rfl (pi_keys (pe_dget hu (pv 0) (pv 2) (fun _ _ => rfl))) (pg_name (i := 4) sc40.nd rfl (Or.inl rfl))
          (pss_cons (ps_set (i := 5) sc40.nd rfl (Or.inl rfl) (pe_f cS hr (by omega) rfl (pa_cons (pv 0) (pa_cons (pv 1) (pa_cons (pe_ix (ix_tupK K) (pe_ix (ix_listK K) (pe_dget hu (pe_dget hu (pv 0) (pv 2) (fun _ _ => rfl)) (pv 4) (fun _ _ => rfl)) pe_int (fun _ _ => rfl)) pe_int (fun _ _ => rfl)) pa_nil)))))
          (pss_cons (ps_set (i := 6) sc40.nd rfl (Or.inl rfl) (pe_f cS hr (by omega) rfl (pa_cons (pv 0) (pa_cons (pv 1) (pa_cons (pe_ix (ix_tupK K) (pe_ix (ix_listK K) (pe_dget hu (pe_dget hu (pv 0) (pv 2) (fun _ _ => rfl)) (pv 4) (fun _ _ => rfl)) pe_int (fun _ _ => rfl)) pe_int (fun _ _ => rfl)) pa_nil)))))
          (pss_one (ps_set (i := 3) sc40.nd rfl (Or.inl rfl) (pe_callB (call_max2 rfl) rfl T.maxB bt_max (pa_cons (pv 3) (pa_cons (pe_callB (call_min2 rfl) rfl T.minB bt_min
            (pa_cons (pe_callB (call_max2 rfl) rfl T.maxB bt_max (pa_cons (pv 5) (pa_cons (pe_op op_add (pv 6) pe_int) pa_nil))) (pa_cons (pe_callB (call_max2 rfl) rfl T.maxB bt_max (pa_cons (pv 6) (pa_cons (pe_op op_add (pv 5) pe_int) pa_nil))) pa_nil))) pa_nil)))))))))
        (pss_cons (ps_dput hu (pv 1) (pv 2) (pv 3) rfl)
        (pss_one (ps_ret (pv 3)))))), ?_⟩
      refine ⟨_, rfl, _, rfl, kn, _, rfl, DGet.k (k := .inr (encS st)) hk, _, rfl, ?_⟩
      by_cases hin : st ∈ m.map (·.1)
      · obtain ⟨r, hr2⟩ := key_mem hin
        rw [SDict_val hm.1 hr2]
        refine iteT ?_
        refine ⟨_, rfl, _, rfl, kn, nv r, rfl, sget (.inl hk) hm.1 hr2 rfl, ?_⟩
        have e := (hm.2 _ hr2).2
        unfold okLeast at e
        rw [show (st, r).2 = r from rfl] at e
        rw [e]
        exact q H m (fun _ _ _ h => h) hk hm
      rw [SDict_none hin]
      refine iteF ?_
      obtain ⟨wS, hwS⟩ := key_mem (hS.full st rS)
      obtain ⟨_, la, rdw0, wy0⟩ := hS.ok _ hwS
      have rdw := k0.k.dK rdw0
      obtain ⟨o0, h0, ho⟩ := rd_lock rdw
      have nwk : wS ≠ kn := fun e => by
        rw [e] at rdw0
        rcases rdw0 with r | ⟨_, r⟩ <;> rw [h0k] at r <;> cases r
      refine ⟨wS, _, o0, h0, ho, trivial, fun od => ?_⟩
      have kL := k0.trans (Keep2.lkr od h0 ho trivial)
      have back : ∀ H', But kn (upd H wS (.frz od (.dK (ND (fun p => .ref (la p)) (opens n (rowsOf R st)))))) H' → But kn H (upd H' wS o0) := fun H' b => but_unlk h0 b
      have hkL : upd H wS (.frz od (.dK (ND (fun p => .ref (la p)) (opens n (rowsOf R st))))) kn = some (.dK (SDict nv m)) := by rw [upd_ne nwk.symm]; exact hk
      generalize hHL : upd H wS (.frz od (.dK (ND (fun p => .ref (la p)) (opens n (rowsOf R st))))) = HL at kL back hkL
      have ez : HL wS = some (.frz od (.dK (ND (fun p => .ref (la p)) (opens n (rowsOf R st))))) := by rw [← hHL, upd_same]
      have nod := opens_nodup n (rowsOf R st)
      refine ⟨_, rfl, _, rfl, sd, .ref wS, rfl, sget (hS.keep kL.k).hd hS.nd hwS rfl, wS, od, rfl, .inl ⟨_, ez, for_it walk_keys (fun i σ H2 => ∃ (best : Nat) (m2 : List (Stg × Nat)) (v4 v5 v6 : Option V), σ = [some (.ref sd), some (.ref kn), some (.str (encS st)), some (.int (best : Nat)), v4, v5, v6] ∧ But kn HL H2 ∧ H2 kn = some (.dK (SDict nv m2)) ∧ MemP n R (okLeast n R) m2 ∧
          best = mx (fun p => lterm (D n (side false p (rowsOf R st))) (D n (side true p (rowsOf R st)))) ((opens n (rowsOf R st)).take i) 0)
        ⟨0, m, _, _, _, rfl, fun _ _ _ h => h, hkL, hm, rfl⟩ (fun i σ H2 _ ⟨_, _, _, _, _, _, b, _⟩ => b _ _ nwk ez) (fun i x σ H2 H3 hi pv y => ?_) (fun σ H2 pv => ?_)⟩⟩
      · obtain ⟨rfl, k1, v1, hp1, rfl⟩ := y
        obtain ⟨p, hpe, rfl, rfl⟩ := ND_key hp1
        have hpo := List.mem_of_getElem? hpe
        obtain ⟨best, m2, v4, v5, v6, rfl, b2, hk2, hm2, hb⟩ := pv
        have k4 := kL.but b2 h0k
        have hS4 := hS.keep k4.k
        have rdw4 := k4.k.dK rdw0
        obtain ⟨t0, t1, r0, r1, wp0⟩ := wy0 p hpo
        have wp4 := wp0.keep k4.k
        have er0 := rS.rows hpo false
        have er1 := rS.rows hpo true
        have lt0 := side_lt (mem_opens.mp hpo).2 false
        have lt1 := side_lt (mem_opens.mp hpo).2 true
        refine ⟨_, rfl, _, rfl, _, rfl, _, rfl, sd, .ref wS, rfl, sget hS4.hd hS4.nd hwS rfl, _, rfl, wS, .ref (la p), rfl, nget rdw4 nod hpo rfl, la p, _, _, _, rfl, rfl, .inl wp4.l, at_of (j := 0) rfl rfl, t0, _, _, _, rfl, rfl, .inl wp4.t0, at_of (j := 0) rfl rfl, ?_⟩
        refine ⟨sd, kn, st.set p (some false), L, m2, H0, rfl, h0k, k4, hS, hk2, hm2, .step false rS hpo, by rw [er0]; omega, fun H6 m6 b6 hk6 hm6 => ?_⟩
        rw [er0]
        have k6 := k4.but b6 h0k
        have hS6 := hS.keep k6.k
        have rdw6 := k6.k.dK rdw0
        have wp6 := wp0.keep k6.k
        refine ⟨_, rfl, _, rfl, _, rfl, _, rfl, sd, .ref wS, rfl, sget hS6.hd hS6.nd hwS rfl, _, rfl, wS, .ref (la p), rfl, nget rdw6 nod hpo rfl, la p, _, _, _, rfl, rfl, .inl wp6.l, at_of (j := 1) rfl rfl, t1, _, _, _, rfl, rfl, .inl wp6.t1, at_of (j := 0) rfl rfl, ?_⟩
        refine ⟨sd, kn, st.set p (some true), L, m6, H0, rfl, h0k, k6, hS, hk6, hm6, .step true rS hpo, by rw [er1]; omega, fun H7 m7 b7 hk7 hm7 => ?_⟩
        rw [er1]
        refine ⟨_, rfl, _, rfl, _, rfl, _, _, rfl, rfl, _, _, rfl, _, rfl, _, rfl, _, _, rfl, rfl, _, _, rfl, _, _, rfl, _, _, rfl, ?_⟩
        have c1 : ((D n (side true p (rowsOf R st)) : Nat) : Int) + 1 = ((D n (side true p (rowsOf R st)) + 1 : Nat) : Int) := by omega
        have c0 : ((D n (side false p (rowsOf R st)) : Nat) : Int) + 1 = ((D n (side false p (rowsOf R st)) + 1 : Nat) : Int) := by omega
        refine gn (v' := .int ((max best (lterm (D n (side false p (rowsOf R st))) (D n (side true p (rowsOf R st)))) : Nat) : Int)) (by rw [c1, c0, max_int, max_int, min_int, max_int]; rfl) ?_
        exact ⟨_, m7, _, _, _, rfl, b2.trans (b6.trans b7), hk7, hm7, by rw [mx_take _ hpe, ← hb]⟩
      · obtain ⟨best, m2, v4, v5, v6, rfl, b2, hk2, hm2, hb⟩ := pv
        rw [ND_len, List.take_length, D_least] at hb
        subst hb
        refine ⟨b2 _ _ nwk ez, ?_⟩
        have hk3 : upd H2 wS o0 kn = some (.dK (SDict nv m2)) := by rw [upd_ne nwk.symm]; exact hk2
        refine ⟨_, rfl, _, rfl, _, rfl, kn, _, rfl, DPut.k (k := .inr (encS st)) hk3 (by rw [SDict_len]; exact hm2.len O.n10), _, rfl, ?_⟩
        exact q _ (putS m2 st _) ((back _ b2).trans (but_upd _)) (by rw [upd_same]; exact congrArg (fun x => some (HO.dK x)) (SDict_putS m2 st _)) (hm2.put rS rfl)
end
end Lik
namespace Lik
open PySem PySem.Spec PyProof.Rows L2
/-! ### sorted(texts, reverse=True), any length -/
def rSortedRevS (K : PySem.W.Frag) : List V → List V → Hp → VK → Prop := fun vs zs H Q => ∃ (a : Addr) (xs : List Str), vs = [V.ref a] ∧ zs = [V.bl true] ∧ SqL K H a (xs.map V.str) ∧
  ∀ (ys : List Str) (p : Addr), ys.Perm xs → H p = none → Q (.ref p) (upd H p (.lst (ys.map V.str)))
theorem each_of_strs {h : Heap} : ∀ {vs : List Value} {xs : List Str}, StrsAre vs xs → PySem.W.EachIs (fun v x => ∃ t, v = .str x t) vs xs ∧ PySem.W.EachIs (fun v b => ∃ as, Reads h v (PyData.str b) as) vs xs
  | _, _, .nil => ⟨.nil, .nil⟩
  | _, _, .cons y t r => ⟨.cons ⟨t, rfl⟩ (each_of_strs (h := h) r).1, .cons ⟨[], .str y t⟩ (each_of_strs r).2⟩
theorem strs_of_each : ∀ {vs : List Value} {xs : List Str}, PySem.W.EachIs (fun v x => ∃ t, v = .str x t) vs xs → StrsAre vs xs
  | _, _, .nil => .nil
  | _, _, .cons ⟨t, e⟩ r => by
    subst e
    exact .cons _ t (strs_of_each r)
section
variable {X : Cx}
theorem cr_sortedRevS (hu : X.A.units + 64 < cLine) : CallRK X (.builtin "sorted") [Str.ofString "reverse"] (rSortedRevS X.K) := by
  intro pins s σ H vs zs us ws Q I r rz h
  obtain ⟨a, xs, rfl, rfl, hs, q⟩ := h
  obtain rfl := Vals.ref1 r
  obtain ⟨w1, rfl, e1⟩ := vals1 rz
  obtain rfl : w1 = Value.bool true := e1
  obtain ⟨its, rv, hl, hz⟩ := I.list hs
  have st := rv.strs
  obtain ⟨e, er⟩ := each_of_strs (h := s.heap) st
  rw [List.length_map] at hz
  refine PySem.W.sorted_rev_data (enc := PyData.str) hl.isList e er (PySem.W.AllAlike.of fun _ _ => rfl) (PySem.W.Sortable.others fun b => ⟨fun z => (by cases z), fun _ z => (by cases z)⟩) hz (fun b _ => by show X.A.units + 2 + 0 < cLine; omega) fun out ho eo => ?_
  obtain ⟨ep, he'⟩ := PyProof.Rows.sortedAll_at s.heap its (List.toArray out)
  have hp : (xs.mergeSort (PySem.W.dataLe true PyData.str)).Perm xs := List.mergeSort_perm _ _
  have hlen : ((xs.mergeSort (PySem.W.dataLe true PyData.str)).map V.str).length ≤ sizeLine := by rw [List.length_map, hp.length_eq]; exact hz
  exact ⟨.ref _, upd H (s.heap.objs.size + 1) (.lst ((xs.mergeSort (PySem.W.dataLe true PyData.str)).map V.str)), I.laid (t' := s.toks) (fun _ _ => PyProof.Rows.sortedAll_old) (Nat.le_succ _) ⟨hlen, out, ep, vals_of_strs (strs_of_each eo), he'⟩, rfl, q _ _ hp (I.hok.fresh (Nat.le_succ _))⟩
end
def decM (c : Nat) : Option Bool := if c = 46 then none else some (c == 49)
def decS (z : Str) : Stg := z.cps.toList.map decM
theorem dec_encS (s : Stg) : decS (encS s) = s := by
  show ((s.map mrk).toArray).toList.map decM = s
  have e : ((s.map mrk).toArray).toList = s.map mrk := by simp
  rw [e, List.map_map]
  have : ∀ l : Stg, l.map (decM ∘ mrk) = l := fun l => by
    induction l with
    | nil => rfl
    | cons b t ih =>
      rw [List.map_cons, ih]
      cases b with
      | none => rfl
      | some b => cases b <;> rfl
  exact this s
theorem perm_stg {W : List Stg} {ys : List Str} (h : ys.Perm (W.map encS)) : ∃ W' : List Stg, W'.Perm W ∧ ys = W'.map encS := by
  refine ⟨ys.map decS, ?_, ?_⟩
  · have h2 := h.map decS
    rw [List.map_map] at h2
    have e : W.map (decS ∘ encS) = W := by
      have : ∀ l : List Stg, l.map (decS ∘ encS) = l := fun l => by
        induction l with
        | nil => rfl
        | cons r t ih =>
          rw [List.map_cons, ih]
          exact congrArg (· :: t) (dec_encS r)
      exact this W
    rw [e] at h2
    exact h2
  · rw [List.map_map]
    have : ∀ l : List Str, (∀ y ∈ l, ∃ r, y = encS r) → l = l.map (encS ∘ decS) := fun l => by
      induction l with
      | nil => intro _; rfl
      | cons y t ih =>
        intro hl
        obtain ⟨r, e⟩ := hl y List.mem_cons_self
        rw [List.map_cons, ← ih fun z hz => hl z (List.mem_cons_of_mem _ hz)]
        refine congrArg (· :: t) ?_
        show y = encS (decS y)
        rw [e, dec_encS]
    exact this ys fun y hy => by
      obtain ⟨r, _, e⟩ := List.mem_map.mp (h.mem_iff.mp hy)
      exact ⟨r, e.symm⟩
theorem stgV_str (W : List Stg) : stgV W = (W.map encS).map V.str := by
  unfold stgV
  rw [List.map_map]
  rfl
/-! ### the same rows in another order -/
section
variable {n : Nat} {R R' : List Row}
theorem rowsOf_in (h : ∀ r, r ∈ R ↔ r ∈ R') (s : Stg) : ∀ r, r ∈ rowsOf R s ↔ r ∈ rowsOf R' s := fun r => by
  unfold rowsOf
  rw [List.mem_filter, List.mem_filter, h]
theorem side_in2 {b : Bool} {p : Nat} (h : ∀ r, r ∈ R ↔ r ∈ R') : ∀ r, r ∈ side b p R ↔ r ∈ side b p R' := fun r => by rw [mem_side, mem_side, h]
theorem D_same (h : ∀ r, r ∈ R ↔ r ∈ R') : D n R = D n R' := Nat.le_antisymm (D_sub fun r hr => (h r).mp hr) (D_sub fun r hr => (h r).mpr hr)
theorem open_same (h : ∀ r, r ∈ R ↔ r ∈ R') (p : Nat) : isOpen R p = isOpen R' p := by
  rw [Bool.eq_iff_iff]
  exact ⟨open_in fun r hr => (h r).mp hr, open_in fun r hr => (h r).mpr hr⟩
theorem opens_same (h : ∀ r, r ∈ R ↔ r ∈ R') : opens n R = opens n R' := by
  unfold opens
  exact List.filter_congr fun p _ => open_same h p
theorem word_same (h : ∀ r, r ∈ R ↔ r ∈ R') (p : Nat) : wordOf n R p = wordOf n R' p := by
  unfold wordOf
  rw [D_same (n := n) (side_in2 (b := true) (p := p) h), D_same (n := n) (side_in2 (b := false) (p := p) h)]
theorem words_same (h : ∀ r, r ∈ R ↔ r ∈ R') : wordsD n R = wordsD n R' := by
  unfold wordsD
  rw [opens_same h]
  exact ND_congr fun p _ => by rw [word_same h]
theorem reach_same (h : ∀ r, r ∈ R ↔ r ∈ R') {s : Stg} (a : Reach n R s) : Reach n R' s := by
  induction a with
  | base => exact .base
  | step b hs hp ih =>
    rw [opens_same (rowsOf_in h _)] at hp
    exact .step b ih hp
theorem full_same (h : ∀ r, r ∈ R ↔ r ∈ R') {α : Type} {L : List (Stg × α)} (f : Full n R L) : Full n R' L := fun s hs => f s (reach_same (fun r => (h r).symm) hs)
theorem EntOk.other {H : Hp} {more : Nat} {e : Stg × Addr × Addr} (h : ∀ r, r ∈ R ↔ r ∈ R') (x : EntOk H n R more e) : EntOk H n R' more e := by
  obtain ⟨h1, h2, h3⟩ := x
  rw [D_same (rowsOf_in h e.1)] at h2
  rw [words_same (rowsOf_in h e.1)] at h3
  exact ⟨reach_same h h1, h2, h3⟩
end
end Lik
namespace Lik
open PySem PySem.Spec PyProof.Rows L2
/-! ### promises at any rows -/
structure CalR (P : Program) (w : World) (K : PySem.W.Frag) (mg : Str → Option Value) (base : Heap) (k : Nat) (x : Str) (sp : Sp) : Prop where
  ex : ∃ f : Addr, FnR P w K mg base CX0 k f sp ∧ mg x = some (.ref f) ∧ PySem.W.keepIn K (.ref f) = true
def anyRows (sp : Nat → List Row → Sp) : Sp := fun vs H Q E => ∃ (n : Nat) (R : List Row), RowsOk n R ∧ sp n R vs H Q E
theorem rows_one : RowsOk 1 [[false]] := ⟨List.cons_ne_nil _ _, fun r hr => by rw [List.mem_singleton.mp hr]; rfl, Nat.le_refl _, by decide, by decide⟩
section
variable {P : Program} {w : World} {K : PySem.W.Frag} {mg : Str → Option Value} {base : Heap}
theorem CalR.all {k : Nat} {x : Str} {sp : Nat → List Row → Sp} (h : ∀ n R, RowsOk n R → CalL P w K mg base k x (sp n R)) : CalR P w K mg base k x (anyRows sp) := by
  obtain ⟨f, _, _, _, hm, hk, _⟩ := (h _ _ rows_one).ex
  refine ⟨f, fun A outer s H us vs Q E hr he hv hs => ?_, hm, hk⟩
  obtain ⟨n, R, O, hs⟩ := hs
  obtain ⟨f', fd, ps, F, hm', _, b⟩ := (h n R O).ex
  have e : f' = f := by
    rw [hm] at hm'
    injection Option.some.inj hm' with e
    exact e.symm
  subst e
  have F2 := (F.raw b .nil).imp (sp' := sp n R) fun vs H Q E h => by rw [List.append_nil]; exact h
  exact F2 A outer s H us vs Q E hr he hv hs
end
section
variable {X : Cx} {k j : Nat} {x : Str} {sp : Sp} {p pos : Pos} {e : Expr} {es : List Expr} {t : TA}
theorem pe_fR (c : CalR X.prog X.w X.K X.mg X.base k x sp) (hr : Room j X.A) (hk : k ≤ j) (hg : Gl X x) (ha : PA X (e :: es) t)
    (hdb : (x == ("__debug__" : Str)) = false := by decide) (he : starEach (e :: es) X.env = (false, eval e X.env) :: starEach es X.env := by rfl) (hpl : (backTo pos (starEach es X.env)).any (·.1) = false := by rfl) :
    PE X (.Call (.Name x p) (e :: es) [] pos) (tF sp t) := by
  obtain ⟨f, F, hm, kp⟩ := c.ex
  refine ⟨fun pins s σ H Q I h => ?_⟩
  refine wpAny_Call_Name_kw (ld_glob I hg hm ?_ hdb)
  refine PySem.W.callWith_K (h₀ := X.base) I.ok.mod.kin kp (thn (ha.run pos pins s σ H _ I h) fun us s1 ⟨vs, H1, I1, r, q⟩ => ⟨I1.kIn, ?_⟩) he hpl
  exact wpAny_call (run_fnR F (hr.mono hk) pass0 I1 r q)
end
/-! ### what the law holds while it runs -/
theorem Std.via {H H' : Hp} {n : Nat} {R : List Row} {sd : Addr} {L : List (Stg × Addr)} (h : Std H n R sd L) (k1 : ∀ kvs, Rd H sd (.dK kvs) → Rd H' sd (.dK kvs)) (k2 : ∀ e ∈ L, ∀ kvs, Rd H e.2 (.dK kvs) → Rd H' e.2 (.dK kvs)) (k3 : ∀ a xs, Rd H a (.tup xs) → Rd H' a (.tup xs))
    (k4 : ∀ a t0 t1, Rd H a (.lst [.ref t0, .ref t1]) → Rd H' a (.lst [.ref t0, .ref t1])) (k5 : ∀ a S, Rd H a (.lst (rowsV S)) → Rd H' a (.lst (rowsV S))) : Std H' n R sd L := by
  refine ⟨k1 _ h.hd, h.nd, fun e he => ?_, h.full⟩
  obtain ⟨r, la, g, wy⟩ := h.ok e he
  refine ⟨r, la, k2 e he _ g, fun p hp => ?_⟩
  obtain ⟨t0, t1, r0, r1, z⟩ := wy p hp
  exact ⟨t0, t1, r0, r1, k4 _ _ _ z.l, k3 _ _ z.t0, k3 _ _ z.t1, k5 _ _ z.r0, k5 _ _ z.r1⟩
theorem ButM.rd {kn : Addr} {H H' : Hp} {a : Addr} {u : HO} (b : ButM kn H H') (ne : a ≠ kn) (nt : ∀ m, u ≠ .dT m) (r : Rd H a u) : Rd H' a u := by
  rcases r with r | ⟨o, r⟩
  · exact .inl (b _ _ r ne nt)
  · exact .inr ⟨o, b _ _ r ne fun m z => by cases z⟩
theorem MemD.dk {H : Hp} {kn n : Nat} {R : List Row} (h : MemD H kn n R) : ∃ kvs, H kn = some (.dK kvs) := by
  rcases h with h | ⟨km, m, h, _⟩
  · exact ⟨_, h⟩
  · exact ⟨_, h⟩
theorem rd_ne {H : Hp} {a b : Addr} {u : HO} {o : HO} (r : Rd H a u) (h : H b = some o) (n1 : o ≠ u) (n2 : ∀ z, o ≠ .frz z u) : a ≠ b := fun e => by
  rw [e] at r
  rcases r with r | ⟨z, r⟩
  · rw [h] at r
    exact n1 (Option.some.inj r)
  · rw [h] at r
    exact n2 z (Option.some.inj r)
structure Bk (K : PySem.W.Frag) (n : Nat) (R R' : List Row) (p t kn d sd : Addr) (L : List (Stg × Addr)) (H : Hp) : Prop where
  lot : LotAt K H p t kn n
  rt : H t = some (.tup (rowsV R'))
  mem : MemD H kn n R'
  deck : DeckAt H d
  std : Std H n R sd L
  sk : sd ≠ kn
  wk : ∀ e ∈ L, e.2 ≠ kn
section
variable {K : PySem.W.Frag} {n : Nat} {R R' : List Row} {p t kn d sd : Addr} {L : List (Stg × Addr)} {H H' : Hp}
theorem Bk.same (s : Same H H') (B : Bk K n R R' p t kn d sd L H) : Bk K n R R' p t kn d sd L H' := ⟨B.lot.same s, s _ _ B.rt, B.mem.same s, B.deck.same s, B.std.keep (same_keep s), B.sk, B.wk⟩
theorem DeckAt.butM (h : DeckAt H d) (b : ButM kn H H') (hk : ∃ kvs, H kn = some (.dK kvs)) : DeckAt H' d := by
  obtain ⟨c, cs, i, j, k, ne, h1, h2⟩ := h
  obtain ⟨kvs, hk⟩ := hk
  exact ⟨c, cs, i, j, k, ne, b _ _ h1 (ne_of h1 hk (by intro z; cases z)) (fun m z => by cases z), b _ _ h2 (ne_of h2 hk (by intro z; cases z)) (fun m z => by cases z)⟩
theorem Bk.butM (b : ButM kn H H') (m : MemD H' kn n R') (B : Bk K n R R' p t kn d sd L H) : Bk K n R R' p t kn d sd L H' := by
  obtain ⟨dx, hp⟩ := B.lot
  obtain ⟨kvs, hk⟩ := B.mem.dk
  refine ⟨⟨dx, b _ _ hp (ne_of hp hk (by intro z; cases z)) fun m z => by cases z⟩, b _ _ B.rt (ne_of B.rt hk (by intro z; cases z)) (fun m z => by cases z), m, B.deck.butM b ⟨kvs, hk⟩, ?_, B.sk, B.wk⟩
  refine B.std.via (fun kvs r => b.rd B.sk (fun m z => by cases z) r) (fun e he kvs r => b.rd (B.wk e he) (fun m z => by cases z) r) (fun a xs r => b.rd (rd_ne r hk (fun z => by cases z) fun _ z => by cases z) (fun m z => by cases z) r)
    (fun a t0 t1 r => b.rd (rd_ne r hk (fun z => by cases z) fun _ z => by cases z) (fun m z => by cases z) r) (fun a S r => b.rd (rd_ne r hk (fun z => by cases z) fun _ z => by cases z) (fun m z => by cases z) r)
theorem Bk.pick (b : But d H H') (dk : DeckAt H' d) (B : Bk K n R R' p t kn d sd L H) : Bk K n R R' p t kn d sd L H' := by
  obtain ⟨dx, hp⟩ := B.lot
  obtain ⟨c, cs, i, j, k, ne, h1, h2⟩ := B.deck
  refine ⟨⟨dx, b _ _ (ne_of hp h1 (by intro z; cases z)) hp⟩, b _ _ (ne_of B.rt h1 (by intro z; cases z)) B.rt, ?_, dk, ?_, B.sk, B.wk⟩
  · rcases B.mem with h | ⟨km, m, g1, g2, g3⟩
    · exact .inl (b _ _ (ne_of h h1 (by intro z; cases z)) h)
    · exact .inr ⟨km, m, b _ _ (ne_of g1 h1 (by intro z; cases z)) g1, b _ _ (ne_of g2 h1 (by intro z; cases z)) g2, g3⟩
  refine B.std.via (fun kvs r => b.rd (rd_ne r h1 (fun z => by cases z) fun _ z => by cases z) r) (fun e he kvs r => b.rd (rd_ne r h1 (fun z => by cases z) fun _ z => by cases z) r) (fun a xs r => b.rd (rd_ne r h1 (fun z => by cases z) fun _ z => by cases z) r)
    (fun a t0 t1 r => b.rd (rd_ne r h1 (fun z => by cases z) fun _ z => by cases z) r) (fun a S r => b.rd (rd_ne r h1 (fun z => ?_) fun _ z => by cases z) r)
  have e := HO.lst.inj z
  cases S with
  | nil => cases e
  | cons r0 rs => cases e
theorem Bk.upd {x : Addr} {m m' : List (Key × V)} (B : Bk K n R R' p t kn d sd L H) (hx : H x = some (.dK m)) (n1 : x ≠ kn) (n2 : sd ≠ x) (n3 : ∀ e ∈ L, e.2 ≠ x) : Bk K n R R' p t kn d sd L (upd H x (.dK m')) := by
  have b : But x H (L2.upd H x (.dK m')) := but_upd _
  obtain ⟨dx, hp⟩ := B.lot
  obtain ⟨c, cs, i, j, k, ne, h1, h2⟩ := B.deck
  refine ⟨⟨dx, b _ _ (ne_of hp hx (by intro z; cases z)) hp⟩, b _ _ (ne_of B.rt hx (by intro z; cases z)) B.rt, ?_, ⟨c, cs, i, j, k, ne, b _ _ (ne_of h1 hx (by intro z; cases z)) h1, b _ _ (ne_of h2 hx (by intro z; cases z)) h2⟩, ?_, B.sk, B.wk⟩
  · rcases B.mem with h | ⟨km, m, g1, g2, g3⟩
    · exact .inl (b _ _ n1.symm h)
    · exact .inr ⟨km, m, b _ _ n1.symm g1, b _ _ (ne_of g2 hx (by intro z; cases z)) g2, g3⟩
  exact B.std.via (fun kvs r => b.rd n2 r) (fun e he kvs r => b.rd (n3 e he) r) (fun a xs r => b.rd (rd_ne r hx (fun z => by cases z) fun _ z => by cases z) r)
    (fun a t0 t1 r => b.rd (rd_ne r hx (fun z => by cases z) fun _ z => by cases z) r) (fun a S r => b.rd (rd_ne r hx (fun z => by cases z) fun _ z => by cases z) r)
end
structure Tb (n : Nat) (R : List Row) (td kn : Addr) (Lt : List (Stg × Addr × Addr)) (H : Hp) : Prop where
  hd : H td = some (.dK (SDict fT Lt))
  nd : (Lt.map (·.1)).Nodup
  ok : ∀ e ∈ Lt, EntOk H n R 0 e ∧ e.2.2 ≠ td ∧ e.2.2 ≠ kn
  full : Full n R Lt
  tk : td ≠ kn
section
variable {n : Nat} {R : List Row} {td kn d : Addr} {Lt : List (Stg × Addr × Addr)} {H H' : Hp}
theorem Tb.tab (B : Tb n R td kn Lt H) : Tab H n R 0 td Lt := ⟨.inl B.hd, B.nd, fun e he => ⟨(B.ok e he).1.1, (B.ok e he).1.2.1, .inl (B.ok e he).1.2.2⟩, B.full⟩
theorem Tb.same (s : Same H H') (B : Tb n R td kn Lt H) : Tb n R td kn Lt H' := ⟨s _ _ B.hd, B.nd, fun e he => ⟨(B.ok e he).1.same s, (B.ok e he).2⟩, B.full, B.tk⟩
theorem Tb.butM (b : ButM kn H H') (hk : ∃ kvs, H kn = some (.dK kvs)) (B : Tb n R td kn Lt H) : Tb n R td kn Lt H' := by
  obtain ⟨kvs, hk⟩ := hk
  refine ⟨b _ _ B.hd B.tk (fun m z => by cases z), B.nd, fun e he => ⟨⟨(B.ok e he).1.1, ?_, ?_⟩, (B.ok e he).2⟩, B.full, B.tk⟩
  · exact b _ _ (B.ok e he).1.2.1 (ne_of (B.ok e he).1.2.1 hk (by intro z; cases z)) fun m z => by cases z
  · exact b _ _ (B.ok e he).1.2.2 (B.ok e he).2.2 fun m z => by cases z
theorem Tb.pick (b : But d H H') (dk : DeckAt H d) (B : Tb n R td kn Lt H) : Tb n R td kn Lt H' := by
  obtain ⟨c, cs, i, j, k, ne, h1, h2⟩ := dk
  refine ⟨b _ _ (ne_of B.hd h1 (by intro z; cases z)) B.hd, B.nd, fun e he => ⟨⟨(B.ok e he).1.1, ?_, ?_⟩, (B.ok e he).2⟩, B.full, B.tk⟩
  · exact b _ _ (ne_of (B.ok e he).1.2.1 h1 (by intro z; cases z)) (B.ok e he).1.2.1
  · exact b _ _ (ne_of (B.ok e he).1.2.2 h1 (by intro z; cases z)) (B.ok e he).1.2.2
end
theorem but_new {H H' : Hp} {kn : Addr} {o : HO} (h : H kn = none) (b : But kn (upd H kn o) H') : Same H H' := fun c u q => b _ _ (ne_of_none q h) (same_new h _ _ _ q)
theorem RowsOk.perm {n : Nat} {R R' : List Row} (O : RowsOk n R) (h : R'.Perm R) : RowsOk n R' :=
  ⟨fun e => O.ne (by have h2 := h.length_eq; rw [e] at h2; exact List.length_eq_zero_iff.mp h2.symm), fun r hr => O.wide r (h.mem_iff.mp hr), O.n1, O.n10, by rw [h.length_eq]; exact O.l10⟩
theorem rowsV_rev (R : List Row) : (rowsV R).reverse = rowsV R.reverse := by
  unfold rowsV
  rw [List.map_reverse]
end Lik
namespace Lik
open PySem PySem.Spec PyProof.Rows L2
/-! ### the law -/
def spLaw (K : PySem.W.Frag) : Sp := fun vs H Q _ => ∃ (a : Addr) (ns : List Int), vs = [.ref a] ∧ SqL K H a (ns.map V.int) ∧ ns.length ≤ 1000 ∧ ∀ H', Q (.bl true) H'
theorem sc41 : FnScope ["_law_script", "_law_deck_here", "_law_rare", "_law_rows_here", "_law_lot", "_law_standings", "_law_begin", "_law_table", "_law_least_here", "_law_more", "_law_raised", "_law_standing", "_law_again"] ["_law_script"] (defScope (top 41)) := ⟨rfl, rfl, rfl, by decide +kernel, rfl, by decide +kernel, by decide +kernel⟩
section
variable {P : Program} {w : World} {K : PySem.W.Frag} {mg : Str → Option Value}
theorem ok_law (T : Txt K mg) : ∃ fd : FuncData, (∀ (s : Shared) (v : Value), BindsTo s fd ⟨[v], []⟩ [("_law_script", v)]) ∧ ∀ base : Heap, FnOk P w K mg base CX0 16 (He.ga K "law") fd ["_law_script"] (spLaw K) := by
  obtain ⟨fd, F⟩ := T.c.def_ 28 (d := dOf "law" 41) rfl
  have F' : FunD K "law" "law" (defArgs (top 41)) (defBody (top 41)) (defScope (top 41)) [] [] (He.ga K "law") fd := F
  have b := FunD.bindsA (ps := ["_law_script"]) F' fun _ _ _ _ _ _ us hl => match us, hl with | [_], _ => rfl
  refine ⟨fd, fun s v => b s [v] rfl, fun base => ?_⟩
  have cDk : CalL P w K mg base 1 "_law_deck" (spDeck K) := c_deck T
  have cFo : CalL P w K mg base 1 "_law_fold" (spFold K) := c_fold T
  have cRw : CalL P w K mg base 2 "_law_rows" spLRows := c_lrows T
  have cFw : CalL P w K mg base 2 "_law_few" spFew := c_few T
  have cPk : CalL P w K mg base 1 "_law_pick" spPick := c_pick T
  have cRe : CalL P w K mg base 2 "_law_reached" (spLReach K) := c_lreach T
  have cTb : CalR P w K mg base 14 "clever_table" (anyRows (spTable K)) := CalR.all fun n R O => c_table T O
  have cIT : CalR P w K mg base 3 "is_clever_table" (anyRows (spIsT K)) := CalR.all fun n R O => c_isT T O
  have cCl : CalR P w K mg base 13 "cleverest" (anyRows (spClev K)) := CalR.all fun n R O => c_clev T O
  have cLT : CalR P w K mg base 2 "_law_is_table" (anyRows spLTab) := CalR.all fun n R O => c_ltab T O
  have cLe : CalR P w K mg base 11 "_law_least" (anyRows fun n R => spLeast n R 10) := CalR.all fun n R O => c_least T O 10
  have cMo : CalR P w K mg base 11 "_law_most" (anyRows fun n R => spMost n R 10) := CalR.all fun n R O => c_most T O 10
  obtain ⟨fL, fdL, mkL, FL, bL⟩ := c_lot (P := P) (w := w) (base := base) T
  refine F'.ok sc41 (fun vs H Q E h => ?_) (fun cdv A outer s H vs Q E hr h => ?_)
  · obtain ⟨_, _, rfl, _⟩ := h
    rfl
  obtain ⟨a, ns, rfl, hS, hl, q⟩ := h
  have hu := hu_of hr
  refine ⟨_, PSs.nox (pss_cons (ps_set (i := 1) sc41.nd rfl (Or.inl rfl) (pe_f cDk hr (by decide) rfl (pa_cons (pv 0) pa_nil)))
    (pss_cons (ps_set (i := 2) sc41.nd rfl (Or.inl rfl) (pe_f cFo hr (by decide) rfl (pa_cons (pv 0) pa_nil)))
    (pss_cons (ps_set (i := 3) sc41.nd rfl (Or.inl rfl) (pe_f cRw hr (by decide) rfl (pa_cons (pv 1) (pa_cons (pe_cmpR op_eq (pe_op op_mod (pv 2) pe_int) pe_int (nomark _)) pa_nil))))
    (C8.pss_cut (ps_if (pt_cmpR op_eq (pe_op op_mod (pv 2) pe_int) pe_int (nomark _)) (pss_one (ps_set (i := 3) sc41.nd rfl (Or.inl rfl) (pe_f cFw hr (by decide) rfl (pa_cons (pv 1) pa_nil)))) pss_nil)
    (pss_cons (ps_set (i := 4) sc41.nd rfl (Or.inl rfl) (pe_make mkL FL (hr.mono (by decide)) rfl (T.glo 20) bL .nil pass0 (pa_cons (pe_revL (pv 3)) pa_nil)))
    (pss_cons (ps_set (i := 5) sc41.nd rfl (Or.inl rfl) (pe_f cRe hr (by decide) rfl (pa_cons (pv 3) pa_nil)))
    (pss_cons (ps_set (i := 6) sc41.nd rfl (Or.inl rfl) (pe_op op_mul_str pe_str (pe_callB (call_lenK K) rfl T.lenB bt_len (pa_cons (pe_ix (ix_listK K) (pv 3) pe_int (fun _ _ => rfl)) pa_nil))))
    (pss_cons (ps_set (i := 7) sc41.nd rfl (Or.inl rfl) (pe_fR cTb hr (by decide) rfl (pa_cons (pv 4) pa_nil)))
    (pss_cons (ps_if (PW.pt (pw_or (pt_not (pt_val (pe_fR cLT hr (by decide) rfl (pa_cons (pv 5) (pa_cons (pv 7) pa_nil))))) (pw_or1 (pt_cmpR op_notBl (pe_fR cIT hr (by decide) rfl (pa_cons (pv 4) (pa_cons (pv 7) pa_nil))) pe_bl (nomark _))))) (pss_one (ps_ret pe_bl)) pss_nil)
    (pss_cons (ps_set (i := 8) sc41.nd rfl (Or.inl rfl) (pe_fR cLe hr (by decide) rfl (pa_cons (pv 5) (pa_cons pe_dnewK (pa_cons (pv 6) pa_nil)))))
    (pss_cons (ps_if (PW.pt (pw_or (pt_cmpR op_ne (pe_ix (ix_tupK K) (pe_dget hu (pv 7) (pv 6) (fun _ _ => rfl)) pe_int (fun _ _ => rfl)) (pv 8) (nomark _)) (pw_or (pt_cmpR op_ne (pe_fR cCl hr (by decide) rfl (pa_cons (pv 4) pa_nil)) (pv 8) (nomark _))
        (pw_or1 (pt_cmpR op_gt (pe_fR cMo hr (by decide) rfl (pa_cons (pv 5) (pa_cons (pv 7) (pa_cons pe_dnewK (pa_cons (pv 6) pa_nil))))) (pv 8) (nomark _)))))) (pss_one (ps_ret pe_bl)) pss_nil)
    (pss_cons (ps_set (i := 9) sc41.nd rfl (Or.inl rfl) (pe_f cPk hr (by decide) rfl (pa_cons (pv 1) (pa_cons (pe_op op_pow pe_int pe_int) pa_nil))))
    (pss_cons (ps_set (i := 10) sc41.nd rfl (Or.inl rfl) pe_dnewK)
    (pss_cons (ps_for PassesOwn.never rfl (pi_listK K (pe_callBK (cr_sortedRevS hr.units) rfl T.sortedB bt_sorted (pa_cons (pe_callTy (call_list_dK rfl) rfl T.listB bt_list (pa_cons (pv 7) pa_nil)) pa_nil) (pk_cons pe_bl pk_nil))) (pg_name (i := 11) sc41.nd rfl (Or.inl rfl))
        (pss_one (ps_dput hu (pv 10) (pv 11) (pe_tup (pa_cons (pe_op op_add (pe_ix (ix_tupK K) (pe_dget hu (pv 7) (pv 11) (fun _ _ => rfl)) pe_int (fun _ _ => rfl)) (pv 9)) (pa_cons (pe_bm0 PySem.F.plainAttrs_dict PySem.F.slot_dict_copy PySem.F.type_dict_copy mt_dcopy (pe_ix (ix_tupK K) (pe_dget hu (pv 7) (pv 11) (fun _ _ => rfl)) pe_int (fun _ _ => rfl))) pa_nil))) rfl)))
    (pss_cons (ps_if (pt_cmpR op_notBl (pe_fR cIT hr (by decide) rfl (pa_cons (pv 4) (pa_cons (pv 10) pa_nil))) pe_bl (nomark _)) (pss_one (ps_ret pe_bl)) pss_nil)
    (pss_cons (ps_dput hu (pe_ix (ix_tupK K) (pe_dget hu (pv 7) (pv 6) (fun _ _ => rfl)) pe_int (fun _ _ => rfl)) pe_int pe_str rfl)
    (pss_cons (ps_dput hu (pv 7) pe_str pe_non rfl)
    (pss_cons (ps_set (i := 12) sc41.nd rfl (Or.inl rfl) (pe_fR cTb hr (by decide) rfl (pa_cons (pv 4) pa_nil)))
    (pss_one (ps_ret (pe_and (pe_fR cLT hr (by decide) rfl (pa_cons (pv 5) (pa_cons (pv 12) pa_nil))) (pe_one (pe_cmpR op_eq (pe_ix (ix_tupK K) (pe_dget hu (pv 12) (pv 6) (fun _ _ => rfl)) pe_int (fun _ _ => rfl)) (pv 8) (nomark _)))))))))))))))))))))))), ?_⟩
  -- deck, rare, rows
  refine ⟨_, rfl, a, ns, rfl, hS, hl, fun H1 d s1 nd D1 => ?_⟩
  refine ⟨_, rfl, a, ns, rfl, (same_keep s1).sqL hS, hl, fun H2 ra s2 => ?_⟩
  refine ⟨_, rfl, _, rfl, _, _, rfl, rfl, (by show (0 : Int) < 8; decide), rfl, d, _, rfl, D1.same s2, fun H3 a1 R n b3 D3 e3 O hnd => ?_⟩
  refine ⟨fun σ' H' => ∃ (a1 : Addr) (R : List Row) (n : Nat), σ' = [some (.ref a), some (.ref d), some (.int ra), some (.ref a1), none, none, none, none, none, none, none, none, none] ∧ DeckAt H' d ∧ H' a1 = some (.lst (rowsV R)) ∧ RowsOk n R ∧ R.Nodup, ?_, ?_⟩
  · refine ⟨_, rfl, _, _, rfl, rfl, (by show (0 : Int) < 16; decide), rfl, _, rfl, ite2 (fun _ => ?_) (fun _ => ⟨a1, R, n, rfl, D3, e3, O, hnd⟩)⟩
    exact ⟨_, rfl, d, rfl, D3, fun H4 a2 R2 n2 b4 D4 e4 O2 nd2 => ⟨a2, R2, n2, rfl, D4, e4, O2, nd2⟩⟩
  clear O hnd e3 D3 b3 D1
  rintro σ' H4 ⟨a1, R, n, rfl, D4, e4, O, hnd⟩
  -- lot
  refine ⟨_, rfl, a1, _, rfl, SqL.of e4, fun rv hrv x dx hx hdx ndx => ?_⟩
  rw [rowsV_rev] at hx hdx ⊢
  have s5 := same_new hrv (.lst (rowsV R.reverse))
  have s5' : Same H4 (upd (upd (upd H4 rv (.lst (rowsV R.reverse))) dx (.own x)) x (.ins (He.ga K "Lot") dx [])) := fun c u h => by
    have h1 := s5 _ _ h
    rw [upd_ne (ne_of_none h1 hx), upd_ne (ne_of_none h1 hdx)]
    exact h1
  have nrx : rv ≠ x := fun e => by rw [← e, upd_same] at hx; cases hx
  have nrd : rv ≠ dx := fun e => by rw [← e, upd_same] at hdx; cases hdx
  have pr : R.reverse.Perm R := List.reverse_perm R
  refine ⟨x, dx, rv, R.reverse, n, rfl, upd_same, SqL.of (by rw [upd_ne nrx, upd_ne nrd, upd_same]), O.perm pr, pr.nodup_iff.mpr hnd, fun H5 t kn R' kp5 lot5 rt5 kn5 perm5 => ⟨rfl, ?_⟩⟩
  have pR : R'.Perm R := perm5.trans pr
  have hin : ∀ r, r ∈ R' ↔ r ∈ R := fun r => pR.mem_iff
  have O' : RowsOk n R' := O.perm pR
  have x0 : H4 x = none := s5.free hx
  have s45 : Same H4 H5 := fun c u h => kp5 _ _ (s5' _ _ h) (ne_of_none h x0)
  have D5 := D4.same s45
  have e5 := s45 _ _ e4
  -- standings
  refine ⟨_, rfl, a1, R, n, rfl, SqL.of e5, O, fun H6 sd L s6 nsd std6 frL => ?_⟩
  have nsk : sd ≠ kn := fun e => by
    rw [e, kn5] at nsd
    cases nsd
  have nwk : ∀ y ∈ L, y.2 ≠ kn := fun y hy e => by
    have h := frL y hy
    rw [e, kn5] at h
    cases h
  have B6 : Bk K n R R' x t kn d sd L H6 := ⟨lot5.same s6, s6 _ _ rt5, .inl (s6 _ _ kn5), D5.same s6, std6, nsk, nwk⟩
  have e6 := s6 _ _ e5
  -- begin
  obtain ⟨r0, rs, eR⟩ : ∃ r0 rs, R = r0 :: rs := by
    cases R with
    | nil => exact absurd rfl O.ne
    | cons r0 rs => exact ⟨r0, rs, rfl⟩
  have l0 : r0.length = n := O.wide r0 (by rw [eR]; exact List.mem_cons_self)
  have a0 : atI (rowsV R) 0 = some (.str (encR r0)) := by
    rw [eR]
    exact at_of (j := 0) rfl rfl
  have hn10 := O.n10
  have hl10 := O.l10
  have lz : (encR r0).length ≤ sizeLine ∧ n = (encR r0).length := by
    rw [encR_len, l0]
    exact ⟨small10 (by omega), rfl⟩
  refine ⟨_, rfl, a1, _, _, _, rfl, rfl, SqL.of e6, a0, _, n, rfl, lz, _, _, rfl, rfl, (dots_mul O.n10).1, ?_⟩
  rw [(dots_mul O.n10).2]
  have rb : Reach n R (st0 n) := .base
  have er0 : rowsOf R (st0 n) = R := rowsOf_st0 n R
  -- table
  refine ⟨_, rfl, n, R', O', x, t, kn, rfl, B6.lot, B6.rt, B6.mem, fun H7 td Lt b7 m7 frT etd ndt ent full => ?_⟩
  have B7 := B6.butM b7 m7
  have T7 : Tb n R td kn Lt H7 := ⟨etd, ndt, fun e he => ⟨(ent e he).1.other hin, (ent e he).2.2, (ent e he).2.1.1⟩, full_same hin full, frT.1⟩
  -- what stood before the table is none of its dicts
  have far : ∀ z kvs, Rd H6 z (.dK kvs) → z ≠ td ∧ ∀ e ∈ Lt, z ≠ e.2.2 := fun z kvs r => by
    rcases r with r | ⟨o, r⟩
    · exact ⟨frT.ne r (fun m y => by cases y), fun e he => (ent e he).2.1.ne r (fun m y => by cases y)⟩
    · exact ⟨frT.ne r (fun m y => by cases y), fun e he => (ent e he).2.1.ne r (fun m y => by cases y)⟩
  have farS := far sd _ std6.hd
  have farL : ∀ y ∈ L, y.2 ≠ td ∧ ∀ e ∈ Lt, y.2 ≠ e.2.2 := fun y hy => by
    obtain ⟨_, la, g, _⟩ := std6.ok y hy
    exact far _ _ g
  obtain ⟨⟨tp, wd⟩, hbe⟩ := key_mem (T7.full _ rb)
  -- the two looks at the table
  have isT : ∀ H8 more dd (M : List (Stg × Addr × Addr)), Bk K n R R' x t kn d sd L H8 → H8 dd = some (.dK (SDict fT M)) → (M.map (·.1)).Nodup → (∀ e ∈ M, EntOk H8 n R more e) → Full n R M → ∀ Q : VK, (∀ H9, Same H8 H9 → Q (.bl true) H9) → ∀ E, anyRows (spIsT K) [.ref x, .ref dd] H8 Q E := fun H8 more dd M B hd hnd hen hf Q hq E =>
    ⟨n, R', O', x, t, kn, dd, M, more, rfl, B.lot, B.rt, hd, hnd, fun e he => (hen e he).other (fun r => (hin r).symm), full_same (fun r => (hin r).symm) hf, hq⟩
  refine ⟨_, rfl, _, rfl, n, R, O, sd, td, L, Lt, 0, rfl, B7.std, T7.tab, fun H8 s8 => ⟨true, rfl, iteF ?_⟩⟩
  have B8 := B7.same s8
  have T8 := T7.same s8
  refine ⟨_, rfl, _, rfl, isT H8 0 td Lt B8 T8.hd T8.nd (fun e he => (T8.ok e he).1) T8.full _ (fun H9 s9 => ?_) _⟩
  have B9 := B8.same s9
  have T9 := T8.same s9
  refine ⟨_, _, rfl, rfl, _, rfl, iteF ?_⟩
  -- least
  refine ⟨_, rfl, fun k1 hk1 => ?_⟩
  have sk1 := same_new hk1 (.dK [])
  refine ⟨_, rfl, n, R, O, sd, k1, st0 n, L, [], H9, rfl, hk1, Keep2.same sk1, B9.std, upd_same, ⟨List.nodup_nil, fun y hy => (by cases hy)⟩, rb, by rw [er0]; omega, fun H10 m10 b10 _ _ => ?_⟩
  have s10 := but_new hk1 b10
  have B10 := B9.same s10
  have T10 := T9.same s10
  rw [er0]
  -- the numbers
  have ent0 := T10.ok _ hbe
  have et0 : H10 tp = some (.tup [.int ((Lik.D n R : Nat) : Int), .ref wd]) := by
    have h := ent0.1.2.1
    rw [show (st0 n, tp, wd).1 = st0 n from rfl, er0] at h
    exact h
  refine ⟨_, rfl, _, rfl, td, .ref tp, rfl, sget (.inl T10.hd) T10.nd hbe rfl, tp, _, _, _, rfl, rfl, SqT.of et0, at_of (j := 0) rfl rfl, _, rfl, rfl, _, rfl, iteNS rfl ?_⟩
  refine ⟨_, rfl, n, R', O', x, t, kn, rfl, B10.lot, B10.rt, B10.mem, fun H11 b11 m11 => ?_⟩
  have B11 := B10.butM b11 m11
  have T11 := T10.butM b11 B10.mem.dk
  refine ⟨_, rfl, rfl, _, rfl, iteNS (by rw [D_same hin]) ?_⟩
  refine ⟨_, rfl, _, rfl, fun k2 hk2 => ?_⟩
  have sk2 := same_new hk2 (.dK [])
  refine ⟨_, rfl, n, R, O, sd, td, k2, st0 n, L, Lt, [], H11, rfl, hk2, Keep2.same sk2, B11.std, T11.tab, upd_same, ⟨List.nodup_nil, fun y hy => (by cases hy)⟩, rb, by rw [er0]; omega, fun H12 m12 r12 b12 _ _ hr12 => ?_⟩
  have s12 := but_new hk2 b12
  have B12 := B11.same s12
  have T12 := T11.same s12
  rw [er0] at hr12
  refine ⟨_, rfl, _, _, rfl, rfl, _, rfl, ite2 (fun c => absurd (of_decide_eq_true c) (by omega)) (fun _ => ?_)⟩
  -- more
  refine ⟨_, rfl, _, _, rfl, rfl, ⟨by decide, by decide, by decide⟩, d, _, rfl, B12.deck, by decide, by decide, fun H13 mo h130 _ b13 D13 => ?_⟩
  obtain ⟨more, rfl⟩ := Int.eq_ofNat_of_zero_le h130
  have B13 := B12.pick b13 D13
  have T13 := T12.pick b13 B12.deck
  -- raised
  intro rd hrd
  have srd := same_new hrd (.dK [])
  refine ⟨_, rfl, td, _, rfl, srd _ _ T13.hd, fun lq hlq => ?_⟩
  have ek : ((SDict fT Lt).map fun kv => kV kv.1) = stgV (Lt.map (·.1)) := by
    unfold SDict stgV
    rw [List.map_map, List.map_map]
    rfl
  rw [ek]
  have slq := same_new hlq (.lst (stgV (Lt.map (·.1))))
  refine ⟨lq, (Lt.map (·.1)).map encS, rfl, rfl, SqL.of (by rw [upd_same, stgV_str]), fun ys sp hperm hsp => ?_⟩
  obtain ⟨W, hW, rfl⟩ := perm_stg hperm
  have ssp := same_new hsp (.lst ((W.map encS).map V.str))
  have sAll := srd.trans (slq.trans ssp)
  have erd : upd (upd (upd H13 rd (.dK [])) lq (.lst (stgV (Lt.map (·.1))))) sp (.lst ((W.map encS).map V.str)) rd = some (.dK []) := ssp _ _ (slq _ _ upd_same)
  have esp : upd (upd (upd H13 rd (.dK [])) lq (.lst (stgV (Lt.map (·.1))))) sp (.lst ((W.map encS).map V.str)) sp = some (.lst (stgV W)) := by rw [upd_same, stgV_str]
  have hWn : W.Nodup := hW.nodup_iff.mpr T13.nd
  have nrsp : rd ≠ sp := ne_of erd esp (by intro z; cases z)
  generalize upd (upd (upd H13 rd (.dK [])) lq (.lst (stgV (Lt.map (·.1))))) sp (.lst ((W.map encS).map V.str)) = HB at sAll erd esp
  refine ⟨sp, rfl, ⟨_, SqL.of esp⟩, for_it walk_list (fun i σ H => ∃ (M : List (Stg × Addr × Addr)) (v11 : Option V), σ = [some (.ref a), some (.ref d), some (.int ra), some (.ref a1), some (.ref x), some (.ref sd), some (.str (encS (st0 n))), some (.ref td), some (.int (Lik.D n R : Nat)), some (.int (more : Nat)), some (.ref rd), v11, none] ∧ Same H13 H ∧ H sp = some (.lst (stgV W)) ∧
      H rd = some (.dK (SDict fT M)) ∧ M.map (·.1) = W.take i ∧ ∀ e ∈ M, EntOk H n R more e ∧ e.2.2 ≠ rd)
    ⟨[], none, rfl, sAll, esp, erd, rfl, fun e he => by cases he⟩ (fun i σ H _ ⟨_, _, _, _, h, _⟩ => SqL.of h) (fun i y σ H H' hi pv yy => ?_) (fun σ H14 pv => ?_)⟩
  · obtain ⟨rfl, hy⟩ := yy
    obtain ⟨sh, hsh, rfl⟩ := stg_get hy
    obtain ⟨M, v11, rfl, sH, espH, erdH, eM, enM⟩ := pv
    have TH := T13.same sH
    have hshL : sh ∈ Lt.map (·.1) := hW.mem_iff.mp (List.mem_of_getElem? hsh)
    obtain ⟨⟨tq, wq⟩, hq⟩ := key_mem hshL
    obtain ⟨⟨g1, g2, g3⟩, g4, g5⟩ := TH.ok _ hq
    refine ⟨_, rfl, _, rfl, td, .ref tq, rfl, sget (.inl TH.hd) TH.nd hq rfl, tq, _, _, _, rfl, rfl, SqT.of g2, at_of (j := 0) rfl rfl, _, rfl, _, _, rfl, rfl, ?_⟩
    refine ⟨_, rfl, _, rfl, td, .ref tq, rfl, sget (.inl TH.hd) TH.nd hq rfl, tq, _, _, _, rfl, rfl, SqT.of g2, at_of (j := 1) rfl rfl, .inr (.inr (.inl ⟨rfl, .inl ⟨_, g3⟩⟩)), wq, _, rfl, rfl, .inl g3, fun cp hcp => ?_⟩
    have scp := same_new hcp (.dK (wordsD n (rowsOf R (sh, tq, wq).fst)))
    refine ⟨by show 2 ≤ sizeLine; decide, fun tn htn => ?_⟩
    have stn := same_new htn (.tup [.int (((Lik.D n (rowsOf R (sh, tq, wq).fst) + 0 : Nat) : Int) + (more : Nat)), .ref cp])
    have s2' := scp.trans stn
    have erd2 := s2' _ _ erdH
    have hRM : ∀ e ∈ M, Reach n R e.1 := fun e he => (enM e he).1.1
    have hnM : (M.map (·.1)).Nodup := by
      rw [eM]
      exact List.Sublist.nodup (List.take_sublist _ _) hWn
    have hnin : sh ∉ M.map (·.1) := by
      rw [eM]
      exact nd_take hWn hsh
    refine ⟨_, rfl, _, rfl, rd, _, rfl, DPut.k (k := .inr (encS sh)) erd2 (by rw [SDict_len]; exact reach_len hnM hRM O.n10), ?_⟩
    have eP : putK (SDict fT M) (.inr (encS sh)) (.ref tn) = SDict fT (M ++ [(sh, (tn, cp))]) := SDict_put (f := fT) (x := (tn, cp)) hnin
    have ncp : cp ≠ rd := fun e => by rw [e, erdH] at hcp; cases hcp
    refine ⟨M ++ [(sh, (tn, cp))], _, rfl, fun c u h => ?_, ?_, ?_, ?_, fun e he => ?_⟩
    · rw [upd_ne (ne_of_none h hrd)]
      exact s2' _ _ (sH _ _ h)
    · rw [upd_ne nrsp.symm]
      exact s2' _ _ espH
    · rw [upd_same, eP]
    · rw [List.map_append, eM, List.take_add_one, hsh]
      rfl
    · rcases List.mem_append.mp he with z | z
      · obtain ⟨⟨f1, f2, f3⟩, f4⟩ := enM e z
        refine ⟨⟨f1, ?_, ?_⟩, f4⟩
        · rw [upd_ne (ne_of f2 erdH (by intro z; cases z))]
          exact s2' _ _ f2
        · rw [upd_ne f4]
          exact s2' _ _ f3
      · rw [List.mem_singleton.mp z]
        refine ⟨⟨g1, ?_, ?_⟩, ncp⟩
        · show upd _ rd _ tn = _
          rw [upd_ne (fun e => by rw [e, scp _ _ erdH] at htn; cases htn), upd_same]
          rfl
        · show upd _ rd _ cp = _
          rw [upd_ne ncp]
          exact stn _ _ upd_same
  obtain ⟨M, v11, rfl, sH, _, erdH, eM, enM⟩ := pv
  have elW : (stgV W).length = W.length := List.length_map _
  rw [elW, List.take_length] at eM
  have B14 := B13.same sH
  have T14 := T13.same sH
  -- is_clever_table(lot, raised)
  refine ⟨_, rfl, _, rfl, isT H14 more rd M B14 erdH (by rw [eM]; exact hWn) (fun e he => (enM e he).1) (fun s hs => by rw [eM]; exact hW.mem_iff.mpr (T13.full s hs)) _ (fun H15 s15 => ?_) _⟩
  have B15 := B14.same s15
  have T15 := T14.same s15
  refine ⟨_, _, rfl, rfl, _, rfl, iteF ?_⟩
  -- table[begin][1][99] = "0"
  obtain ⟨⟨_, g2, g3⟩, g4, g5⟩ := T15.ok _ hbe
  refine ⟨_, rfl, _, rfl, td, .ref tp, rfl, sget (.inl T15.hd) T15.nd hbe rfl, tp, _, _, _, rfl, rfl, SqT.of g2, at_of (j := 1) rfl rfl, wd, _, rfl, DPut.k (k := .inl 99) g3 (by unfold wordsD; rw [ND_len]; have := opens_len n (rowsOf R (st0 n, tp, wd).fst); exact small1000 (by omega)), ?_⟩
  have B16 := B15.upd (m' := putK (wordsD n (rowsOf R (st0 n, tp, wd).fst)) (.inl 99) (.str "0")) g3 g5 (farS.2 _ hbe) (fun y hy => (farL y hy).2 _ hbe)
  have etd16 : upd H15 wd (.dK (putK (wordsD n (rowsOf R (st0 n, tp, wd).fst)) (.inl 99) (.str "0"))) td = some (.dK (SDict fT Lt)) := by
    rw [upd_ne (fun e => g4 e.symm)]
    exact T15.hd
  -- table["x"] = None
  refine ⟨_, rfl, td, _, rfl, DPut.k (k := .inr "x") etd16 (by rw [SDict_len]; exact reach_len T15.nd (fun e he => (T15.ok e he).1.1) O.n10), ?_⟩
  have B17 := B16.upd (m' := putK (SDict fT Lt) (.inr "x") .non) etd16 T15.tk farS.1 (fun y hy => (farL y hy).1)
  -- again
  refine ⟨_, rfl, n, R', O', x, t, kn, rfl, B17.lot, B17.rt, B17.mem, fun H18 td2 Lt2 b18 m18 frT2 etd2 ndt2 ent2 full2 => ?_⟩
  have B18 := B17.butM b18 m18
  have T18 : Tb n R td2 kn Lt2 H18 := ⟨etd2, ndt2, fun e he => ⟨(ent2 e he).1.other hin, (ent2 e he).2.2, (ent2 e he).2.1.1⟩, full_same hin full2, frT2.1⟩
  obtain ⟨⟨tp2, wd2⟩, hbe2⟩ := key_mem (T18.full _ rb)
  refine ⟨_, rfl, _, rfl, n, R, O, sd, td2, L, Lt2, 0, rfl, B18.std, T18.tab, fun H19 s19 => ⟨true, rfl, iteT ?_⟩⟩
  have T19 := T18.same s19
  have et2 : H19 tp2 = some (.tup [.int ((Lik.D n R : Nat) : Int), .ref wd2]) := by
    have h := (T19.ok _ hbe2).1.2.1
    rw [show (st0 n, tp2, wd2).1 = st0 n from rfl, er0] at h
    exact h
  refine ⟨_, rfl, _, rfl, td2, .ref tp2, rfl, sget (.inl T19.hd) T19.nd hbe2 rfl, tp2, _, _, _, rfl, rfl, SqT.of et2, at_of (j := 0) rfl rfl, _, rfl, rfl, ?_⟩
  have ed : decide (V.int ((Lik.D n R : Nat) : Int) = V.int ((Lik.D n R : Nat) : Int)) = true := decide_eq_true rfl
  rw [ed]
  exact q H19
end
end Lik
set_option maxHeartbeats 0
namespace Lik
open PySem PySem.Spec PyProof.Rows L2
/-! ### the head: the run of the top -/
abbrev RL : PySem.W.OpenRow := PySem.W.OpenLaw.row PySem.Challenge.rw_likeslips_k23_whole_clever_tables
abbrev hkL : PySem.W.Hook := He.hookX 4 faG fnG [] [] exG
def obL (s : PySem.W.SharedT) : He.AlX := He.obsX 4 faG fnG [] [] exG (HandSHeadRun.getT s)
theorem obL_eq (s : PySem.W.SharedT) : obL s = hkL.obs s.abs := He.obsX_eq (HandSHeadRun.getT_eq s)
def looseL : List Str := (["SlipError", "BadLot", "SIGNS", "DOT", "MOST_ROWS", "MOST_PLACES", "is_integer", "is_sign", "is_row", "Lot", "start", "differing", "parted", "with_sign", "reached", "has_just"] : List Str) ++ (["deepest_from", "clever_memory", "cleverest", "word_at", "clever_table", "is_entry", "is_clever_table", "_law_deck", "_law_pick", "_law_fold", "_law_row", "_law_rows", "_law_few", "_law_ways", "_law_reached", "_law_is_entry", "_law_is_table", "_law_most", "_law_least"] : List Str)
theorem runL (w : World) : HandSHeadRun.RunEq RL (PySem.W.view RL.prog [41]) hkL obL 2000 looseL w := by
  intro os
  kernel_rfl
end Lik
open PySem PySem.W PySem.Calls PyProof.Rows
theorem PySem.Challenge.cw_likeslips_k23_whole_clever_tables_holds : PySem.Challenge.rw_likeslips_k23_whole_clever_tables.Holds := by
  w_on; o_law
  refine HandSHeadRun.head_any (r := OpenLaw.row PySem.Challenge.rw_likeslips_k23_whole_clever_tables) (q := view (OpenLaw.row PySem.Challenge.rw_likeslips_k23_whole_clever_tables).prog [41]) (H := Lik.hkL) (ob := Lik.obL) (M := 2000) (loose := Lik.looseL) (d := HandSHeadRun.topDef (OpenLaw.row PySem.Challenge.rw_likeslips_k23_whole_clever_tables).prog 41) (kwd := []) Lik.obL_eq
    (by kernel_rfl) (fun s => by kernel_rfl) Lik.runL (by kernel_rfl) (by kernel_rfl) (by kernel_rfl) (by rfl) (by first | assumption | decide +kernel) (by decide +kernel) ⟨rfl, rfl, rfl, rfl, rfl, by decide +kernel⟩ ?hw ?hc
  case hw => w_witness2
  case hc =>
    refine L2.walk_ofE (l := PySem.Challenge.rw_likeslips_k23_whole_clever_tables) (n := 63) (k := 16) (x := "_law_script") (CX := L2.CX0) rfl (by decide) (by kernel_rfl) ⟨rfl, by decide, by decide⟩ ?F (fun _ _ _ _ z => z)
    intro w mg fa h Y G hmg0
    obtain ⟨K, KX, c⟩ := Y
    have hmg : mg ("law" : PySem.Str) = some (.ref fa) := by
      have e : (HandSHeadRun.topDef (OpenLaw.row PySem.Challenge.rw_likeslips_k23_whole_clever_tables).prog 41).name = ("law" : PySem.Str) := by kernel_rfl
      rw [← e]
      exact hmg0
    have T : Lik.Txt K mg := ⟨c.t.d, c.more, ⟨h, KX, G⟩⟩
    have e := hmg.symm.trans (T.glo 54)
    cases e
    obtain ⟨fd, hb, hF⟩ := Lik.ok_law (P := (PySem.Challenge.rw_likeslips_k23_whole_clever_tables).prog) (w := w) T
    exact ⟨K, fd, Lik.spLaw K, KX, hb, fun H a ns hl _ hS => ⟨a, ns, rfl, hS, by omega, fun _ => rfl⟩, fun base _ _ => hF base⟩
