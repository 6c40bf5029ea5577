import PyProof.Rows.All
import Wide.All
import OpenK.AllK
import Wide.FinOn
import HandS.ForMost
import HandS.GenList
import HandS.AnyAll
import HandS.Codes
import HandS.TupAny
import HandS.Walk
import HandS.Conv
import KE.KDictKeyed
import HandS.Iter
import HandS.Zip
import KE.GoesEnum
import KE.GoesMore
import HandS.Dict
import HandS.DictComp
import KE.KDictDisplayH
import HandS.SortOrd
import HandS.SortInts
import HandS.TupLe
import KE.KSortTup
import KE.KDictSum
import HandS.Set
import HandS.SetFor
import HandS.Strs
import KE.KSetDisp
import PyProof.FactsAll.set_2
import HandS.Small
import HandS.More
import HandS.IsInst
import HandS.SetIn
import PySem.Challenge.RW_ordershown_k10_whole_an_order_or_a_table
import HandS.EndTab
import HandS.EndOwn
import HandS.EndBits
set_option Elab.async false
set_option linter.all false
set_option maxRecDepth 100000
section
set_option maxHeartbeats 200000
namespace OSx

/-! ### the search, with no program in sight -/
structure Sys (σ : Type) where
  n : Nat
  bef : Nat → Nat → Bool
  cmp : Nat → Bool
  stp : Nat → σ → σ × Bool
  init : σ

theorem perm_sorted_eq {r : Nat → Nat → Prop} (anti : ∀ a b, r a b → r b a → a = b) : ∀ {l m : List Nat}, l.Perm m → l.Pairwise r → m.Pairwise r → l = m
  | [], m, h, _, _ => by rw [h.symm.eq_nil]
  | a :: l, [], h, _, _ => by cases h.eq_nil
  | a :: l, b :: m, h, hl, hm => by
    rw [List.pairwise_cons] at hl hm
    have hab : a = b := by
      have h1 : a ∈ b :: m := h.mem_iff.mp (List.mem_cons_self ..)
      have h2 : b ∈ a :: l := h.mem_iff.mpr (List.mem_cons_self ..)
      rcases List.mem_cons.mp h1 with e | e
      · exact e
      · rcases List.mem_cons.mp h2 with e' | e'
        · exact e'.symm
        · exact anti _ _ (hl.1 _ e') (hm.1 _ e)
    subst hab
    rw [perm_sorted_eq anti (List.Perm.cons_inv h) hl.2 hm.2]

theorem sub_len {α : Type} [DecidableEq α] : ∀ {l m : List α}, l.Nodup → (∀ x ∈ l, x ∈ m) → l.length ≤ m.length
  | [], _, _, _ => Nat.zero_le _
  | a :: l, m, hd, hs => by
    rw [List.nodup_cons] at hd
    have ha : a ∈ m := hs a (List.mem_cons_self ..)
    have h := sub_len (m := m.erase a) hd.2 fun x hx => by
      have hne : x ≠ a := fun e => hd.1 (e ▸ hx)
      exact (List.mem_erase_of_ne hne).mpr (hs x (List.mem_cons_of_mem _ hx))
    have hl := List.length_erase_of_mem ha
    have : 0 < m.length := List.length_pos_of_mem ha
    rw [List.length_cons]
    omega
theorem snoc_of {α : Type} {a : List α} {n : Nat} (h : a.length = n + 1) : ∃ b i, a = b ++ [i] :=
  ⟨a.dropLast, a.getLast (by intro e; rw [e] at h; cases h), (List.dropLast_concat_getLast _).symm⟩

/-- the sorted list of p and i -/
def ins (i : Nat) (p : List Nat) : List Nat := (p ++ [i]).mergeSort
theorem ins_perm (i : Nat) (p : List Nat) : (ins i p).Perm (p ++ [i]) := List.mergeSort_perm _ _
theorem ins_sorted (i : Nat) (p : List Nat) : (ins i p).Pairwise (· ≤ ·) := by
  have h := List.pairwise_mergeSort (le := fun a b : Nat => decide (a ≤ b)) (fun a b c h1 h2 => by simp at *; omega) (fun a b => by simp; omega) (p ++ [i])
  exact h.imp fun h => by simpa using h
theorem ins_eq {i : Nat} {p l : List Nat} (h : l.Perm (p ++ [i])) (hs : l.Pairwise (· ≤ ·)) : l = ins i p :=
  perm_sorted_eq (fun a b h1 h2 => Nat.le_antisymm h1 h2) (h.trans (ins_perm i p).symm) hs (ins_sorted i p)
theorem mem_ins {i j : Nat} {p : List Nat} : j ∈ ins i p ↔ j ∈ p ∨ j = i := by
  rw [(ins_perm i p).mem_iff]; simp
theorem ins_len (i : Nat) (p : List Nat) : (ins i p).length = p.length + 1 := by rw [(ins_perm i p).length_eq]; simp
theorem ins_nodup {i : Nat} {p : List Nat} (hp : p.Nodup) (hi : i ∉ p) : (ins i p).Nodup := by
  rw [(ins_perm i p).nodup_iff, List.nodup_append]
  exact ⟨hp, by simp, fun a ha b hb => by simp at hb; subst hb; exact fun e => hi (e ▸ ha)⟩
theorem ins_lt {i : Nat} {p : List Nat} (hp : p.Nodup) (hi : i ∉ p) : (ins i p).Pairwise (· < ·) := by
  have h1 := ins_sorted i p
  have h2 := ins_nodup hp hi
  exact (h1.and h2).imp fun h => by omega

section
variable {σ : Type} (Y : Sys σ)

abbrev Pos (σ : Type) := List Nat × σ

def can (p : List Nat) (i : Nat) : Bool := !p.contains i && (List.range Y.n).all fun j => !(Y.bef j i) || p.contains j
def mv1 (p : Pos σ) (i : Nat) : Option (Nat × Pos σ) := if can Y p.1 i && (Y.stp i p.2).2 then some (i, (ins i p.1, (Y.stp i p.2).1)) else none
def mv (p : Pos σ) : List (Nat × Pos σ) := (List.range Y.n).filterMap (mv1 Y p)
def whole (p : List Nat) : Bool := (List.range Y.n).all fun i => !(Y.cmp i) || p.contains i
def first : Pos σ := ([], Y.init)

theorem can_iff {p : List Nat} {i : Nat} : can Y p i = true ↔ i ∉ p ∧ ∀ j, j < Y.n → Y.bef j i = true → j ∈ p := by
  unfold can
  rw [Bool.and_eq_true, List.all_eq_true]
  simp only [List.mem_range, Bool.or_eq_true, Bool.not_eq_true', List.contains_eq_mem, decide_eq_true_eq, decide_eq_false_iff_not]
  constructor
  · rintro ⟨h1, h2⟩
    exact ⟨h1, fun j hj hb => (h2 j hj).resolve_left (by rw [hb]; simp)⟩
  · rintro ⟨h1, h2⟩
    refine ⟨h1, fun j hj => ?_⟩
    cases hb : Y.bef j i with
    | false => exact .inl rfl
    | true => exact .inr (h2 j hj hb)
theorem whole_iff {p : List Nat} : whole Y p = true ↔ ∀ i, i < Y.n → Y.cmp i = true → i ∈ p := by
  unfold whole
  rw [List.all_eq_true]
  simp only [List.mem_range, Bool.or_eq_true, Bool.not_eq_true', List.contains_eq_mem, decide_eq_true_eq]
  constructor
  · exact fun h2 j hj hb => (h2 j hj).resolve_left (by rw [hb]; simp)
  · intro h2 j hj
    cases hb : Y.cmp j with
    | false => exact .inl rfl
    | true => exact .inr (h2 j hj hb)
theorem mem_mv {p q : Pos σ} {i : Nat} : (i, q) ∈ mv Y p ↔ i < Y.n ∧ can Y p.1 i = true ∧ (Y.stp i p.2).2 = true ∧ q = (ins i p.1, (Y.stp i p.2).1) := by
  unfold mv mv1
  rw [List.mem_filterMap]
  constructor
  · rintro ⟨j, hj, h⟩
    split at h
    · rename_i hc
      rw [Bool.and_eq_true] at hc
      injection h with h
      injection h with h1 h2
      subst h1
      exact ⟨List.mem_range.mp hj, hc.1, hc.2, h2.symm⟩
    · cases h
  · rintro ⟨h1, h2, h3, rfl⟩
    exact ⟨i, List.mem_range.mpr h1, by rw [if_pos (by rw [h2, h3]; rfl)]⟩

inductive Path : Pos σ → List Nat → Pos σ → Prop
  | nil (p : Pos σ) : Path p [] p
  | cons {p q t : Pos σ} {i : Nat} {r : List Nat} : (i, q) ∈ mv Y p → Path q r t → Path p (i :: r) t
theorem Path.snoc {p q t : Pos σ} {i : Nat} {r : List Nat} (h : Path Y p r q) (hm : (i, t) ∈ mv Y q) : Path Y p (r ++ [i]) t := by
  induction h with
  | nil p => exact .cons hm (.nil _)
  | cons h1 _ ih => exact .cons h1 (ih hm)
theorem Path.trans {p q t : Pos σ} {r r' : List Nat} (h : Path Y p r q) (h' : Path Y q r' t) : Path Y p (r ++ r') t := by
  induction h with
  | nil p => exact h'
  | cons h1 _ ih => exact .cons h1 (ih h')
def Reach (q : Pos σ) : Prop := ∃ r, Path Y (first Y) r q
theorem Reach.first : Reach Y (first Y) := ⟨[], .nil _⟩
theorem Reach.step {p q : Pos σ} {i : Nat} (h : Reach Y p) (hm : (i, q) ∈ mv Y p) : Reach Y q := let ⟨r, hr⟩ := h; ⟨r ++ [i], hr.snoc Y hm⟩
/-- no whole position is got to -/
def Dead (p : Pos σ) : Prop := ∀ r q, Path Y p r q → whole Y q.1 = false
theorem dead_of {p : Pos σ} (hw : whole Y p.1 = false) (h : ∀ i q, (i, q) ∈ mv Y p → Dead Y q) : Dead Y p := by
  intro r q hp
  cases hp with
  | nil => exact hw
  | cons h1 h2 => exact h _ _ h1 _ _ h2
def Fits : Prop := ∃ q, Reach Y q ∧ whole Y q.1 = true
theorem not_fits (h : Dead Y (first Y)) : ¬ Fits Y := fun ⟨q, ⟨r, hr⟩, hw⟩ => by rw [h r q hr] at hw; cases hw

/-! ### rows and orders -/
def IsRow (row : List Nat) : Prop := row.Nodup ∧ (∀ i ∈ row, i < Y.n) ∧ ∀ k i, row[k]? = some i → ∀ j, j < Y.n → Y.bef j i = true → j ∈ row.take k
def runs : List Nat → σ → σ
  | [], s => s
  | i :: r, s => runs r (Y.stp i s).1
def Legal : List Nat → σ → Prop
  | [], _ => True
  | i :: r, s => (Y.stp i s).2 = true ∧ Legal r (Y.stp i s).1
def IsOrder (row : List Nat) : Prop := IsRow Y row ∧ Legal Y row Y.init ∧ whole Y row = true
theorem runs_append (a b : List Nat) (s : σ) : runs Y (a ++ b) s = runs Y b (runs Y a s) := by
  induction a generalizing s with
  | nil => rfl
  | cons i a ih => exact ih _
theorem legal_append (a b : List Nat) (s : σ) : Legal Y (a ++ b) s ↔ Legal Y a s ∧ Legal Y b (runs Y a s) := by
  induction a generalizing s with
  | nil => exact ⟨fun h => ⟨trivial, h⟩, fun h => h.2⟩
  | cons i a ih =>
    show (Y.stp i s).2 = true ∧ Legal Y (a ++ b) _ ↔ ((Y.stp i s).2 = true ∧ Legal Y a _) ∧ Legal Y b (runs Y a _)
    rw [ih]
    exact ⟨fun ⟨x, y, z⟩ => ⟨⟨x, y⟩, z⟩, fun ⟨⟨x, y⟩, z⟩ => ⟨x, y, z⟩⟩
theorem isRow_snoc {a : List Nat} {i : Nat} : IsRow Y (a ++ [i]) ↔ IsRow Y a ∧ i < Y.n ∧ i ∉ a ∧ ∀ j, j < Y.n → Y.bef j i = true → j ∈ a := by
  constructor
  · rintro ⟨h1, h2, h3⟩
    rw [List.nodup_append] at h1
    refine ⟨⟨h1.1, fun j hj => h2 j (List.mem_append_left _ hj), fun k j hk m hm hb => ?_⟩, h2 i (by simp), fun hi => h1.2.2 i hi i (by simp) rfl, fun j hj hb => ?_⟩
    · have hlt := (List.getElem?_eq_some_iff.mp hk).1
      have := h3 k j (by rw [List.getElem?_append_left hlt]; exact hk) m hm hb
      rwa [List.take_append_of_le_length (by omega)] at this
    · have := h3 a.length i (by simp) j hj hb
      simpa using this
  · rintro ⟨⟨h1, h2, h3⟩, hi, hn, hb⟩
    refine ⟨?_, fun j hj => ?_, fun k j hk m hm hbm => ?_⟩
    · rw [List.nodup_append]
      exact ⟨h1, by simp, fun x hx y hy => by simp at hy; subst hy; exact fun e => hn (e ▸ hx)⟩
    · rcases List.mem_append.mp hj with hj | hj
      · exact h2 j hj
      · simp at hj; subst hj; exact hi
    · rcases Nat.lt_trichotomy k a.length with hk' | hk' | hk'
      · rw [List.getElem?_append_left hk'] at hk
        rw [List.take_append_of_le_length (by omega)]
        exact h3 k j hk m hm hbm
      · subst hk'
        simp at hk
        subst hk
        simpa using hb m hm hbm
      · rw [List.getElem?_eq_none (by simp; omega)] at hk
        cases hk
/-- what a path from the first position is -/
theorem path_row {a : List Nat} : ∀ {q : Pos σ}, Path Y (first Y) a q → IsRow Y a ∧ Legal Y a Y.init ∧ q.2 = runs Y a Y.init ∧ (∀ j, j ∈ q.1 ↔ j ∈ a) ∧ q.1.Pairwise (· < ·) ∧ q.1.length = a.length := by
  suffices H : ∀ (n : Nat) (a : List Nat), a.length = n → ∀ {q : Pos σ}, Path Y (first Y) a q → IsRow Y a ∧ Legal Y a Y.init ∧ q.2 = runs Y a Y.init ∧ (∀ j, j ∈ q.1 ↔ j ∈ a) ∧ q.1.Pairwise (· < ·) ∧ q.1.length = a.length from fun {q} h => H _ a rfl h
  have split : ∀ (r : List Nat) {p t : Pos σ} (i : Nat), Path Y p (r ++ [i]) t → ∃ q, Path Y p r q ∧ (i, t) ∈ mv Y q := by
    intro r
    induction r with
    | nil =>
      intro p t i h
      cases h with
      | cons h1 h2 => cases h2; exact ⟨_, .nil _, h1⟩
    | cons j r ih =>
      intro p t i h
      cases h with
      | cons h1 h2 =>
        obtain ⟨q, hq, hm⟩ := ih i h2
        exact ⟨q, .cons h1 hq, hm⟩
  intro n
  induction n with
  | zero =>
    intro a ha q h
    have : a = [] := List.length_eq_zero_iff.mp ha
    subst this
    cases h
    refine ⟨⟨List.nodup_nil, by simp, by simp⟩, trivial, rfl, fun j => Iff.rfl, List.Pairwise.nil, rfl⟩
  | succ n ih =>
    intro a ha q h
    obtain ⟨b, i, rfl⟩ : ∃ b i, a = b ++ [i] := snoc_of ha
    obtain ⟨p, hp, hm⟩ := split b i h
    obtain ⟨h1, h2, h3, h4, h5, h6⟩ := ih b (by simpa using ha) hp
    obtain ⟨m1, m2, m3, rfl⟩ := (mem_mv Y).mp hm
    obtain ⟨c1, c2⟩ := (can_iff Y).mp m2
    refine ⟨(isRow_snoc Y).mpr ⟨h1, m1, fun hi => c1 ((h4 i).mpr hi), fun j hj hb => (h4 j).mp (c2 j hj hb)⟩, ?_, ?_, ?_, ?_, ?_⟩
    · rw [legal_append]
      refine ⟨h2, ?_, trivial⟩
      rw [← h3]; exact m3
    · rw [runs_append, ← h3]; rfl
    · intro j
      show j ∈ ins i p.1 ↔ _
      rw [mem_ins, h4]; simp
    · exact ins_lt (h5.imp (fun h => Nat.ne_of_lt h)) c1
    · show (ins i p.1).length = _
      rw [ins_len, h6]; simp
theorem order_of_path {a : List Nat} {q : Pos σ} (h : Path Y (first Y) a q) (hw : whole Y q.1 = true) : IsOrder Y a := by
  obtain ⟨h1, h2, _, h4, _⟩ := path_row Y h
  refine ⟨h1, h2, (whole_iff Y).mpr fun i hi hc => (h4 i).mp ((whole_iff Y).mp hw i hi hc)⟩
theorem path_of_row {a : List Nat} (h1 : IsRow Y a) (h2 : Legal Y a Y.init) : ∃ q, Path Y (first Y) a q := by
  suffices H : ∀ (n : Nat) (a : List Nat), a.length = n → IsRow Y a → Legal Y a Y.init → ∃ q, Path Y (first Y) a q from H _ a rfl h1 h2
  intro n
  induction n with
  | zero =>
    intro a ha _ _
    have : a = [] := List.length_eq_zero_iff.mp ha
    subst this
    exact ⟨_, .nil _⟩
  | succ n ih =>
    intro a ha h1 h2
    obtain ⟨b, i, rfl⟩ : ∃ b i, a = b ++ [i] := snoc_of ha
    obtain ⟨r1, r2, r3, r4⟩ := (isRow_snoc Y).mp h1
    rw [legal_append] at h2
    obtain ⟨q, hq⟩ := ih b (by simpa using ha) r1 h2.1
    obtain ⟨_, _, q3, q4, _⟩ := path_row Y hq
    refine ⟨(ins i q.1, (Y.stp i q.2).1), hq.snoc Y ((mem_mv Y).mpr ⟨r2, (can_iff Y).mpr ⟨fun h => r3 ((q4 i).mp h), fun j hj hb => (q4 j).mpr (r4 j hj hb)⟩, ?_, rfl⟩)⟩
    rw [q3]; exact h2.2.1
theorem fits_of_order {a : List Nat} (h : IsOrder Y a) : Fits Y := by
  obtain ⟨q, hq⟩ := path_of_row Y h.1 h.2.1
  obtain ⟨_, _, _, q4, _⟩ := path_row Y hq
  exact ⟨q, ⟨a, hq⟩, (whole_iff Y).mpr fun i hi hc => (q4 i).mpr ((whole_iff Y).mp h.2.2 i hi hc)⟩
theorem reach_sorted {q : Pos σ} (h : Reach Y q) : q.1.Pairwise (· < ·) ∧ (∀ j ∈ q.1, j < Y.n) ∧ q.1.length ≤ Y.n := by
  obtain ⟨r, hr⟩ := h
  obtain ⟨h1, _, _, h4, h5, h6⟩ := path_row Y hr
  refine ⟨h5, fun j hj => h1.2.1 j ((h4 j).mp hj), ?_⟩
  have hn : q.1.Nodup := h5.imp (fun h => Nat.ne_of_lt h)
  have := sub_len (m := List.range Y.n) hn fun j hj => List.mem_range.mpr (h1.2.1 j ((h4 j).mp hj))
  simpa using this
end

/-- an order by one relation is one by a smaller relation -/
theorem fits_mono {σ : Type} {Y Z : Sys σ} (hn : Z.n = Y.n) (hc : Z.cmp = Y.cmp) (hs : Z.stp = Y.stp) (hi : Z.init = Y.init) (hb : ∀ i j, i < Y.n → j < Y.n → Z.bef i j = true → Y.bef i j = true) (h : Fits Y) : Fits Z := by
  obtain ⟨q, ⟨r, hr⟩, hw⟩ := h
  obtain ⟨⟨h1, h2, h3⟩, hl, hwr⟩ := order_of_path Y hr hw
  refine fits_of_order Z (a := r) ⟨⟨h1, fun i hi' => by rw [hn]; exact h2 i hi', fun k i hk j hj hbj => ?_⟩, ?_, ?_⟩
  · rw [hn] at hj
    exact h3 k i hk j hj (hb j i hj (h2 i (List.mem_of_getElem? hk)) hbj)
  · have : ∀ (r : List Nat) (s : σ), Legal Y r s → Legal Z r s := by
      intro r
      induction r with
      | nil => intro s _; trivial
      | cons i r ih =>
        rintro s ⟨x, y⟩
        exact ⟨by rw [hs]; exact x, by rw [hs]; exact ih _ y⟩
    rw [hi]; exact this _ _ hl
  · rw [whole_iff] at hwr ⊢
    intro i hi' hci
    rw [hn] at hi'
    rw [hc] at hci
    exact hwr i hi' hci

/-! ### how many positions there are -/
section
variable {σ : Type} [DecidableEq σ] (Y : Sys σ)
def lev : Nat → List (Pos σ)
  | 0 => [first Y]
  | k + 1 => (lev k).flatMap fun p => (mv Y p).map (·.2)
theorem lev_path {k : Nat} {q : Pos σ} : q ∈ lev Y k ↔ ∃ r, r.length = k ∧ Path Y (first Y) r q := by
  induction k generalizing q with
  | zero =>
    show q ∈ [first Y] ↔ _
    rw [List.mem_singleton]
    constructor
    · rintro rfl; exact ⟨[], rfl, .nil _⟩
    · rintro ⟨r, h, p⟩
      have : r = [] := List.length_eq_zero_iff.mp h
      subst this
      cases p; rfl
  | succ k ih =>
    show q ∈ (lev Y k).flatMap _ ↔ _
    rw [List.mem_flatMap]
    constructor
    · rintro ⟨p, hp, hq⟩
      obtain ⟨⟨i, q'⟩, hm, rfl⟩ := List.mem_map.mp hq
      obtain ⟨r, h1, h2⟩ := ih.mp hp
      exact ⟨r ++ [i], by simp [h1], h2.snoc Y hm⟩
    · rintro ⟨r, h1, h2⟩
      obtain ⟨b, i, rfl⟩ : ∃ b i, r = b ++ [i] := snoc_of h1
      have split : ∀ (r : List Nat) {p t : Pos σ} (i : Nat), Path Y p (r ++ [i]) t → ∃ q, Path Y p r q ∧ (i, t) ∈ mv Y q := by
        intro r
        induction r with
        | nil =>
          intro p t i h
          cases h with
          | cons h1 h2 => cases h2; exact ⟨_, .nil _, h1⟩
        | cons j r ih =>
          intro p t i h
          cases h with
          | cons h1 h2 =>
            obtain ⟨q, hq, hm⟩ := ih i h2
            exact ⟨q, .cons h1 hq, hm⟩
      obtain ⟨p, hp, hm⟩ := split b i h2
      exact ⟨p, ih.mpr ⟨b, by simpa using h1, hp⟩, List.mem_map.mpr ⟨(i, q), hm, rfl⟩⟩
theorem mv_len {p : Pos σ} (hn : p.1.Nodup) (hb : ∀ j ∈ p.1, j < Y.n) : (mv Y p).length ≤ Y.n - p.1.length := by
  have h1 : (mv Y p).length ≤ ((List.range Y.n).filter fun i => !p.1.contains i).length := by
    unfold mv
    have : ∀ l : List Nat, (l.filterMap (mv1 Y p)).length ≤ (l.filter fun i => !p.1.contains i).length := by
      intro l
      induction l with
      | nil => exact Nat.le_refl _
      | cons i l ih =>
        rw [List.filter_cons]
        by_cases hc : (can Y p.1 i && (Y.stp i p.2).2) = true
        · have e : mv1 Y p i = some (i, (ins i p.1, (Y.stp i p.2).1)) := by unfold mv1; rw [if_pos hc]
          rw [List.filterMap_cons_some e]
          rw [Bool.and_eq_true] at hc
          have : (!p.1.contains i) = true := by
            have := ((can_iff Y).mp hc.1).1
            simpa using this
          rw [if_pos this]
          simp only [List.length_cons]
          omega
        · have e : mv1 Y p i = none := by unfold mv1; rw [if_neg hc]
          rw [List.filterMap_cons_none e]
          split
          · simp only [List.length_cons]; omega
          · exact ih
    exact this _
  have h2 : ((List.range Y.n).filter fun i => !p.1.contains i).length + p.1.length ≤ Y.n := by
    have hnd : (((List.range Y.n).filter fun i => !p.1.contains i) ++ p.1).Nodup := by
      rw [List.nodup_append]
      refine ⟨List.nodup_range.sublist List.filter_sublist, hn, fun a ha b hb' e => ?_⟩
      subst e
      have := (List.mem_filter.mp ha).2
      simp at this
      exact this hb'
    have hs : ∀ a ∈ (((List.range Y.n).filter fun i => !p.1.contains i) ++ p.1), a ∈ List.range Y.n := by
      intro a ha
      rcases List.mem_append.mp ha with ha | ha
      · exact (List.mem_filter.mp ha).1
      · exact List.mem_range.mpr (hb a ha)
    have := sub_len hnd hs
    simpa using this
  omega
def cnt (n : Nat) : Nat → Nat
  | 0 => 1
  | k + 1 => cnt n k * (n - k)
theorem lev_len (k : Nat) : (lev Y k).length ≤ cnt Y.n k := by
  induction k with
  | zero => exact Nat.le_refl _
  | succ k ih =>
    show ((lev Y k).flatMap _).length ≤ cnt Y.n k * (Y.n - k)
    have : ∀ l : List (Pos σ), (∀ p ∈ l, (mv Y p).length ≤ Y.n - k) → (l.flatMap fun p => (mv Y p).map (·.2)).length ≤ l.length * (Y.n - k) := by
      intro l
      induction l with
      | nil => intro _; simp
      | cons p l ih2 =>
        intro h
        rw [List.flatMap_cons, List.length_append, List.length_map, List.length_cons, Nat.add_mul, Nat.one_mul]
        have a := h p (List.mem_cons_self ..)
        have b := ih2 fun q hq => h q (List.mem_cons_of_mem _ hq)
        omega
    refine Nat.le_trans (this _ fun p hp => ?_) (Nat.mul_le_mul_right _ ih)
    obtain ⟨r, hr, hp⟩ := (lev_path Y).mp hp
    obtain ⟨h1, _, _, h4, h5, h6⟩ := path_row Y hp
    have := mv_len Y (p := p) (h5.imp (fun h => Nat.ne_of_lt h)) (fun j hj => h1.2.1 j ((h4 j).mp hj))
    rw [h6, hr] at this
    exact this
theorem reach_few (hn : Y.n ≤ 9) {l : List (Pos σ)} (hd : l.Nodup) (hr : ∀ q ∈ l, Reach Y q) : l.length ≤ 1000000 := by
  have hs : ∀ q ∈ l, q ∈ (List.range 10).flatMap (lev Y) := by
    intro q hq
    obtain ⟨r, hp⟩ := hr q hq
    have h6 := (path_row Y hp).2.2.2.2.2
    have hl := (reach_sorted Y ⟨r, hp⟩).2.2
    exact List.mem_flatMap.mpr ⟨r.length, List.mem_range.mpr (by omega), (lev_path Y).mpr ⟨r, rfl, hp⟩⟩
  have h1 := sub_len hd hs
  have h2 : ((List.range 10).flatMap (lev Y)).length ≤ ((List.range 10).map (cnt Y.n)).sum := by
    have : ∀ l : List Nat, (l.flatMap (lev Y)).length ≤ (l.map (cnt Y.n)).sum := by
      intro l
      induction l with
      | nil => simp
      | cons k l ih =>
        rw [List.flatMap_cons, List.length_append, List.map_cons, List.sum_cons]
        have := lev_len Y k
        omega
    exact this _
  have h3 : ∀ n, n ≤ 9 → ((List.range 10).map (cnt n)).sum ≤ 1000000 := by
    intro n hn
    have : n = 0 ∨ n = 1 ∨ n = 2 ∨ n = 3 ∨ n = 4 ∨ n = 5 ∨ n = 6 ∨ n = 7 ∨ n = 8 ∨ n = 9 := by omega
    rcases this with rfl | rfl | rfl | rfl | rfl | rfl | rfl | rfl | rfl | rfl <;> decide
  have := h3 Y.n hn
  omega
end
end OSx

end

section
set_option maxHeartbeats 200000
namespace OSx

inductive Kind | reg | cnt | set | que deriving DecidableEq
inductive Act | write (v : Int) | read | swap (u v : Int) | add (v : Int) | get | insert (v : Int) | remove (v : Int) | has (v : Int) | put (v : Int) | take deriving DecidableEq
inductive Res | int (i : Int) | ok | yes | no | empty deriving DecidableEq
inductive St1 | n (i : Int) | l (xs : List Int) deriving DecidableEq
def Act.kind : Act → Kind
  | .write _ | .read | .swap _ _ => .reg
  | .add _ | .get => .cnt
  | .insert _ | .remove _ | .has _ => .set
  | .put _ | .take => .que
def Act.args : Act → List Int
  | .write v | .add v | .insert v | .remove v | .has v | .put v => [v]
  | .swap u v => [u, v]
  | .read | .get | .take => []
def Act.small (a : Act) : Prop := ∀ v ∈ a.args, 0 ≤ v ∧ v < 4
def yn (b : Bool) : Res := if b then .yes else .no
def insS (v : Int) (l : List Int) : List Int := l.filter (fun x => decide (x < v)) ++ v :: l.filter (fun x => decide (v < x))
def step1 (a : Act) (s : St1) : St1 × Res :=
  match a, s with
  | .write v, _ => (.n v, .ok)
  | .read, .n i => (.n i, .int i)
  | .swap u v, .n i => if i = u then (.n v, .yes) else (.n i, .no)
  | .add v, .n i => (.n (i + v), .ok)
  | .get, .n i => (.n i, .int i)
  | .insert v, .l xs => (.l (insS v xs), yn (!xs.contains v))
  | .remove v, .l xs => (.l (xs.filter fun x => decide (x ≠ v)), yn (xs.contains v))
  | .has v, .l xs => (.l xs, yn (xs.contains v))
  | .put v, .l xs => (.l (xs ++ [v]), .ok)
  | .take, .l [] => (.l [], .empty)
  | .take, .l (x :: xs) => (.l xs, .int x)
  | _, s => (s, .ok)
def init1 : Kind → St1
  | .reg | .cnt => .n 0
  | .set | .que => .l []
/-- a state of a kind, behind n operations -/
def Good1 (n : Nat) : Kind → St1 → Prop
  | .reg, s | .cnt, s => ∃ i, s = .n i
  | .set, s => ∃ xs, s = .l xs ∧ xs.Pairwise (· < ·) ∧ ∀ x ∈ xs, 0 ≤ x ∧ x < 4
  | .que, s => ∃ xs, s = .l xs ∧ xs.length ≤ n
theorem good_init (k : Kind) : Good1 0 k (init1 k) := by
  cases k
  · exact ⟨0, rfl⟩
  · exact ⟨0, rfl⟩
  · exact ⟨[], rfl, .nil, by simp⟩
  · exact ⟨[], rfl, Nat.le_refl _⟩
theorem Good1.mono {n m : Nat} (h : n ≤ m) {k : Kind} {s : St1} (g : Good1 n k s) : Good1 m k s := by
  cases k
  · exact g
  · exact g
  · exact g
  · obtain ⟨xs, e, l⟩ := g; exact ⟨xs, e, Nat.le_trans l h⟩
theorem mem_insS {v x : Int} {l : List Int} : x ∈ insS v l ↔ x = v ∨ x ∈ l := by
  unfold insS
  rw [List.mem_append, List.mem_cons, List.mem_filter, List.mem_filter]
  simp only [decide_eq_true_eq]
  constructor
  · rintro (⟨h, _⟩ | h | ⟨h, _⟩)
    · exact .inr h
    · exact .inl h
    · exact .inr h
  · rintro (h | h)
    · exact .inr (.inl h)
    · rcases Int.lt_trichotomy x v with q | q | q
      · exact .inl ⟨h, q⟩
      · exact .inr (.inl q)
      · exact .inr (.inr ⟨h, q⟩)
theorem insS_sorted {v : Int} {l : List Int} (h : l.Pairwise (· < ·)) : (insS v l).Pairwise (· < ·) := by
  unfold insS
  rw [List.pairwise_append, List.pairwise_cons]
  refine ⟨h.filter _, ⟨fun x hx => ?_, h.filter _⟩, fun x hx y hy => ?_⟩
  · simpa using (List.mem_filter.mp hx).2
  · have h1 : x < v := by simpa using (List.mem_filter.mp hx).2
    rcases List.mem_cons.mp hy with e | hy
    · omega
    · have h2 : v < y := by simpa using (List.mem_filter.mp hy).2
      omega
theorem sorted_int_eq : ∀ {l m : List Int}, l.Pairwise (· < ·) → m.Pairwise (· < ·) → (∀ x, x ∈ l ↔ x ∈ m) → l = m
  | [], [], _, _, _ => rfl
  | [], b :: m, _, _, h => by have := (h b).mpr (List.mem_cons_self ..); cases this
  | a :: l, [], _, _, h => by have := (h a).mp (List.mem_cons_self ..); cases this
  | a :: l, b :: m, hl, hm, h => by
    rw [List.pairwise_cons] at hl hm
    have hab : a = b := by
      rcases List.mem_cons.mp ((h a).mp (List.mem_cons_self ..)) with e | e
      · exact e
      · rcases List.mem_cons.mp ((h b).mpr (List.mem_cons_self ..)) with e' | e'
        · exact e'.symm
        · have := hl.1 _ e'; have := hm.1 _ e; omega
    subst hab
    rw [sorted_int_eq hl.2 hm.2 fun x => ?_]
    have := h x
    simp only [List.mem_cons] at this
    constructor
    · intro hx
      have hne : x ≠ a := fun e => by have := hl.1 _ hx; omega
      exact (this.mp (.inr hx)).resolve_left hne
    · intro hx
      have hne : x ≠ a := fun e => by have := hm.1 _ hx; omega
      exact (this.mpr (.inr hx)).resolve_left hne
theorem good_step {n : Nat} {a : Act} {s : St1} (ha : a.small) (g : Good1 n a.kind s) : Good1 (n + 1) a.kind (step1 a s).1 := by
  cases a with
  | write v => exact ⟨v, rfl⟩
  | read => obtain ⟨i, rfl⟩ := g; exact ⟨i, rfl⟩
  | swap u v =>
    obtain ⟨i, rfl⟩ := g
    show Good1 _ Kind.reg (if i = u then (St1.n v, Res.yes) else (St1.n i, Res.no)).1
    split
    · exact ⟨v, rfl⟩
    · exact ⟨i, rfl⟩
  | add v => obtain ⟨i, rfl⟩ := g; exact ⟨_, rfl⟩
  | get => obtain ⟨i, rfl⟩ := g; exact ⟨i, rfl⟩
  | insert v =>
    obtain ⟨xs, rfl, h1, h2⟩ := g
    refine ⟨_, rfl, insS_sorted h1, fun x hx => ?_⟩
    rcases mem_insS.mp hx with e | hx
    · rw [e]; exact ha v (by simp [Act.args])
    · exact h2 x hx
  | remove v =>
    obtain ⟨xs, rfl, h1, h2⟩ := g
    exact ⟨_, rfl, h1.filter _, fun x hx => h2 x (List.mem_filter.mp hx).1⟩
  | has v =>
    obtain ⟨xs, rfl, h1, h2⟩ := g
    exact ⟨_, rfl, h1, h2⟩
  | put v =>
    obtain ⟨xs, rfl, h1⟩ := g
    exact ⟨_, rfl, by simp; omega⟩
  | take =>
    obtain ⟨xs, rfl, h1⟩ := g
    cases xs with
    | nil => exact ⟨[], rfl, by simp⟩
    | cons x xs => exact ⟨xs, rfl, by simp at h1; omega⟩

/-! ### events and operations -/
inductive Ev | call (c o : Nat) (a : Act) | ret (c : Nat) (r : Res)
structure Op where
  c : Nat
  o : Nat
  a : Act
  r : Option Res
  called : Nat
  ret : Option Nat
structure Acc where
  l : List Op
  p : Nat
  w : Nat → Nat
  f : Nat → Bool
def acc0 : Acc := ⟨[], 0, fun _ => 0, fun _ => false⟩
def Acc.add (x : Acc) : Ev → Acc
  | .call c o a => ⟨x.l ++ [⟨c, o, a, none, x.p, none⟩], x.p + 1, fun y => if y = c then x.l.length else x.w y, fun y => if y = c then true else x.f y⟩
  | .ret c r => ⟨x.l.modify (x.w c) (fun op => { op with r := some r, ret := some x.p }), x.p + 1, x.w, fun y => if y = c then false else x.f y⟩
def accOf (ev : List Ev) : Acc := ev.foldl Acc.add acc0
theorem accOf_snoc (ev : List Ev) (e : Ev) : accOf (ev ++ [e]) = (accOf ev).add e := by
  unfold accOf
  rw [List.foldl_append]; rfl
theorem take_snoc {α : Type} {l : List α} {i : Nat} {x : α} (h : l[i]? = some x) : l.take (i + 1) = l.take i ++ [x] := by
  rw [List.take_add_one, h]; rfl
theorem accOf_take {ev : List Ev} {i : Nat} {e : Ev} (h : ev[i]? = some e) : accOf (ev.take (i + 1)) = (accOf (ev.take i)).add e := by
  rw [take_snoc h, accOf_snoc]
def OkEv (ks : List Kind) (f : Nat → Bool) : Ev → Prop
  | .call c o a => c < 3 ∧ f c = false ∧ ks[o]? = some a.kind ∧ a.small
  | .ret c _ => c < 3 ∧ f c = true
def WF (ks : List Kind) (ev : List Ev) : Prop := ∀ i e, ev[i]? = some e → OkEv ks (accOf (ev.take i)).f e
theorem WF.nil (ks : List Kind) : WF ks [] := fun i e h => by simp at h
theorem WF.take {ks : List Kind} {ev : List Ev} (h : WF ks ev) (n : Nat) : WF ks (ev.take n) := fun i e he => by
  have hi : i < n := by
    have := (List.getElem?_eq_some_iff.mp he).1
    rw [List.length_take] at this
    omega
  rw [List.getElem?_take_of_lt hi] at he
  rw [List.take_take, Nat.min_eq_left (Nat.le_of_lt hi)]
  exact h i e he
theorem WF.snoc {ks : List Kind} {ev : List Ev} {e : Ev} (h : WF ks ev) (he : OkEv ks (accOf ev).f e) : WF ks (ev ++ [e]) := fun i x hx => by
  rcases Nat.lt_trichotomy i ev.length with q | q | q
  · rw [List.getElem?_append_left q] at hx
    rw [List.take_append_of_le_length (Nat.le_of_lt q)]
    exact h i x hx
  · subst q
    simp at hx
    subst hx
    simpa using he
  · rw [List.getElem?_eq_none (by simp; omega)] at hx
    cases hx
theorem WF.last {ks : List Kind} {ev : List Ev} {e : Ev} (h : WF ks (ev ++ [e])) : WF ks ev ∧ OkEv ks (accOf ev).f e := by
  constructor
  · have := h.take ev.length
    simpa using this
  · have := h ev.length e (by simp)
    simpa using this

/-- what holds of the operations told so far -/
structure Told (ks : List Kind) (x : Acc) : Prop where
  lt : ∀ (i : Nat) (op : Op), x.l[i]? = some op → op.called < x.p ∧ (∀ r, op.ret = some r → r < x.p) ∧ op.c < 3 ∧ ks[op.o]? = some op.a.kind ∧ op.a.small ∧ (op.ret = none ↔ op.r = none)
  inc : ∀ (i j : Nat) (a b : Op), x.l[i]? = some a → x.l[j]? = some b → i < j → a.called < b.called
  sep : ∀ (i j : Nat) (a b : Op), x.l[i]? = some a → x.l[j]? = some b → i < j → a.c = b.c → ∃ r, a.ret = some r ∧ r < b.called
  wf : ∀ c, x.f c = true → ∃ op, x.l[x.w c]? = some op ∧ op.c = c ∧ op.ret = none
  pend : ∀ (i : Nat) (op : Op), x.l[i]? = some op → op.ret = none → x.f op.c = true ∧ x.w op.c = i
theorem told0 (ks : List Kind) : Told ks acc0 :=
  ⟨fun i op h => by simp [acc0] at h, fun i j a b h => by simp [acc0] at h, fun i j a b h => by simp [acc0] at h, fun c h => by simp [acc0] at h, fun i op h => by simp [acc0] at h⟩
theorem get_snoc {α : Type} {l : List α} {x y : α} {i : Nat} (h : (l ++ [x])[i]? = some y) : l[i]? = some y ∨ (i = l.length ∧ y = x) := by
  rcases Nat.lt_trichotomy i l.length with q | q | q
  · rw [List.getElem?_append_left q] at h; exact .inl h
  · subst q
    simp at h
    exact .inr ⟨rfl, h.symm⟩
  · rw [List.getElem?_eq_none (by simp; omega)] at h
    cases h
theorem told_add {ks : List Kind} {x : Acc} {e : Ev} (T : Told ks x) (h : OkEv ks x.f e) : Told ks (x.add e) := by
  cases e with
  | call c o a =>
    obtain ⟨hc, hf, ho, ha⟩ := h
    have lenOf : ∀ {i : Nat} {op : Op}, x.l[i]? = some op → i < x.l.length := fun h => (List.getElem?_eq_some_iff.mp h).1
    refine ⟨fun i op hi => ?_, fun i j p q hi hj hij => ?_, fun i j p q hi hj hij he => ?_, fun d hd => ?_, fun i op hi hr => ?_⟩
    · rcases get_snoc hi with hi | ⟨_, rfl⟩
      · obtain ⟨h1, h2, h3⟩ := T.lt i op hi
        exact ⟨Nat.lt_succ_of_lt h1, fun r hr => Nat.lt_succ_of_lt (h2 r hr), h3⟩
      · exact ⟨Nat.lt_succ_self _, fun r hr => (by cases hr), hc, ho, ha, by simp⟩
    · rcases get_snoc hj with hj | ⟨rfl, rfl⟩
      · rcases get_snoc hi with hi | ⟨rfl, rfl⟩
        · exact T.inc i j p q hi hj hij
        · have := lenOf hj; omega
      · rcases get_snoc hi with hi | ⟨rfl, rfl⟩
        · exact (T.lt i p hi).1
        · omega
    · rcases get_snoc hj with hj | ⟨rfl, rfl⟩
      · rcases get_snoc hi with hi | ⟨rfl, rfl⟩
        · exact T.sep i j p q hi hj hij he
        · have := lenOf hj; omega
      · rcases get_snoc hi with hi | ⟨rfl, rfl⟩
        · cases hr : p.ret with
          | none =>
            have := (T.pend i p hi hr).1
            rw [he] at this
            rw [hf] at this
            cases this
          | some r => exact ⟨r, rfl, (T.lt i p hi).2.1 r hr⟩
        · omega
    · by_cases hdc : d = c
      · subst hdc
        refine ⟨⟨d, o, a, none, x.p, none⟩, ?_, rfl, rfl⟩
        show (x.l ++ [_])[if d = d then x.l.length else x.w d]? = _
        rw [if_pos rfl]; simp
      · have hd' : x.f d = true := by
          have : (if d = c then true else x.f d) = true := hd
          rwa [if_neg hdc] at this
        obtain ⟨op, h1, h2, h3⟩ := T.wf d hd'
        refine ⟨op, ?_, h2, h3⟩
        show (x.l ++ [_])[if d = c then x.l.length else x.w d]? = _
        rw [if_neg hdc, List.getElem?_append_left (lenOf h1)]
        exact h1
    · rcases get_snoc hi with hi | ⟨rfl, rfl⟩
      · obtain ⟨h1, h2⟩ := T.pend i op hi hr
        have hne : op.c ≠ c := fun e => by rw [e, hf] at h1; cases h1
        exact ⟨by show (if op.c = c then true else x.f op.c) = true; rw [if_neg hne]; exact h1, by show (if op.c = c then x.l.length else x.w op.c) = i; rw [if_neg hne]; exact h2⟩
      · exact ⟨by show (if c = c then true else x.f c) = true; rw [if_pos rfl], by show (if c = c then x.l.length else x.w c) = _; rw [if_pos rfl]⟩
  | ret c r =>
    obtain ⟨hc, hf⟩ := h
    obtain ⟨o0, w1, w2, w3⟩ := T.wf c hf
    have get : ∀ {i : Nat} {op : Op}, (x.l.modify (x.w c) fun op => { op with r := some r, ret := some x.p })[i]? = some op →
        (i ≠ x.w c ∧ x.l[i]? = some op) ∨ (i = x.w c ∧ op = { o0 with r := some r, ret := some x.p }) := fun {i op} h => by
      by_cases e : x.w c = i
      · subst e
        rw [List.getElem?_modify_eq, w1] at h
        refine .inr ⟨rfl, ?_⟩
        injection h with h
        exact h.symm
      · rw [List.getElem?_modify_ne _ _ e] at h
        exact .inl ⟨fun q => e q.symm, h⟩
    refine ⟨fun i op hi => ?_, fun i j p q hi hj hij => ?_, fun i j p q hi hj hij he => ?_, fun d hd => ?_, fun i op hi hr => ?_⟩
    · rcases get hi with ⟨_, hi⟩ | ⟨_, rfl⟩
      · obtain ⟨h1, h2, h3⟩ := T.lt i op hi
        exact ⟨Nat.lt_succ_of_lt h1, fun r hr => Nat.lt_succ_of_lt (h2 r hr), h3⟩
      · obtain ⟨h1, _, h3, h4, h5, _⟩ := T.lt _ o0 w1
        exact ⟨Nat.lt_succ_of_lt h1, fun r hr => by injection hr with hr; subst hr; exact Nat.lt_succ_self _, h3, h4, h5, by simp⟩
    · have e1 : ∃ p0, x.l[i]? = some p0 ∧ p0.called = p.called := by
        rcases get hi with ⟨_, hi⟩ | ⟨rfl, rfl⟩
        · exact ⟨p, hi, rfl⟩
        · exact ⟨o0, w1, rfl⟩
      have e2 : ∃ q0, x.l[j]? = some q0 ∧ q0.called = q.called := by
        rcases get hj with ⟨_, hi⟩ | ⟨rfl, rfl⟩
        · exact ⟨q, hi, rfl⟩
        · exact ⟨o0, w1, rfl⟩
      obtain ⟨p0, a1, a2⟩ := e1
      obtain ⟨q0, b1, b2⟩ := e2
      rw [← a2, ← b2]
      exact T.inc i j p0 q0 a1 b1 hij
    · have e2 : ∃ q0, x.l[j]? = some q0 ∧ q0.called = q.called ∧ q0.c = q.c := by
        rcases get hj with ⟨_, hi⟩ | ⟨rfl, rfl⟩
        · exact ⟨q, hi, rfl, rfl⟩
        · exact ⟨o0, w1, rfl, rfl⟩
      obtain ⟨q0, b1, b2, b3⟩ := e2
      rcases get hi with ⟨_, hi⟩ | ⟨rfl, rfl⟩
      · rw [← b2]
        exact T.sep i j p q0 hi b1 hij (he.trans b3.symm)
      · obtain ⟨r', h1, _⟩ := T.sep _ j o0 q0 w1 b1 hij (he.trans b3.symm)
        rw [w3] at h1
        cases h1
    · have hdc : d ≠ c := fun e => by
        have : (if d = c then false else x.f d) = true := hd
        rw [if_pos e] at this
        cases this
      have hd' : x.f d = true := by
        have : (if d = c then false else x.f d) = true := hd
        rwa [if_neg hdc] at this
      obtain ⟨op, h1, h2, h3⟩ := T.wf d hd'
      have hne : x.w c ≠ x.w d := fun e => by
        rw [e, h1] at w1
        injection w1 with w1
        subst w1
        exact hdc (h2.symm.trans w2)
      refine ⟨op, ?_, h2, h3⟩
      show (x.l.modify (x.w c) _)[x.w d]? = _
      rw [List.getElem?_modify_ne _ _ hne, h1]
    · rcases get hi with ⟨hne, hi⟩ | ⟨_, rfl⟩
      · obtain ⟨h1, h2⟩ := T.pend i op hi hr
        have hdc : op.c ≠ c := fun e => hne (by rw [← e]; exact h2.symm)
        exact ⟨by show (if op.c = c then false else x.f op.c) = true; rw [if_neg hdc]; exact h1, h2⟩
      · cases hr
theorem told_of {ks : List Kind} {ev : List Ev} (h : WF ks ev) : Told ks (accOf ev) := by
  suffices H : ∀ (n : Nat) (ev : List Ev), ev.length = n → WF ks ev → Told ks (accOf ev) from H _ ev rfl h
  intro n
  induction n with
  | zero =>
    intro ev hl _
    have : ev = [] := List.length_eq_zero_iff.mp hl
    subst this
    exact told0 ks
  | succ n ih =>
    intro ev hl hw
    obtain ⟨b, e, rfl⟩ := snoc_of hl
    obtain ⟨h1, h2⟩ := hw.last
    rw [accOf_snoc]
    exact told_add (ih b (by simpa using hl) h1) h2
theorem acc_p (ev : List Ev) : (accOf ev).p = ev.length := by
  suffices H : ∀ (n : Nat) (ev : List Ev), ev.length = n → (accOf ev).p = ev.length from H _ ev rfl
  intro n
  induction n with
  | zero =>
    intro ev hl
    have : ev = [] := List.length_eq_zero_iff.mp hl
    subst this
    rfl
  | succ n ih =>
    intro ev hl
    obtain ⟨b, e, rfl⟩ := snoc_of hl
    have := ih b (by simpa using hl)
    rw [accOf_snoc, List.length_append, ← this]
    cases e <;> rfl
abbrev opsOf (ev : List Ev) : List Op := (accOf ev).l

/-! ### the system of a history -/
def opAt (l : List Op) (i : Nat) : Op := l.getD i ⟨0, 0, .read, none, 0, none⟩
def befR (l : List Op) (i j : Nat) : Bool := match (opAt l i).ret with
  | some r => decide (r < (opAt l j).called)
  | none => false
def befC (l : List Op) (i j : Nat) : Bool := decide ((opAt l i).c = (opAt l j).c) && decide ((opAt l i).called < (opAt l j).called)
def bef (m : Bool) (l : List Op) (i j : Nat) : Bool := if m then befR l i j else befC l i j
def stpO (op : Op) (s : List St1) : List St1 × Res := let q := step1 op.a (s.getD op.o (.n 0)); (s.set op.o q.1, q.2)
def sys (m : Bool) (ks : List Kind) (l : List Op) : Sys (List St1) where
  n := l.length
  bef := bef m l
  cmp := fun i => (opAt l i).ret.isSome
  stp := fun i s => ((stpO (opAt l i) s).1, (opAt l i).ret.isNone || decide ((opAt l i).r = some (stpO (opAt l i) s).2))
  init := ks.map init1
def Good (ks : List Kind) (n : Nat) (s : List St1) : Prop := s.length = ks.length ∧ ∀ (j : Nat) (k : Kind) (x : St1), ks[j]? = some k → s[j]? = some x → Good1 n k x
theorem good0 (ks : List Kind) : Good ks 0 (ks.map init1) := by
  refine ⟨by simp, fun j k x hk hx => ?_⟩
  rw [List.getElem?_map, hk] at hx
  injection hx with hx
  rw [← hx]
  exact good_init k
theorem Good.mono {ks : List Kind} {n m : Nat} {s : List St1} (h : n ≤ m) (g : Good ks n s) : Good ks m s := ⟨g.1, fun j k x a b => (g.2 j k x a b).mono h⟩
theorem good_stpO {ks : List Kind} {n : Nat} {s : List St1} {op : Op} (g : Good ks n s) (ho : ks[op.o]? = some op.a.kind) (ha : op.a.small) : Good ks (n + 1) (stpO op s).1 := by
  refine ⟨by show (s.set _ _).length = _; rw [List.length_set]; exact g.1, fun j k x hk hx => ?_⟩
  have hx' : (s.set op.o (step1 op.a (s.getD op.o (.n 0))).1)[j]? = some x := hx
  have hlt : op.o < s.length := by rw [g.1]; exact (List.getElem?_eq_some_iff.mp ho).1
  by_cases e : op.o = j
  · subst e
    rw [ho] at hk
    injection hk with hk
    subst hk
    rw [List.getElem?_set_self hlt] at hx'
    injection hx' with hx'
    rw [← hx']
    refine good_step ha (g.2 op.o _ _ ho ?_)
    rw [List.getD_eq_getElem?_getD, List.getElem?_eq_getElem hlt]
    rfl
  · rw [List.getElem?_set_ne e] at hx'
    exact (g.2 j k x hk hx').mono (Nat.le_succ n)
structure Hist where
  ks : List Kind
  ev : List Ev
structure Hist.Ok (h : Hist) : Prop where
  k1 : 1 ≤ h.ks.length
  k3 : h.ks.length ≤ 3
  wf : WF h.ks h.ev
  nine : (opsOf h.ev).length ≤ 9
  few : h.ev.length ≤ 48
abbrev Hist.ops (h : Hist) : List Op := opsOf h.ev
abbrev Hist.sys (h : Hist) (m : Bool) : Sys (List St1) := OSx.sys m h.ks h.ops
theorem Hist.Ok.op {h : Hist} (k : h.Ok) {i : Nat} (hi : i < h.ops.length) : h.ops[i]? = some (opAt h.ops i) ∧ h.ks[(opAt h.ops i).o]? = some (opAt h.ops i).a.kind ∧ (opAt h.ops i).a.small ∧ (opAt h.ops i).c < 3 := by
  have e : h.ops[i]? = some (opAt h.ops i) := by
    unfold opAt
    rw [List.getD_eq_getElem?_getD, List.getElem?_eq_getElem hi]; rfl
  obtain ⟨_, _, h3, h4, h5, _⟩ := (told_of k.wf).lt i _ e
  exact ⟨e, h4, h5, h3⟩
theorem good_runs {h : Hist} (k : h.Ok) (m : Bool) : ∀ (r : List Nat) (n : Nat) (s : List St1), (∀ i ∈ r, i < h.ops.length) → Good h.ks n s → Good h.ks (n + r.length) (runs (h.sys m) r s) := by
  intro r
  induction r with
  | nil => intro n s _ g; exact g
  | cons i r ih =>
    intro n s hb g
    obtain ⟨_, h2, h3, _⟩ := k.op (hb i (List.mem_cons_self ..))
    have := ih (n + 1) (stpO (opAt h.ops i) s).1 (fun j hj => hb j (List.mem_cons_of_mem _ hj)) (good_stpO g h2 h3)
    rw [List.length_cons, Nat.add_comm r.length 1, ← Nat.add_assoc]
    exact this
theorem reach_good {h : Hist} (k : h.Ok) {m : Bool} {q : Pos (List St1)} (hq : Reach (h.sys m) q) : Good h.ks q.1.length q.2 := by
  obtain ⟨r, hr⟩ := hq
  obtain ⟨h1, _, h3, _, _, h6⟩ := path_row _ hr
  rw [h3, h6]
  have := good_runs k m r 0 _ h1.2.1 (good0 h.ks)
  rw [Nat.zero_add] at this
  exact this
/-- what fits real time fits the clients -/
theorem fits_client {h : Hist} (k : h.Ok) (hf : Fits (h.sys true)) : Fits (h.sys false) := by
  refine fits_mono (Y := h.sys true) (Z := h.sys false) rfl rfl rfl rfl (fun i j hi hj hb => ?_) hf
  have T := told_of k.wf
  obtain ⟨ei, _⟩ := k.op hi
  obtain ⟨ej, _⟩ := k.op hj
  have hb' : befC h.ops i j = true := hb
  unfold befC at hb'
  rw [Bool.and_eq_true, decide_eq_true_eq, decide_eq_true_eq] at hb'
  have hij : i < j := by
    rcases Nat.lt_trichotomy i j with q | q | q
    · exact q
    · subst q; have := hb'.2; omega
    · have := T.inc j i _ _ ej ei q; omega
  obtain ⟨r, h1, h2⟩ := T.sep i j _ _ ei ej hij hb'.1
  show befR h.ops i j = true
  unfold befR
  rw [h1]
  exact decide_eq_true h2
end OSx

end

section
set_option maxHeartbeats 4000000
namespace GA
open PySem PySem.Spec PyProof.Rows L2 GenW GxR

/-! ### all(test for target in iter if ..), whatever the test does -/
/-- the context of a generator expression's frame -/
abbrev gcx (X : Cx) (A' : Around) (s : Shared) (H : Hp) (cenv : Env) (fp : List Addr) : Cx :=
  { X with A := A', s_0 := s, H_0 := H, env := cenv, outer := X.stack, stack := cenv :: X.stack, ex := fp, fn := fun _ => false, calm := true, pn := [], xe := fun _ _ => False }
section
variable {X : Cx} {pins : List (Addr × Obj)} {σ : L2.St} {H : Hp} {s : Shared}
theorem gen_start {scope : Scope} {own : List (Str × Nat)} {fp : List Addr} {A' : Around} {code : Value} {s' : Shared} {m : Str → Option Value} {pl : List (Addr × Obj)} (I : Inv X pins σ H s) (ok : BlkOk X.N X.env.scope scope own) (hcell : ∀ y ∈ scope.names, y.2 ≠ .cell)
    (hN : X.N.Nodup) (hfp : ∀ b ∈ fp, FpOk X pins H b ∧ b < s.heap.objs.size) (hA : A'.handled = none)
    (hfr : A'.frames = some (genEnv scope (cloFrom X.env.cells scope.names []) s.heap.objs.size code builtinsNs X.env :: X.stack))
    (hn : s'.heap.Ns s.heap.objs.size m) (hk : ∀ b o, s.heap.get? b = some o → s'.heap.get? b = some o) (hos : s'.os = s.os) (hba : AllBare s'.gens)
    (hpl : ∀ p ∈ pl, s'.heap.get? p.1 = some p.2 ∧ s.heap.objs.size < p.1 ∧ ∀ v, p.2.data ≠ .cell v) :
    Inv (gcx X A' s H (genEnv scope (cloFrom X.env.cells scope.names []) s.heap.objs.size code builtinsNs X.env) fp) pl (wipe σ (own.map (·.2))) H s' := by
  have hfree : ∀ y ∈ scope.names, y.2 = .free → ∃ c, X.env.cells.lookup y.1 = some c := fun y hy e => by
    rcases ok.free y hy e with k | k
    · exact I.ok.has _ (.inl k)
    · exact I.ok.has _ (.inr k)
  generalize hcenv : genEnv scope (cloFrom X.env.cells scope.names []) s.heap.objs.size code builtinsNs X.env = cenv at hfr ⊢
  have hL : cenv.locals = s.heap.objs.size := by rw [← hcenv]; rfl
  have hcl : cenv.cells = cloFrom X.env.cells scope.names [] := by rw [← hcenv]; rfl
  have hsc : cenv.scope = scope := by rw [← hcenv]; rfl
  have cm : ∀ {y c}, (y, c) ∈ cloFrom X.env.cells scope.names [] → X.env.cells.lookup y = some c ∧ c < s.heap.objs.size := fun {y c} hm => by
    rcases cloFrom_mem hm with hm | ⟨h1, rfl⟩
    · cases hm
    · obtain ⟨c, hc⟩ := hfree _ h1 rfl
      rw [hc]
      obtain ⟨w, z⟩ := I.cell _ _ hc
      exact ⟨rfl, z.lt⟩
  have mem : ∀ {y c}, cenv.cells.lookup y = some c → X.env.cells.lookup y = some c ∧ c < s.heap.objs.size := fun {y c} e => by
    rw [hcl] at e
    exact cm (PySem.mem_of_lookup e)
  have look : ∀ {y}, scope.names.lookup y = some .free → ∃ c, cenv.cells.lookup y = some c ∧ X.env.cells.lookup y = some c := fun {y} hl => by
    have hy : (y, NameKind.free) ∈ scope.names := PySem.mem_of_lookup hl
    obtain ⟨c', e'⟩ := mem_lookup (cloFrom_has (cells := X.env.cells) (acc := []) hy)
    rw [← hcl] at e'
    exact ⟨c', e', (mem e').1⟩
  have okB : (gcx X A' s H cenv fp).Ok := by
    refine ⟨I.ok.mod, by show cenv.scope.kind = _; rw [hsc]; exact ok.kind, by show cenv.globals = _; rw [← hcenv]; exact I.ok.glob, by show cenv.builtins = _; rw [← hcenv]; rfl, by show s.heap.objs.size ≤ cenv.locals; rw [hL]; exact Nat.le_refl _,
      fun y z c e1 e2 => I.ok.inj y z c (mem e1).1 (mem e2).1, fun y hy => ?_, fun y c z e => ?_, fun _ => hA, hfr, .inr ⟨rfl, by show cenv.frame = _; rw [← hcenv]; rfl⟩, fun b hb => ⟨?_, fun y c e z => ?_⟩, I.bs, Nat.le_trans I.ok.bsz I.sz, fun b o e hb => ?_, fun b hb z => ?_, I.stack, I.stkFree⟩
    · show ∃ c, cenv.cells.lookup y = some c
      have hy' : scope.names.lookup y = some .cell ∨ scope.names.lookup y = some .free := by
        have : cenv.kindOf y = some .cell ∨ cenv.kindOf y = some .free := hy
        unfold Env.kindOf at this
        rw [hsc] at this
        exact this
      rcases hy' with hy | hy
      · exact absurd rfl (hcell _ (PySem.mem_of_lookup hy))
      · obtain ⟨c, h1, _⟩ := look hy
        exact ⟨c, h1⟩
    · cases (show (false : Bool) = true from z)
    · show b ≠ cenv.locals
      rw [hL]; exact Nat.ne_of_lt (hfp b hb).2
    · have e : cenv.cells.lookup y = some c := e
      exact (hfp b hb).1.2.2.2.2.1 y c (mem e).1 z
    · rcases (hfp b hb).1.2.2.2.1 with z | z
      · exact I.ok.noex b o e z
      · exact absurd (Nat.lt_of_lt_of_le (Heap.lt_size e) (Nat.le_trans I.ok.bsz z)) (Nat.lt_irrefl _)
    · rcases List.mem_cons.mp (I.stkSub b z) with z | z
      · exact (hfp b hb).1.2.1 z
      · exact (hfp b hb).1.2.2.1 z
  have stkLt : ∀ b ∈ frs X.stack, b < s.heap.objs.size := fun b hb => by
    obtain ⟨_, o, ho, _⟩ := I.stack.mem hb
    exact Heap.lt_size ho
  refine ⟨okB, hos, hba, Un.kept hk, ⟨m, ?_, fun i y av e1 e2 e3 => ?_⟩, fun y c e => ?_, ?_, fun y c e => ?_, fun p hp => ?_, I.hok.kept hk, by rw [wipe_length]; exact I.len⟩
  · show Heap.Ns _ cenv.locals _
    rw [hL]; exact hn
  · obtain ⟨e2, hne⟩ := wipe_some e2
    have hfr : scope.names.lookup y = some .free ∧ (cenv.kindOf y = some .cell ∨ cenv.kindOf y = some .free) := by
      have key : ∀ k, cenv.scope.names.lookup y = some k → k = .local ∨ k = .cell ∨ k = .free → scope.names.lookup y = some .free ∧ (cenv.kindOf y = some .cell ∨ cenv.kindOf y = some .free) := fun k hk hk' => by
        have hk0 := hk
        rw [hsc] at hk
        have no : ¬ (k = .local ∨ k = .cell) := fun hh => by
          rcases ok.own _ (PySem.mem_of_lookup hk) hh with e' | e'
          · obtain ⟨p, hp, hpy⟩ := List.mem_map.mp e'
            have e3 := ok.ix p hp
            have : p.1 = y := hpy
            rw [this] at e3
            exact hne (List.mem_map.mpr ⟨p, hp, nodup_ix hN e3 e1⟩)
          · exact e' (List.mem_of_getElem? e1)
        rcases hk' with rfl | rfl | rfl
        · exact absurd (.inl rfl) no
        · exact absurd (.inr rfl) no
        · exact ⟨hk, .inr hk0⟩
      have e3 : Vis cenv.scope y := e3
      rcases e3 with e3 | e3 | e3
      · exact key _ e3 (.inl rfl)
      · exact key _ e3 (.inr (.inl rfl))
      · exact key _ e3 (.inr (.inr rfl))
    obtain ⟨m, hn, hl⟩ := I.loc
    have hvis : Vis X.env.scope y := (ok.free _ (PySem.mem_of_lookup hfr.1) rfl).elim (fun k => .inr (.inl k)) (fun k => .inr (.inr k))
    obtain ⟨w, r, q⟩ := hl i y av e1 e2 hvis
    refine ⟨w, r, .inr ⟨hfr.2, ?_⟩⟩
    obtain ⟨c, h1, h2⟩ := look hfr.1
    rcases q with ⟨k, _⟩ | ⟨_, c', e', z⟩
    · have k : X.env.scope.names.lookup y = some .local := k
      rcases ok.free _ (PySem.mem_of_lookup hfr.1) rfl with k' | k' <;> rw [show X.env.scope.names.lookup y = _ from k'] at k <;> cases k
    · rw [h2] at e'; cases e'
      exact ⟨c, h1, z.keeps hk⟩
  · have e : cenv.cells.lookup y = some c := e
    obtain ⟨w, z⟩ := I.cell y c (mem e).1
    exact ⟨w, z.keeps hk⟩
  · show H cenv.locals = none
    rw [hL]; exact I.hok.fresh (Nat.le_refl _)
  · have e : cenv.cells.lookup y = some c := e
    exact I.freeC y c (mem e).1
  · have hp' : p ∈ pl := by simpa using hp
    obtain ⟨p1, p2, p3⟩ := hpl p hp'
    refine ⟨p1, I.hok.fresh (Nat.le_of_lt p2), ?_, fun z => ?_, p3⟩
    · show p.1 ≠ cenv.locals
      rw [hL]; exact Nat.ne_of_gt p2
    · exact absurd (Nat.lt_trans (stkLt _ z) p2) (Nat.lt_irrefl _)
end

/-! ### the consumer -/
def Idle (s s' : Shared) : Prop := s'.os = s.os ∧ AllBare s'.gens ∧ s'.heap = s.heap
def YB (Fin : Bool → Shared → Prop) (a : Addr) (g : Nat) : Protocol := fun n s₀ v s1 kap =>
  ∃ b, v = .bool b ∧ AllBare s1.gens ∧ s1.heap.NoLimit ∧ s1.heap.IsGen a g ∧ (b = false → Fin false s1) ∧ (b = true → ∀ s', Idle s1 s' → kap (.send .none) s')
def RB (Fin : Bool → Shared → Prop) : GenEnd := fun n s₀ r s₁ => ((r = .ok (.ret .none) ∨ r = .ok .next) ∧ Fin true s₁) ∨ ∃ e, r = .error e ∧ False
section
variable {P : Program} {w : World}
theorem drainAll {A : Around} {R : Result → Shared → Prop} {a : Addr} {g : Nat} (Fin : Bool → Shared → Prop) (hh : A.handled = none) (hd : A.depth < recursionLimit) (hfin : ∀ b s', Fin b s' → R (.ok (.ret (.bool b))) s')
    (hset : ∀ b s' x h', x.bare = true → Fin b s' → (∀ c o, s'.heap.get? c = some o → h'.get? c = some o) → Fin b { s'.setGen g x with heap := h' }) :
    ∀ (m : Nat) (s : Shared), s.heap.IsGen a g → s.heap.NoLimit →
      (∃ gs, s.gens[g]? = some gs ∧ gs.Goes (model P w) A.in1.in1 (RB Fin) (YB Fin a g) m (.send .none) (s.setGen g .running)) →
      codeAny (model P w) A (.builtin "all.loop" ⟨[.ref a], []⟩) R s := by
  intro m
  induction m with
  | zero =>
    intro s hg hl ⟨gs, hgs, hgo⟩
    refine codeAny_builtin F.entry_all_loop ?_
    rw [Around.under_plainId F.plain_all_loop _]
    show wpAny _ A.in1 (pyNext (.ref a) >>= _) _ _ s
    refine wpAny_bind (next_genG (A := A.in1) (Er := fun _ _ => False) (F := fun n s₀ s₁ => Fin true s₁) hh hl hd hg hgs hgo (fun v s₁ gs' hbare hv => ?_) (fun s₁ hp h' hk => ?_) fun e s₁ he => he.elim)
    · obtain ⟨b, rfl, hb1, hl1, hg1, hf, ht⟩ := hv
      cases b with
      | true => exact (ht rfl _ ⟨rfl, hb1, rfl⟩).elim
      | false =>
        refine wpAny_bind (wpAny_holding (wpAny_truthy_bool ?_))
        refine wpAny_bind (wpAny_letGo ?_)
        simp only [Bool.false_eq_true, if_false]
        refine wpAny_bind (wpAny_rule (wpAny_pure ?_))
        exact hfin _ _ (hset _ _ _ _ hbare (hf rfl) fun _ _ e => e)
    · refine wpAny_bind (wpAny_rule (wpAny_pure ?_))
      exact hfin _ _ (hset _ _ _ _ rfl hp hk)
  | succ m ih =>
    intro s hg hl ⟨gs, hgs, hgo⟩
    have hgl : g < s.gens.size := (Array.getElem?_eq_some_iff.mp hgs).1
    refine codeAny_builtin F.entry_all_loop ?_
    rw [Around.under_plainId F.plain_all_loop _]
    show wpAny _ A.in1 (pyNext (.ref a) >>= _) _ _ s
    refine wpAny_bind (wpAny_gsz (n := g + 1) hgl (next_genG (A := A.in1) (Er := fun _ _ => False) (F := fun n s₀ s₁ => Fin true s₁) hh hl hd hg hgs hgo (fun v s₁ gs' hbare hv => ?_) (fun s₁ hp h' hk => ?_) fun e s₁ he => he.elim))
    · intro hsz
      obtain ⟨b, rfl, hb1, hl1, hg1, hf, ht⟩ := hv
      have hsz1 : g < s₁.gens.size := by
        have q : (s₁.setGen g gs').gens.size = s₁.gens.size := setGen_size _ _ _
        have hsz' : g + 1 ≤ (s₁.setGen g gs').gens.size := hsz
        omega
      refine wpAny_bind (wpAny_holding (wpAny_truthy_bool ?_))
      refine wpAny_bind (wpAny_letGo ?_)
      cases b with
      | true =>
        simp only [if_true]
        refine wpAny_pure ⟨plainId_quiet F.plain_all_loop _, ih (s₁.setGen g gs') hg1 hl1 ⟨gs', setGen_at hsz1, ?_⟩⟩
        exact ht rfl _ ⟨rfl, allBare_setGen (allBare_setGen hb1 hbare) rfl, rfl⟩
      | false =>
        simp only [Bool.false_eq_true, if_false]
        refine wpAny_bind (wpAny_rule (wpAny_pure ?_))
        exact hfin _ _ (hset _ _ _ _ hbare (hf rfl) fun _ _ e => e)
    · intro hsz
      refine wpAny_bind (wpAny_rule (wpAny_pure ?_))
      exact hfin _ _ (hset _ _ _ _ rfl hp hk)
end

/-! ### the generator's turns -/
section
variable {P : Program} {w : World}
/-- back in the caller's terms -/
def FinAll (P : Program) (w : World) (stk : List Env) (fp : List Addr) (H2 : Hp) (s3 : Shared) (Q : VK) (b : Bool) (s : Shared) : Prop :=
  ∃ H', s.os = s3.os ∧ AllBare s.gens ∧ Un (frs stk) fp H2 H' s3.heap s.heap ∧ HOk P w H' s.heap ∧ Q (.bl b) H'
theorem FinAll.set {stk : List Env} {fp : List Addr} {H2 : Hp} {s3 : Shared} {Q : VK} {b : Bool} {s' : Shared} {g : Nat} {x : GenState} {h' : Heap} (hx : x.bare = true) (f : FinAll P w stk fp H2 s3 Q b s')
    (hk : ∀ c o, s'.heap.get? c = some o → h'.get? c = some o) : FinAll P w stk fp H2 s3 Q b { s'.setGen g x with heap := h' } := by
  obtain ⟨H', h1, h2, h3, h4, h5⟩ := f
  exact ⟨H', h1, allBare_setGen h2 hx, h3.trans (Un.kept hk), h4.kept hk, h5⟩

theorem seg_bindX {M : Model} {A A' : Around} {R : GenEnd} {Y : Protocol} {n : Nat} {s₀ : Shared} {c : Code} {fs : List Frame} {s : Shared} {α β : Type} {m : Sem α} {K : α → Sem β} {K' : β → Sem PySem.Fin} {H' : Value → Sem PySem.Fin} {gd : Bool → Bool} {lv : List Value → List Value} {Q0 : α → Shared → Prop}
    (ha : A.over c fs = A') (h : wpAny M A' m Q0 (fun _ _ => False) s) (hq : ∀ a s', Q0 a s' → Seg M A R Y n s₀ c ((K a).wrap K' H' gd lv) fs s') : Seg M A R Y n s₀ c ((m >>= K).wrap K' H' gd lv) fs s := by
  refine seg_bind_wrap ?_
  rw [ha]
  exact wpAny_mono h hq fun _ _ z => z.elim

theorem seg_all {X : Cx} {A : Around} {elt tg iter : Expr} {ifs : List Expr} {scope : Scope} {pos : Pos} {cenv : Env} {s3 : Shared} {H3 : Hp} {fp : List Addr} {it a : Addr} {g0 : Nat} {go : Obj} {tn : Nat → Heap → Prop} {J : It} {g : TG} {tt : TT} {te : TE} {vs : List Nat} {σ : L2.St} {Q : VK} {W : Nat → Nat → Hp → Prop}
    (hgo : go.cls = .type "generator" ∧ go.slots = #[] ∧ ∃ nm qn, go.data = .fields #[.int g0 0, nm, qn])
    (hco : cenv.scope.isCoroutine = false)
    (T : Turn X.prog X.w X.K tg J fp it tn)
    (hov : A.over (.compLoop (.GeneratorExp elt [⟨tg, iter, ifs, 0⟩] scope pos) 0 (.ref it) .none cenv) [] = (gcx X (A.over (.compLoop (.GeneratorExp elt [⟨tg, iter, ifs, 0⟩] scope pos) 0 (.ref it) .none cenv) []) s3 H3 cenv fp).A)
    (pg : PG (gcx X (A.over (.compLoop (.GeneratorExp elt [⟨tg, iter, ifs, 0⟩] scope pos) 0 (.ref it) .none cenv) []) s3 H3 cenv fp) tg g)
    (pt : PTs (gcx X (A.over (.compLoop (.GeneratorExp elt [⟨tg, iter, ifs, 0⟩] scope pos) 0 (.ref it) .none cenv) []) s3 H3 cenv fp) ifs tt)
    (pe : PE (gcx X (A.over (.compLoop (.GeneratorExp elt [⟨tg, iter, ifs, 0⟩] scope pos) 0 (.ref it) .none cenv) []) s3 H3 cenv fp) elt te)
    (turn : ∀ i m H, W i m H → (J.stop i H ∧ Q (.bl true) H) ∨ (J.go i H ∧ ∃ Nx : Hp → Prop, (∀ H', Nx H' → ∃ m', m' < m ∧ W (i + 1) m' H') ∧ ∀ x H', J.yld i H x H' → g x (wipe σ vs) H' fun σ2 H2 => wipe σ2 vs = wipe σ vs ∧ tt σ2 H2 fun b H3 =>
      if b = true then te σ2 H3 fun y H4 => ∃ c, y = .bl c ∧ (if c = true then Nx H4 else Q (.bl false) H4) else Nx H3)) :
    ∀ (m i n : Nat) (s₀ s : Shared) (H : Hp), m < n → Inv (gcx X (A.over (.compLoop (.GeneratorExp elt [⟨tg, iter, ifs, 0⟩] scope pos) 0 (.ref it) .none cenv) []) s3 H3 cenv fp) [(a, go)] (wipe σ vs) H s → tn i s.heap → (∀ b ∈ fp, H b = none) → W i m H →
      (∀ p ∈ [(a, go)], ∀ b ∈ fp, p.1 ≠ b) →
      Seg (model X.prog X.w) A (RB (FinAll X.prog X.w X.stack fp H3 s3 Q)) (YB (FinAll X.prog X.w X.stack fp H3 s3 Q) a g0) n s₀ (.compLoop (.GeneratorExp elt [⟨tg, iter, ifs, 0⟩] scope pos) 0 (.ref it) .none cenv)
        ((model X.prog X.w).den (.compLoop (.GeneratorExp elt [⟨tg, iter, ifs, 0⟩] scope pos) 0 (.ref it) .none cenv)) [] s := by
  generalize hX : gcx X (A.over (.compLoop (.GeneratorExp elt [⟨tg, iter, ifs, 0⟩] scope pos) 0 (.ref it) .none cenv) []) s3 H3 cenv fp = X' at hov pg pt pe ⊢
  have e1 : X'.prog = X.prog := by rw [← hX]
  have e2 : X'.w = X.w := by rw [← hX]
  have e3 : X'.K = X.K := by rw [← hX]
  have e4 : X'.calm = true := by rw [← hX]
  have e5 : X'.xe = fun _ _ => False := by rw [← hX]
  have e6 : X'.env = cenv := by rw [← hX]
  have e7 : X'.ex = fp := by rw [← hX]
  have e8 : X'.pn = [] := by rw [← hX]
  have e9 : X'.s_0 = s3 := by rw [← hX]
  have e10 : X'.H_0 = H3 := by rw [← hX]
  have e11 : X'.outer = X.stack := by rw [← hX]
  intro m
  induction m using Nat.strongRecOn with
  | ind m ih =>
    intro i n s₀ s H hmn I st nf hw hpf
    have stat : ∀ {σ' : L2.St} {H' : Hp} {s' : Shared}, Inv X' [(a, go)] σ' H' s' → (∀ b ∈ fp, H' b = none) → ∀ b ∈ fp, FpOk X' [(a, go)] H' b := fun {σ' H' s'} I' hn b hb => by
      have hb' : b ∈ X'.ex := by rw [e7]; exact hb
      refine ⟨hn b hb, (I'.ok.exf b hb').1, I'.ok.exfs b hb', .inl hb', fun x c e => (I'.ok.exf b hb').2 x c e, fun p hp => ?_⟩
      rw [e8] at hp
      exact hpf p (by simpa using hp) b hb
    have fin : ∀ {pl : List (Addr × Obj)} {σ' : L2.St} {H' : Hp} {s' : Shared} {b : Bool}, Inv X' pl σ' H' s' → Q (.bl b) H' → FinAll X.prog X.w X.stack fp H3 s3 Q b s' := fun {pl σ' H' s' b} I' q => by
      have hb := I'.base
      have ho := I'.os
      have hk := I'.hok
      rw [show X'.fs = frs X.stack by show frs X'.outer = _; rw [e11], e7, e9, e10] at hb
      rw [e9] at ho
      rw [e1, e2] at hk
      exact ⟨H', ho, I'.bare, hb, hk, q⟩
    show Seg _ A _ _ _ s₀ _ ((compTurn (.GeneratorExp elt [⟨tg, iter, ifs, 0⟩] scope pos) 0 (.ref it) .none cenv).onRaise (leaving cenv)) [] s
    rw [compTurn_gen, Sem.onRaise_eq_wrap]
    refine seg_bind_wrap (wpAny_standAt ?_)
    rcases turn i m H hw with ⟨stop, qq⟩ | ⟨hgo2, Nx, hNx, step⟩
    · have td := T.done X' e1 e2 e3 e4 i [(a, go)] s _ H (fun _ _ => False) I (stat I nf) st stop
      refine seg_bindX hov td fun r s6 ⟨hr, I6⟩ => ?_
      subst hr
      exact seg_end (.ok .next) (.inl ⟨.inr rfl, fin I6 qq⟩)
    · have ti := T.item X' e1 e2 e3 e4 i [(a, go)] s _ H (fun _ _ => False) I (stat I nf) st hgo2
      refine seg_bindX hov ti fun r s6 ⟨u, hr, h6⟩ => ?_
      subst hr
      refine seg_bindX hov h6 fun _ s7 ⟨x, H7, I7, r7, y7, st7, n7⟩ => ?_
      have I7' := I7.pinned (stat I7 n7) (T.obj _ _ st7)
      have pgr := pg.run _ s7 _ H7 x u _ I7' r7 (step x H7 y7)
      rw [e1, e2, e5, e6] at pgr
      refine seg_bindX hov pgr fun _ s8 ⟨σ8, H8, I8, hw8, q8⟩ => ?_
      have ptr := pt.run _ s8 σ8 H8 _ I8 q8
      rw [e1, e2, e5, e6] at ptr
      refine seg_bindX hov ptr fun b s9 ⟨H9, I9, q9⟩ => ?_
      -- the turn's end
      have next : ∀ {s' : Shared} {H' : Hp}, Inv X' ([(a, go)] ++ pinsAt fp s7.heap) σ8 H' s' → Nx H' → ∃ m', m' < m ∧ W (i + 1) m' H' ∧ Inv X' [(a, go)] (wipe σ vs) H' s' ∧ tn (i + 1) s'.heap ∧ (∀ b ∈ fp, H' b = none) := fun {s' H'} I' nx => by
        obtain ⟨m', hm, w'⟩ := hNx H' nx
        have pin' : ∀ b ∈ fp, ∀ o, s7.heap.get? b = some o → s'.heap.get? b = some o ∧ H' b = none := fun b hb o e =>
          let z := I'.pin (b, o) (List.mem_append_right _ (List.mem_append_right _ (mem_pinsAt hb e)))
          ⟨z.1, z.2.1⟩
        have hl : (wipe σ vs).length = σ8.length := by rw [← hw8, wipe_length]
        refine ⟨m', hm, w', (I'.unpinned (pins := [(a, go)])).weak hl (fun j v e => ?_), T.keep _ _ _ st7 fun b hb o e => (pin' b hb o e).1, fun b hb => ?_⟩
        · rw [← hw8] at e
          exact (wipe_some e).1
        · obtain ⟨o, e, _⟩ := T.obj _ _ st7 b hb
          exact (pin' b hb o e).2
      cases b with
      | false =>
        simp only [Bool.false_eq_true, if_false] at q9 ⊢
        obtain ⟨m', hm, w', I', st', nf'⟩ := next I9 q9
        exact seg_again rfl (ih m' hm (i + 1) n s₀ _ H9 (by omega) I' st' nf' w' hpf)
      | true =>
        simp only [if_true] at q9 ⊢
        have hy : ∀ v, yieldOut cenv v = yieldValue v := fun v => by simp only [yieldOut, hco, Bool.false_eq_true, if_false]
        simp only [hy]
        rw [Sem.bind_eq_wrap', Sem.bind_eq_wrap', Sem.wrap_wrap, Sem.wrap_wrap]
        have per := pe.run _ s9 σ8 H9 _ I9 q9
        rw [e1, e2, e5, e6] at per
        refine seg_wrap ?_
        rw [hov]
        refine wpAny_mono per (fun y s10 ⟨yv, H10, I10, r10, c, ec, hc⟩ => ?_) fun _ _ z => z.elim
        subst ec
        cases r10
        obtain ⟨n', rfl⟩ : ∃ n', n = n' + 1 := ⟨n - 1, by omega⟩
        have hgen : s10.heap.IsGen a g0 := by
          obtain ⟨g1, g2, nm, qn, g3⟩ := hgo
          exact ⟨go, nm, qn, (I10.pin (a, go) (by simp)).1, g1, g3, g2⟩
        refine seg_at (seg_yield rfl rfl rfl ⟨c, rfl, I10.bare, I10.nolimit, hgen, fun e => ?_, fun e s'' hid => ?_⟩)
        · subst e
          exact fin I10 hc
        · subst e
          obtain ⟨m', hm, w', I', st', nf'⟩ := next I10 hc
          obtain ⟨o1, o2, o3⟩ := hid
          have J2 : Inv X' [(a, go)] (wipe σ vs) H10 s'' := I'.call' (ch := []) o1 (by rw [o3]; exact Un.refl) (by rw [o3]; exact I'.hok) o2 fun b z => by simp at z
          refine seg_again rfl (ih m' hm (i + 1) n' s'' s'' H10 (by omega) J2 (by rw [o3]; exact st') nf' w' hpf)
end

/-- all(..): what its reading asks. P: the table of the def's code object; vs: the slots of the expression's own names -/
def tAllG (P : Addr) (wi : TI) (g : TG) (tt : TT) (te : TE) (vs : List Nat) : TE := fun σ H Q => wi σ H fun J H1 => TabG H1 P ∧ ∀ H2, Tabbed P H1 H2 → ∃ W : Nat → Nat → Hp → Prop, (∃ m, W 0 m H2) ∧ ∀ i m H, W i m H →
  (J.stop i H ∧ Q (.bl true) H) ∨ (J.go i H ∧ ∃ Nx : Hp → Prop, (∀ H', Nx H' → ∃ m', m' < m ∧ W (i + 1) m' H') ∧ ∀ x H', J.yld i H x H' → g x (wipe σ vs) H' fun σ2 H2 => wipe σ2 vs = wipe σ vs ∧ tt σ2 H2 fun b H3 =>
    if b = true then te σ2 H3 fun y H4 => ∃ c, y = .bl c ∧ (if c = true then Nx H4 else Q (.bl false) H4) else Nx H3)
theorem pe_allG {X : Cx} {c P : Addr} {elt tg iter : Expr} {ifs : List Expr} {scope : Scope} {own : List (Str × Nat)} {p pos gpos : Pos} {wi : TI} {g : TG} {tt : TT} {te : TE} {k : Nat}
    (hr : Room (k + 1) X.A) (hc : X.calm = true) (hN : X.N.Nodup) (hg : Gl X "all") (hm : X.mg "all" = none) (hb : bootBuiltins "all" = some (.builtin "all")) (TB : TabB X.base X.mg c P) (hcode : X.env.code = .ref c)
    (hi : PI X tg iter wi) (ok : BlkOk X.N X.env.scope scope own) (hcell : ∀ y ∈ scope.names, y.2 ≠ .cell) (hdot : scope.names.lookup (".0" : Str) = some NameKind.local) (hco : scope.isCoroutine = false)
    (hpg : ∀ (A' : Around) (s : Shared) (H : Hp) (C : Addr) (cl : List (Str × Addr)) (code : Value) (fp : List Addr), Room k A' → PG (gcx X A' s H (genEnv scope cl C code builtinsNs X.env) fp) tg g)
    (hpt : ∀ (A' : Around) (s : Shared) (H : Hp) (C : Addr) (cl : List (Str × Addr)) (code : Value) (fp : List Addr), Room k A' → PTs (gcx X A' s H (genEnv scope cl C code builtinsNs X.env) fp) ifs tt)
    (hpe : ∀ (A' : Around) (s : Shared) (H : Hp) (C : Addr) (cl : List (Str × Addr)) (code : Value) (fp : List Addr), Room k A' → PE (gcx X A' s H (genEnv scope cl C code builtinsNs X.env) fp) elt te)
    (hs : ∀ v, genFold iter X.env v = pure v := by intro _; rfl)
    (he : starEach [.GeneratorExp elt [⟨tg, iter, ifs, 0⟩] scope gpos] X.env = (false, eval (.GeneratorExp elt [⟨tg, iter, ifs, 0⟩] scope gpos) X.env) :: starEach [] X.env := by rfl) :
    PE X (.Call (.Name "all" p) [.GeneratorExp elt [⟨tg, iter, ifs, 0⟩] scope gpos] [] pos) (tAllG P wi g tt te (own.map (·.2))) := by
  refine ⟨fun pins s σ H Q I h => ?_⟩
  have hfree : ∀ y ∈ scope.names, y.2 = .free → ∃ c, X.env.cells.lookup y.1 = some c := fun y hy e => by
    rcases ok.free y hy e with k | k
    · exact I.ok.has _ (.inl k)
    · exact I.ok.has _ (.inr k)
  refine wpAny_Call_Name_kw (ld_blt I hg hm hb ?_)
  refine PyProof.Rows.callWith_builtin1 ?_ he (by rfl)
  rw [he]
  show wpAny _ _ (spliced ((false, eval (.GeneratorExp elt [⟨tg, iter, ifs, 0⟩] scope gpos) X.env) :: backTo pos (starEach [] X.env))) _ _ s
  refine Calls.spliced_cons ?_
  refine wpAny_GeneratorExp_make hco (closure_ok hfree) hcell hdot ok.kind hr.depth ?_ hs
  refine thn (hi.run pins s σ H _ I h) fun xv s1 h1 => thn h1 fun itv s2 h2 => ?_
  obtain ⟨it, fp, tn, J, H2, rfl, I2, T, st2, f2, ⟨ps, hP, ht⟩, q⟩ := h2
  refine ⟨I2.nolimit, ?_⟩
  have hPs : s2.heap.get? P = some { cls := .none, data := .fields ps } := I2.hok P _ hP
  have cd : PySem.W.CodeHd s2.heap c P := TB.code.keeps fun b u e => I2.bk b u e
  have cont : ∀ (code : Value) (h3 : Heap) (tk : Nat) (ps' : Array Value), Heap.ExtBut P s2.heap h3 → s2.heap.objs.size ≤ h3.objs.size → h3.get? P = some { cls := .none, data := .fields ps' } → (∃ more, ps' = ps ++ more) → TriplesOk ps'.toList →
      wpAny (model X.prog X.w) X.A (builtinsFor X.env.globals X.env.builtins) (fun bi s₄ =>
        ∀ h', h'.Ns s₄.heap.objs.size (fun y => if y = ".0" then some (.ref it) else none) → Heap.SameBut s₄.heap.objs.size (s₄.heap.push { cls := .type "frame", data := .dict #[] }) h' →
          wpAny (model X.prog X.w) X.A (spliced (backTo pos (starEach [] X.env))) (fun vs s' => wpAny (model X.prog X.w) X.A (call (.builtin "all") (.ref h'.objs.size :: vs)) (EP X pins σ Q) X.xe s') X.xe { s₄ with
            gens := s₄.gens.push (.fresh (.compStart (.GeneratorExp elt [⟨tg, iter, ifs, 0⟩] scope gpos) 0 (.ref it) .none (genEnv scope (cloFrom X.env.cells scope.names []) s₄.heap.objs.size code bi X.env))),
            toks := s₄.toks + 1 + 1 + 1,
            heap := h'.push { cls := .type "generator", data := .fields #[.int s₄.gens.size 0, .str "<genexpr>" (s₄.toks + 1), .str (X.env.qual ++ "<genexpr>") (s₄.toks + 1 + 1)] } }) X.xe { s2 with heap := h3, toks := tk } := by
    intro code h3 tk ps' hx hsz hP3 hmore ht3
    obtain ⟨bm, ob, e1, e2, e3, e4, e5, e6, e7, e8⟩ := TB.bm
    have keep3 : ∀ b u, b ≠ P → s2.heap.get? b = some u → h3.get? b = some u := fun b u hb e => hx b u hb e
    obtain ⟨more, em⟩ := hmore
    have I3 := inv_tab (more := more) (h' := h3) (g' := s2.gens) (d' := s2.drawn) (t' := tk) I2 hP keep3 (by rw [← em]; exact hP3) I2.bare
    refine wpAny_builtinsFor (m := X.mg) (by rw [I2.ok.glob]; exact (I2.mod.glob.keeps I2.bk).extBut hx TB.gP) e1 e2 (keep3 _ _ e4 (I2.bk _ _ e5)) e6 e7 e8 ?_
    intro h' hn' hs'
    have hs3 : ({ s2 with heap := h3, gens := s2.gens, drawn := s2.drawn, toks := tk } : Shared) = { s2 with heap := h3, toks := tk } := rfl
    rw [hs3] at I3
    generalize hs3' : ({ s2 with heap := h3, toks := tk } : Shared) = s3 at I3 ⊢
    have hh3 : s3.heap = h3 := by rw [← hs3']
    have hTab : Tabbed P H2 (upd H2 P (.tbl (ps ++ more))) := ⟨⟨_, upd_same, by rw [← em]; exact ht3⟩, fun b hb => upd_ne hb⟩
    obtain ⟨W, ⟨m0, w0⟩, turn⟩ := q _ hTab
    generalize hH3 : upd H2 P (.tbl (ps ++ more)) = H3 at I3 turn w0
    have nfp : ∀ b ∈ fp, b ≠ P := fun b hb z => by
      have := (f2 b hb).1
      rw [z, hP] at this
      cases this
    have f3 : ∀ b ∈ fp, FpOk X pins H3 b ∧ b < s3.heap.objs.size := fun b hb => by
      obtain ⟨o, e, _⟩ := T.obj _ _ st2 b hb
      refine ⟨⟨?_, (f2 b hb).2⟩, Nat.lt_of_lt_of_le (Heap.lt_size e) (by rw [hh3]; exact hsz)⟩
      rw [← hH3, upd_ne (nfp b hb)]
      exact (f2 b hb).1
    have st3 : tn 0 s3.heap := T.keep _ _ _ st2 fun b hb o e => by rw [hh3]; exact keep3 b o (nfp b hb) e
    refine Calls.spliced_nil ?_
    have hszh : h'.objs.size = s3.heap.objs.size + 1 := by rw [hs'.1, Heap.size_push, hs3']
    rw [hs3'] at hn' hs'
    have keepf : ∀ b o, s3.heap.get? b = some o → h'.get? b = some o := fun b o e => hs'.extBut b o (Nat.ne_of_lt (Heap.lt_size e)) (Heap.get?_push_of_some _ e)
    generalize hgob : ({ cls := .type "generator", data := .fields #[.int s3.gens.size 0, .str "<genexpr>" (s3.toks + 1), .str (X.env.qual ++ "<genexpr>") (s3.toks + 1 + 1)] } : Obj) = gob
    generalize hs5 : ({ s3 with gens := s3.gens.push (.fresh (.compStart (.GeneratorExp elt [⟨tg, iter, ifs, 0⟩] scope gpos) 0 (.ref it) .none (genEnv scope (cloFrom X.env.cells scope.names []) s3.heap.objs.size code builtinsNs X.env))), toks := s3.toks + 1 + 1 + 1, heap := h'.push gob } : Shared) = s5
    have hs5h : s5.heap = h'.push gob := by rw [← hs5]
    have hs5g : s5.gens = s3.gens.push (.fresh (.compStart (.GeneratorExp elt [⟨tg, iter, ifs, 0⟩] scope gpos) 0 (.ref it) .none (genEnv scope (cloFrom X.env.cells scope.names []) s3.heap.objs.size code builtinsNs X.env))) := by rw [← hs5]
    have hs5o : s5.os = s3.os := by rw [← hs5]
    have hgobj : gob.cls = .type "generator" ∧ gob.slots = #[] ∧ ∃ nm qn, gob.data = .fields #[.int s3.gens.size 0, nm, qn] := by
      rw [← hgob]; exact ⟨rfl, rfl, _, _, rfl⟩
    have keep5 : ∀ b o, s3.heap.get? b = some o → s5.heap.get? b = some o := fun b o e => by rw [hs5h]; exact Heap.get?_push_of_some _ (keepf b o e)
    have hga : s5.heap.get? h'.objs.size = some gob := by
      rw [hs5h]
      obtain ⟨_, _, nm, qn, g3⟩ := hgobj
      exact Heap.get?_push_size _ (Obj.isFreed_of_fields g3)
    have hgen : s5.heap.IsGen h'.objs.size s3.gens.size := by
      obtain ⟨g1, g2, nm, qn, g3⟩ := hgobj
      exact ⟨gob, nm, qn, hga, g1, g3, g2⟩
    have hfs : s5.gens[s3.gens.size]? = some (.fresh (.compStart (.GeneratorExp elt [⟨tg, iter, ifs, 0⟩] scope gpos) 0 (.ref it) .none (genEnv scope (cloFrom X.env.cells scope.names []) s3.heap.objs.size code builtinsNs X.env))) := by
      rw [hs5g]; exact Array.getElem?_push_size ..
    have hba : AllBare s5.gens := by rw [hs5g]; exact I3.bare.push rfl
    refine call_function_tree F.kind_all F.plain_all F.entry_all (F.args_all1 _) ?_
    unfold Builtin.«all»
    refine wpAny_bind (m := oneArg "all" _) (wpAny_pure ?_)
    refine wpAny_bind (wpAny_pyIter_gen hgen ?_)
    have hd : X.A.handled = none := I3.ok.hd hc
    refine wpAny_pure ⟨plainId_quiet F.plain_all_loop _, ?_⟩
    generalize hcode2 : (.compLoop (.GeneratorExp elt [⟨tg, iter, ifs, 0⟩] scope gpos) 0 (.ref it) .none (genEnv scope (cloFrom X.env.cells scope.names []) s3.heap.objs.size code builtinsNs X.env) : Code) = cl
    have hA' : ∀ (A : Around), A.handled = none → (A.over cl []).handled = none := fun A h => h
    have hroom : Room k ((X.A.in1.in1).over cl []) := by
      have h1 : ((X.A.in1.in1).over cl []).depth = X.A.depth + 1 := by rw [← hcode2]; rfl
      have h2 : ((X.A.in1.in1).over cl []).units = X.A.units + 5 := by rw [← hcode2]; rfl
      refine ⟨hd, ?_, ?_⟩
      · have := hr.dp; rw [h1]; omega
      · have := hr.un; rw [h2]; omega
    have hfr : ((X.A.in1.in1).over cl []).frames = some (genEnv scope (cloFrom X.env.cells scope.names []) s3.heap.objs.size code builtinsNs X.env :: X.stack) := by
      have := I3.ok.frames
      rw [← hcode2]
      show pushEnvs (Code.compLoop (.GeneratorExp elt [⟨tg, iter, ifs, 0⟩] scope gpos) 0 (.ref it) .none (genEnv scope (cloFrom X.env.cells scope.names []) s3.heap.objs.size code builtinsNs X.env)).envs (pushEnvs (envsOf (([] : List Frame).map Frame.where_)) X.A.in1.in1.frames) = _
      rw [show X.A.in1.in1.frames = X.A.frames from rfl, this]
      rfl
    have start : ∀ s6 : Shared, s6.os = s5.os → AllBare s6.gens → s6.heap = s5.heap →
        Inv (gcx X ((X.A.in1.in1).over cl []) s3 H3 (genEnv scope (cloFrom X.env.cells scope.names []) s3.heap.objs.size code builtinsNs X.env) fp) [(h'.objs.size, gob)] (wipe σ (own.map (·.2))) H3 s6 := fun s6 o1 o2 o3 => by
      refine gen_start (m := fun y => if y = ".0" then some (.ref it) else none) I3 ok hcell hN f3 hd hfr ?_ (fun b o e => by rw [o3]; exact keep5 b o e) (o1.trans hs5o) o2 fun p hp => ?_
      · rw [o3, hs5h]; exact hn'.push _
      · have hp' : p = (h'.objs.size, gob) := by simpa using hp
        subst hp'
        refine ⟨by rw [o3]; exact hga, by show s3.heap.objs.size < h'.objs.size; rw [hszh]; exact Nat.lt_succ_self _, fun v z => ?_⟩
        obtain ⟨_, _, nm, qn, g3⟩ := hgobj
        rw [g3] at z
        cases z
    refine drainAll (A := X.A) (FinAll X.prog X.w X.stack fp H3 s3 Q) hd hr.depth (fun b s' hf => ?_) (fun b s' x h' hx hf hk => hf.set hx hk) (m0 + 1) s5 hgen (by
      have := (start s5 rfl hba rfl).nolimit
      exact this) ⟨_, hfs, ?_⟩
    · obtain ⟨H', h1, h2, h3', h4, h5⟩ := hf
      have J2 : Inv X pins σ H' s' := I3.call' (ch := fp) h1 h3' h4 h2 fun b hb => ⟨(f3 b hb).1.2.2.2.1, (f3 b hb).1.2.1, (f3 b hb).1.2.2.2.2.1, (f3 b hb).1.2.2.2.2.2⟩
      exact ⟨.bl b, H', J2, rfl, h5⟩
    · refine ⟨rfl, ?_⟩
      have st5 : ∀ s6 : Shared, s6.heap = s5.heap → tn 0 s6.heap := fun s6 o3 => T.keep _ _ _ st3 fun b _ o e => by rw [o3]; exact keep5 b o e
      have hpf : ∀ p ∈ [(h'.objs.size, gob)], ∀ b ∈ fp, p.1 ≠ b := fun p hp b hb => by
        have hp' : p = (h'.objs.size, gob) := by simpa using hp
        subst hp'
        have := (f3 b hb).2
        show h'.objs.size ≠ b
        rw [hszh]
        exact Nat.ne_of_gt (Nat.lt_succ_of_lt this)
      have loop : ∀ (s₀ s6 : Shared), s6.os = s5.os → AllBare s6.gens → s6.heap = s5.heap → Seg (model X.prog X.w) X.A.in1.in1 (RB (FinAll X.prog X.w X.stack fp H3 s3 Q)) (YB (FinAll X.prog X.w X.stack fp H3 s3 Q) h'.objs.size s3.gens.size) (m0 + 1) s₀ cl ((model X.prog X.w).den cl) [] s6 := fun s₀ s6 o1 o2 o3 => by
        subst hcode2
        exact seg_all hgobj hco T rfl (hpg _ _ _ _ _ _ _ hroom) (hpt _ _ _ _ _ _ _ hroom) (hpe _ _ _ _ _ _ _ hroom) turn m0 0 (m0 + 1) s₀ s6 H3 (Nat.lt_succ_self _) (start s6 o1 o2 o3) (st5 s6 o3) (fun b hb => (f3 b hb).1.1) w0 hpf
      have idle : ∀ tk, AllBare ({ s5.setGen s3.gens.size .running with toks := tk } : Shared).gens := fun tk => allBare_setGen hba rfl
      subst hcode2
      show Seg _ _ _ _ _ _ _ ((compStart (.GeneratorExp elt [⟨tg, iter, ifs, 0⟩] scope gpos) 0 (.ref it) .none (genEnv scope (cloFrom X.env.cells scope.names []) s3.heap.objs.size code builtinsNs X.env)).onRaise (leaving (genEnv scope (cloFrom X.env.cells scope.names []) s3.heap.objs.size code builtinsNs X.env))) [] _
      unfold compStart
      rw [Sem.onRaise_eq_wrap]
      show Seg _ _ _ _ _ _ _ ((ask >>= _).wrap _ _ _ _) [] _
      refine seg_bind_wrap (wpAny_askSetting ?_)
      split
      · exact seg_again rfl (loop _ _ rfl (idle _) rfl)
      · first
          | exact seg_bind_wrap (wpAny_rule (seg_bind_wrap (wpAny_standAt (seg_bind_wrap (T.self _ 0 _ _ _ (st5 _ rfl) (seg_again rfl (loop _ _ rfl (idle _) rfl)))))))
          | (refine seg_bind_wrap (wpAny_rule ?_); show Seg _ _ _ _ _ _ _ ((standAt iter.pos >>= _).wrap _ _ _ _) [] _; exact seg_bind_wrap (wpAny_standAt (seg_bind_wrap (T.self _ 0 _ _ _ (st5 _ rfl) (seg_again rfl (loop _ _ rfl (idle _) rfl))))))
  cases hf : codeAmong gpos ps.toList with
  | none =>
    refine wpAny_genexprCodeX hcode (cd.code hPs ht) (cd.tab hPs) hf fun c' h' tk hx hge hlt hco' _ htab' _ => ?_
    obtain ⟨o1, vs, f1, tf, fl, tg, inF, tx, tt, op, _, _, _, _, _, _, _, _, _, htr, _⟩ := hco'
    exact cont _ h' tk _ hx (Nat.le_trans hge (Nat.le_of_lt hlt)) htab'.2 ⟨_, rfl⟩ htr
  | some cv =>
    refine wpAny_genexprCode_hit hcode (cd.code hPs ht) hf ?_
    exact cont cv s2.heap s2.toks ps (Heap.ExtBut.refl _ _) (Nat.le_refl _) hPs ⟨#[], by simp⟩ ht
end GA

end

section
set_option maxHeartbeats 4000000
/-! Typed layer: data D = NestedKey, types that stay while lists and dicts change, evaluation from an environment of types. -/
namespace OS
open PySem PySem.Spec PyProof.Rows L2 GxR

abbrev D := NestedKey

/-! ### heaps that grow -/
structure Imm (H H' : Hp) : Prop where
  tup : ∀ a xs, H a = some (.tup xs) → H' a = some (.tup xs)
  frz : ∀ a o u, H a = some (.frz o u) → H' a = some (.frz o u)
  tab : ∀ P, TabG H P → TabG H' P
  dom : ∀ a, H' a = none → H a = none
/-- but at S all is kept; tables may grow -/
structure ExtS (S : Addr → Prop) (H H' : Hp) : Prop extends Imm H H' where
  keep : ∀ a o, ¬ S a → H a = some o → (∀ ps, o ≠ .tbl ps) → H' a = some o
abbrev NoS : Addr → Prop := fun _ => False
abbrev Ext : Hp → Hp → Prop := ExtS NoS
theorem Imm.refl (H : Hp) : Imm H H := ⟨fun _ _ h => h, fun _ _ _ h => h, fun _ h => h, fun _ h => h⟩
theorem Imm.trans {H H1 H2 : Hp} (a : Imm H H1) (b : Imm H1 H2) : Imm H H2 :=
  ⟨fun x xs h => b.tup x xs (a.tup x xs h), fun x o u h => b.frz x o u (a.frz x o u h), fun P h => b.tab P (a.tab P h), fun x h => a.dom x (b.dom x h)⟩
theorem ExtS.refl {S : Addr → Prop} (H : Hp) : ExtS S H H := ⟨Imm.refl H, fun _ _ _ h _ => h⟩
theorem ExtS.trans {S : Addr → Prop} {H H1 H2 : Hp} (a : ExtS S H H1) (b : ExtS S H1 H2) : ExtS S H H2 :=
  ⟨a.toImm.trans b.toImm, fun x o hs h n => b.keep x o hs (a.keep x o hs h n) n⟩
theorem ExtS.mono {S T : Addr → Prop} {H H' : Hp} (e : ExtS S H H') (h : ∀ a, S a → T a) : ExtS T H H' := ⟨e.toImm, fun x o hs hx n => e.keep x o (fun z => hs (h x z)) hx n⟩
theorem Ext.to {S : Addr → Prop} {H H' : Hp} (e : Ext H H') : ExtS S H H' := e.mono fun _ z => z.elim
theorem TabG.upd {H : Hp} {p P : Addr} {o : HO} (h : TabG H P) (hp : p ≠ P) : TabG (L2.upd H p o) P := by
  obtain ⟨ps, e, t⟩ := h
  exact ⟨ps, by rw [upd_ne hp.symm]; exact e, t⟩
theorem Ext.new {H : Hp} {p : Addr} {o : HO} (h : H p = none) : Ext H (upd H p o) := by
  have ne : ∀ a u, H a = some u → a ≠ p := fun a u e => ne_of_none e h
  refine ⟨⟨fun a xs e => by rw [upd_ne (ne _ _ e)]; exact e, fun a o u e => by rw [upd_ne (ne _ _ e)]; exact e, fun P t => ?_, fun a e => ?_⟩, fun a o _ e _ => by rw [upd_ne (ne _ _ e)]; exact e⟩
  · refine TabG.upd t fun z => ?_
    obtain ⟨ps, e, _⟩ := t
    exact ne _ _ e z.symm
  · by_cases q : a = p
    · rw [q]; exact h
    · rw [upd_ne q] at e; exact e
/-- a thing that is no tuple, no table, not known -/
def Mu : HO → Prop
  | .tup _ | .frz _ _ | .tbl _ => False
  | _ => True
theorem Imm.mut {H : Hp} {p : Addr} {u o : HO} (h : H p = some u) (m : Mu u) : Imm H (upd H p o) := by
  have ne : ∀ a v, H a = some v → ¬ Mu v → a ≠ p := fun a v e n z => by rw [z, h] at e; cases e; exact n m
  refine ⟨fun a xs e => by rw [upd_ne (ne _ _ e fun z => z)]; exact e, fun a o u e => by rw [upd_ne (ne _ _ e fun z => z)]; exact e, fun P t => ?_, fun a e => ?_⟩
  · refine TabG.upd t fun z => ?_
    obtain ⟨ps, e, _⟩ := t
    exact ne _ _ e (fun z => z) z.symm
  · by_cases q : a = p
    · rw [q, upd_same] at e; cases e
    · rw [upd_ne q] at e; exact e
theorem ExtS.mut {S : Addr → Prop} {H H' : Hp} {p : Addr} {u o : HO} (e : ExtS S H H') (h : H' p = some u) (m : Mu u) (hp : H p = none ∨ S p) : ExtS S H (upd H' p o) :=
  ⟨e.toImm.trans (Imm.mut h m), fun a v hs ha n => by
    have q := e.keep a v hs ha n
    have : a ≠ p := fun z => by
      rcases hp with hp | hp
      · rw [z, hp] at ha; cases ha
      · exact hs (z ▸ hp)
    rw [upd_ne this]; exact q⟩
theorem ExtS.of_tabbed {S : Addr → Prop} {H H' : Hp} {P : Addr} (h : TabG H P) (t : Tabbed P H H') : ExtS S H H' := by
  obtain ⟨ps, e, _⟩ := h
  have ne : ∀ a u, H a = some u → (∀ qs, u ≠ .tbl qs) → a ≠ P := fun a u ha n z => by rw [z, e] at ha; cases ha; exact n ps rfl
  refine ⟨⟨fun a xs ha => by rw [t.2 a (ne a _ ha fun _ z => by cases z)]; exact ha, fun a o u ha => by rw [t.2 a (ne a _ ha fun _ z => by cases z)]; exact ha, fun Q hQ => ?_, fun a ha => ?_⟩, fun a o _ ha n => by rw [t.2 a (ne a _ ha n)]; exact ha⟩
  · by_cases q : Q = P
    · rw [q]; exact t.1
    · obtain ⟨qs, e1, t1⟩ := hQ
      exact ⟨qs, by rw [t.2 Q q]; exact e1, t1⟩
  · by_cases q : a = P
    · obtain ⟨⟨qs, e1, _⟩, _⟩ := t
      rw [q, e1] at ha; cases ha
    · rw [t.2 a q] at ha; exact ha

/-! ### data -/
mutual
def Td (K : PySem.W.Frag) (H : Hp) : D → V → Prop
  | .none, v => v = .non
  | .num i, v => v = .int i
  | .text x, v => v = .str x
  | .tup ks, v => ∃ a xs, v = .ref a ∧ SqT K H a xs ∧ Tds K H ks xs
def Tds (K : PySem.W.Frag) (H : Hp) : List D → List V → Prop
  | [], xs => xs = []
  | k :: ks, xs => ∃ x r, xs = x :: r ∧ Td K H k x ∧ Tds K H ks r
end
/-- a list that is not written any more -/
def SqF (K : PySem.W.Frag) (H : Hp) (a : Addr) (xs : List V) : Prop := (∃ o, H a = some (.frz o (.lst xs))) ∨
  ∃ (o : Obj) (its : Array Value) (n : Nat), K.lookup a = some o ∧ o.cls = .type "list" ∧ o.dict = none ∧ o.data = .seq its n ∧ its.size ≤ sizeLine ∧ Vals xs its.toList
section
variable {K : PySem.W.Frag} {H H' : Hp}
theorem SqT.imm {a : Addr} {xs : List V} (e : Imm H H') (h : SqT K H a xs) : SqT K H' a xs := by
  rcases h with (h | ⟨o, h⟩) | h
  · exact .inl (.inl (e.tup _ _ h))
  · exact .inl (.inr ⟨o, e.frz _ _ _ h⟩)
  · exact .inr h
theorem SqF.imm {a : Addr} {xs : List V} (e : Imm H H') (h : SqF K H a xs) : SqF K H' a xs := h.imp (fun ⟨o, h⟩ => ⟨o, e.frz _ _ _ h⟩) id
theorem SqF.sq {a : Addr} {xs : List V} (h : SqF K H a xs) : SqL K H a xs := h.imp (fun ⟨o, h⟩ => .inr ⟨o, h⟩) id
mutual
theorem Td.imm (e : Imm H H') : ∀ (d : D) (v : V), Td K H d v → Td K H' d v
  | .none, _, h => h
  | .num _, _, h => h
  | .text _, _, h => h
  | .tup ks, _, h => by
    obtain ⟨a, xs, rfl, h1, h2⟩ := h
    exact ⟨a, xs, rfl, SqT.imm e h1, Tds.imm e ks xs h2⟩
theorem Tds.imm (e : Imm H H') : ∀ (ds : List D) (vs : List V), Tds K H ds vs → Tds K H' ds vs
  | [], _, h => h
  | k :: ks, _, h => by
    obtain ⟨x, r, rfl, h1, h2⟩ := h
    exact ⟨x, r, rfl, Td.imm e k x h1, Tds.imm e ks r h2⟩
end
theorem Tds.length : ∀ {ds : List D} {vs : List V}, Tds K H ds vs → vs.length = ds.length
  | [], _, h => by rw [show _ = [] from h]; rfl
  | _ :: _, _, h => by obtain ⟨x, r, rfl, _, h2⟩ := h; simp [Tds.length h2]
theorem Tds.get : ∀ {ds : List D} {vs : List V} {i : Nat} {d : D}, Tds K H ds vs → ds[i]? = some d → ∃ v, vs[i]? = some v ∧ Td K H d v
  | [], _, _, _, _, e => by simp at e
  | _ :: _, _, 0, _, h, e => by obtain ⟨x, r, rfl, h1, _⟩ := h; simp at e; subst e; exact ⟨x, rfl, h1⟩
  | _ :: _, _, i + 1, _, h, e => by
    obtain ⟨x, r, rfl, _, h2⟩ := h
    obtain ⟨v, e1, e2⟩ := Tds.get (i := i) h2 (by simpa using e)
    exact ⟨v, by simpa using e1, e2⟩
theorem Tds.get' : ∀ {ds : List D} {vs : List V} {i : Nat} {v : V}, Tds K H ds vs → vs[i]? = some v → ∃ d, ds[i]? = some d ∧ Td K H d v := fun {ds vs i v} h e => by
  have hi : i < ds.length := by rw [← h.length]; exact (List.getElem?_eq_some_iff.mp e).1
  obtain ⟨w, e1, e2⟩ := h.get (List.getElem?_eq_getElem hi)
  rw [e] at e1
  cases e1
  exact ⟨_, List.getElem?_eq_getElem hi, e2⟩
theorem Tds.app : ∀ {ds es : List D} {vs ws : List V}, Tds K H ds vs → Tds K H es ws → Tds K H (ds ++ es) (vs ++ ws)
  | [], _, _, _, h, h' => by rw [show _ = [] from h]; exact h'
  | _ :: _, _, _, _, h, h' => by obtain ⟨x, r, rfl, h1, h2⟩ := h; exact ⟨x, _, rfl, h1, Tds.app h2 h'⟩
theorem Tds.snoc {ds : List D} {vs : List V} {d : D} {v : V} (h : Tds K H ds vs) (h' : Td K H d v) : Tds K H (ds ++ [d]) (vs ++ [v]) := h.app ⟨v, [], rfl, h', rfl⟩
theorem Tds.drop : ∀ {ds : List D} {vs : List V} (n : Nat), Tds K H ds vs → Tds K H (ds.drop n) (vs.drop n)
  | _, _, 0, h => h
  | [], _, _ + 1, h => by rw [show _ = [] from h]; rfl
  | _ :: _, _, n + 1, h => by obtain ⟨x, r, rfl, _, h2⟩ := h; exact Tds.drop n h2
theorem Tds.take : ∀ {ds : List D} {vs : List V} (n : Nat), Tds K H ds vs → Tds K H (ds.take n) (vs.take n)
  | _, _, 0, _ => rfl
  | [], _, _ + 1, h => by rw [show _ = [] from h]; rfl
  | _ :: _, _, n + 1, h => by obtain ⟨x, r, rfl, h1, h2⟩ := h; exact ⟨x, _, rfl, h1, Tds.take n h2⟩
theorem Tds.set : ∀ {ds : List D} {vs : List V} (n : Nat) {d : D} {v : V}, Tds K H ds vs → Td K H d v → Tds K H (ds.set n d) (vs.set n v)
  | [], _, _, _, _, h, _ => by rw [show _ = [] from h]; rfl
  | _ :: _, _, 0, _, _, h, h' => by obtain ⟨x, r, rfl, _, h2⟩ := h; exact ⟨_, r, rfl, h', h2⟩
  | _ :: _, _, n + 1, _, _, h, h' => by obtain ⟨x, r, rfl, h1, h2⟩ := h; exact ⟨x, _, rfl, h1, Tds.set n h2 h'⟩
/-- ints -/
abbrev nums (l : List Int) : List D := l.map .num
theorem tds_nums : ∀ {l : List Int} {vs : List V}, Tds K H (nums l) vs → vs = l.map V.int
  | [], _, h => h
  | _ :: _, _, h => by obtain ⟨x, r, rfl, h1, h2⟩ := h; rw [show x = _ from h1, tds_nums h2]; rfl
theorem tds_of_nums : ∀ (l : List Int), Tds K H (nums l) (l.map V.int)
  | [] => rfl
  | _ :: l => ⟨_, _, rfl, rfl, tds_of_nums l⟩
/-- as the kit's data -/
def good : D → Bool
  | .none => true | .num _ => true | .text _ => true | .tup _ => true
mutual
theorem Td.dp : ∀ (d : D) (v : V), Td K H d v → Dp K H v d.data
  | .none, _, h => by rw [show _ = V.non from h]; exact .non
  | .num i, _, h => by rw [show _ = V.int i from h]; exact .int i
  | .text x, _, h => by rw [show _ = V.str x from h]; exact .str x
  | .tup ks, _, h => by
    obtain ⟨a, xs, rfl, h1, h2⟩ := h
    exact .tup h1 (Tds.dps ks xs h2)
theorem Tds.dps : ∀ (ds : List D) (vs : List V), Tds K H ds vs → DpAll K H vs (NestedKey.datas ds)
  | [], _, h => by rw [show _ = [] from h]; exact .nil
  | k :: ks, _, h => by
    obtain ⟨x, r, rfl, h1, h2⟩ := h
    exact .cons (Td.dp k x h1) (Tds.dps ks r h2)
end
end
section
variable {X : Cx} {pins : List (Addr × Obj)} {σ : L2.St} {H : Hp} {s : Shared}
mutual
theorem Td.nested (I : Inv X pins σ H s) : ∀ (d : D) (v : V) (u : Value), Td X.K H d v → RelV v u → NestedIs s.heap d u
  | .none, _, _, h, r => by rw [show _ = V.non from h] at r; cases r; exact .none
  | .num i, _, _, h, r => by rw [show _ = V.int i from h] at r; obtain ⟨t, rfl⟩ := r; exact .int i t
  | .text x, _, _, h, r => by rw [show _ = V.str x from h] at r; obtain ⟨t, rfl⟩ := r; exact .text x t
  | .tup ks, _, _, h, r => by
    obtain ⟨a, xs, rfl, h1, h2⟩ := h
    cases r
    obtain ⟨its, rv, ⟨o, e1, e2, n, e3⟩, _⟩ := I.tuple h1
    exact .tup e1 e2 e3 (by simpa using Tds.nesteds I ks xs its h2 rv)
theorem Tds.nesteds (I : Inv X pins σ H s) : ∀ (ds : List D) (vs : List V) (us : List Value), Tds X.K H ds vs → Vals vs us → NestedAll s.heap ds us
  | [], _, _, h, r => by rw [show _ = [] from h] at r; cases r; exact .nil
  | k :: ks, _, _, h, r => by
    obtain ⟨x, l, rfl, h1, h2⟩ := h
    cases r with
    | cons r1 r2 => exact .cons (Td.nested I k x _ h1 r1) (Tds.nesteds I ks l _ h2 r2)
end
end
/-! how == answers -/
mutual
theorem eqv_data : ∀ a b : D, PyData.eqv a.data b.data = NestedKey.beq a b
  | .none, .none => by simp [NestedKey.data, NestedKey.beq, PyData.eqv]
  | .num a, .num b => by simp only [NestedKey.data, NestedKey.beq, PyData.eqv]; rw [Bool.eq_iff_iff]; simp
  | .text a, .text b => by simp only [NestedKey.data, NestedKey.beq, PyData.eqv]; rw [Bool.eq_iff_iff]; simp
  | .tup a, .tup b => by simp only [NestedKey.data, NestedKey.beq, PyData.eqv]; exact eqv_datas a b
  | .none, .num _ => by simp [NestedKey.data, NestedKey.beq, PyData.eqv]
  | .none, .text _ => by simp [NestedKey.data, NestedKey.beq, PyData.eqv]
  | .none, .tup _ => by simp [NestedKey.data, NestedKey.beq, PyData.eqv]
  | .num _, .none => by simp [NestedKey.data, NestedKey.beq, PyData.eqv]
  | .num _, .text _ => by simp [NestedKey.data, NestedKey.beq, PyData.eqv]
  | .num _, .tup _ => by simp [NestedKey.data, NestedKey.beq, PyData.eqv]
  | .text _, .none => by simp [NestedKey.data, NestedKey.beq, PyData.eqv]
  | .text _, .num _ => by simp [NestedKey.data, NestedKey.beq, PyData.eqv]
  | .text _, .tup _ => by simp [NestedKey.data, NestedKey.beq, PyData.eqv]
  | .tup _, .none => by simp [NestedKey.data, NestedKey.beq, PyData.eqv]
  | .tup _, .num _ => by simp [NestedKey.data, NestedKey.beq, PyData.eqv]
  | .tup _, .text _ => by simp [NestedKey.data, NestedKey.beq, PyData.eqv]
theorem eqv_datas : ∀ a b : List D, PyData.eqvAll (NestedKey.datas a) (NestedKey.datas b) = NestedKey.beqAll a b
  | [], [] => by simp [NestedKey.datas, NestedKey.beqAll, PyData.eqvAll]
  | a :: as, b :: bs => by simp only [NestedKey.datas, NestedKey.beqAll, PyData.eqvAll]; rw [eqv_data a b, eqv_datas as bs]
  | [], _ :: _ => by simp [NestedKey.datas, NestedKey.beqAll, PyData.eqvAll]
  | _ :: _, [] => by simp [NestedKey.datas, NestedKey.beqAll, PyData.eqvAll]
end

theorem eqv_dec (a b : D) : PyData.eqv a.data b.data = decide (a = b) := (eqv_data a b).trans (NestedKey.decide_eq a b).symm

/-! ### types -/
structure Ty where
  is : V → Hp → Prop
  mono : ∀ {v : V} {H H' : Hp}, Imm H H' → is v H → is v H'
def tyD (K : PySem.W.Frag) (d : D) : Ty := ⟨fun v H => Td K H d v, fun e h => h.imm e _ _⟩
def tyB (b : Bool) : Ty := ⟨fun v _ => v = .bl b, fun _ h => h⟩
def tyR (p : Addr) : Ty := ⟨fun v _ => v = .ref p, fun _ h => h⟩
def tyU : Ty := ⟨fun _ _ => True, fun _ h => h⟩
/-- a list that is not written any more -/
def tyL (K : PySem.W.Frag) (ds : List D) : Ty := ⟨fun v H => ∃ a xs, v = .ref a ∧ SqF K H a xs ∧ Tds K H ds xs, fun e ⟨a, xs, h1, h2, h3⟩ => ⟨a, xs, h1, h2.imm e, h3.imm e _ _⟩⟩
/-- some T x of those that are P -/
def tyE {α : Type} (P : α → Prop) (T : α → Ty) : Ty := ⟨fun v H => ∃ x, P x ∧ (T x).is v H, fun e ⟨x, h1, h2⟩ => ⟨x, h1, (T x).mono e h2⟩⟩
abbrev tyI (K : PySem.W.Frag) (i : Int) : Ty := tyD K (.num i)
abbrev tyS (K : PySem.W.Frag) (x : Str) : Ty := tyD K (.text x)
abbrev tyT (K : PySem.W.Frag) (ds : List D) : Ty := tyD K (.tup ds)

/-- the tables of code objects that may grow, what the slots hold -/
structure Gam where
  tb : List Addr
  l : List (Option Ty)
def Gam.set (Γ : Gam) (i : Nat) (o : Option Ty) : Gam := ⟨Γ.tb, Γ.l.set i o⟩
/-- the slots hold what Γ says -/
structure Sty (Γ : Gam) (σ : L2.St) (H : Hp) : Prop where
  len : σ.length = Γ.l.length
  at_ : ∀ (i : Nat) (T : Ty), Γ.l[i]? = some (some T) → ∃ v, σ[i]? = some (some v) ∧ T.is v H
  tab : ∀ P ∈ Γ.tb, TabG H P
section
variable {Γ Γ' : Gam} {σ : L2.St} {H H' : Hp} {T : Ty}
theorem Sty.imm (g : Sty Γ σ H) (e : Imm H H') : Sty Γ σ H' := ⟨g.len, fun i T h => let ⟨v, a, b⟩ := g.at_ i T h; ⟨v, a, T.mono e b⟩, fun P hP => e.tab P (g.tab P hP)⟩
theorem set_get {α : Type} {l : List α} {i j : Nat} {x y : α} (e : (l.set i x)[j]? = some y) : (i = j ∧ i < l.length ∧ x = y) ∨ (i ≠ j ∧ l[j]? = some y) := by
  by_cases q : i = j
  · subst q
    by_cases h : i < l.length
    · rw [List.getElem?_set_self h] at e
      exact .inl ⟨rfl, h, Option.some.inj e⟩
    · rw [List.getElem?_eq_none (by simpa using h)] at e
      cases e
  · rw [List.getElem?_set_ne q] at e
    exact .inr ⟨q, e⟩
theorem Sty.set {i : Nat} {v : V} (g : Sty Γ σ H) (h : T.is v H) : Sty (Γ.set i (some T)) (σ.set i (some v)) H := by
  refine ⟨by simp [Gam.set, g.len], fun j U e => ?_, g.tab⟩
  rcases set_get e with ⟨rfl, l, e⟩ | ⟨n, e⟩
  · cases e
    exact ⟨v, List.getElem?_set_self (by rw [g.len]; exact l), h⟩
  · rw [List.getElem?_set_ne n]
    exact g.at_ j U e
/-- less is told -/
theorem Sty.weak (g : Sty Γ σ H) (ht : Γ'.tb = Γ.tb) (hl : Γ'.l.length = Γ.l.length) (h : ∀ (i : Nat) (T : Ty), Γ'.l[i]? = some (some T) → Γ.l[i]? = some (some T)) : Sty Γ' σ H := ⟨g.len.trans hl.symm, fun i T e => g.at_ i T (h i T e), by rw [ht]; exact g.tab⟩
/-- a slot told otherwise -/
theorem Sty.to {i : Nat} {U : Ty} (g : Sty Γ σ H) (hi : Γ.l[i]? = some (some T)) (h : ∀ v, T.is v H → U.is v H) : Sty (Γ.set i (some U)) σ H := by
  refine ⟨by simp [Gam.set, g.len], fun j W e => ?_, g.tab⟩
  rcases set_get e with ⟨rfl, l, e⟩ | ⟨n, e⟩
  · cases e
    obtain ⟨v, a, b⟩ := g.at_ i T hi
    exact ⟨v, a, h v b⟩
  · exact g.at_ j W e
theorem Sty.lose {i : Nat} (g : Sty Γ σ H) : Sty (Γ.set i none) σ H := by
  refine ⟨by simp [Gam.set, g.len], fun j W e => ?_, g.tab⟩
  rcases set_get e with ⟨_, _, e⟩ | ⟨n, e⟩
  · cases e
  · exact g.at_ j W e
/-- a told thing is chosen -/
theorem Sty.open {α : Type} {P : α → Prop} {U : α → Ty} {i : Nat} (g : Sty Γ σ H) (hi : Γ.l[i]? = some (some (tyE P U))) : ∃ x, P x ∧ Sty (Γ.set i (some (U x))) σ H := by
  obtain ⟨v, a, x, hx, b⟩ := g.at_ i _ hi
  refine ⟨x, hx, by simp [Gam.set, g.len], fun j W e => ?_, g.tab⟩
  rcases set_get e with ⟨rfl, l, e⟩ | ⟨n, e⟩
  · cases e
    exact ⟨v, a, b⟩
  · exact g.at_ j W e
def wipeG (Γ : Gam) : List Nat → Gam
  | [] => Γ
  | v :: vs => (wipeG Γ vs).set v none
theorem Sty.forget {i : Nat} (g : Sty Γ σ H) : Sty (Γ.set i none) (σ.set i none) H := by
  refine ⟨by simp [Gam.set, g.len], fun j U e => ?_, g.tab⟩
  rcases set_get e with ⟨_, _, e⟩ | ⟨n, e⟩
  · cases e
  · rw [List.getElem?_set_ne n]
    exact g.at_ j U e
theorem Sty.wipe (g : Sty Γ σ H) : ∀ vs : List Nat, Sty (wipeG Γ vs) (L2.wipe σ vs) H
  | [] => g
  | v :: vs => (Sty.wipe g vs).forget
end
/-- at the entry -/
theorem Sty.nils {tb : List Addr} {H : Hp} (ht : ∀ P ∈ tb, TabG H P) : ∀ n : Nat, Sty ⟨tb, List.replicate n none⟩ (List.replicate n none) H := fun n => ⟨by simp, fun i T e => (by
  have e : (List.replicate n (none : Option Ty))[i]? = some (some T) := e
  rw [List.getElem?_replicate] at e
  split at e <;> cases e), ht⟩
theorem Sty.cons {tb : List Addr} {l : List (Option Ty)} {σ : L2.St} {H : Hp} {T : Ty} {v : V} (h : T.is v H) (g : Sty ⟨tb, l⟩ σ H) : Sty ⟨tb, some T :: l⟩ (some v :: σ) H := ⟨by simp [g.len], fun i U e => (by
  cases i with
  | zero => simp at e; subst e; exact ⟨v, rfl, h⟩
  | succ i => exact g.at_ i U (by simpa using e)), g.tab⟩

/-! ### what evaluates to what -/
def Alls : List Ty → List V → Hp → Prop
  | [], vs, _ => vs = []
  | T :: Ts, vs, H => ∃ v r, vs = v :: r ∧ T.is v H ∧ Alls Ts r H
theorem Alls.imm {H H' : Hp} (e : Imm H H') : ∀ {Ts : List Ty} {vs : List V}, Alls Ts vs H → Alls Ts vs H'
  | [], _, h => h
  | T :: _, _, h => by obtain ⟨v, r, rfl, h1, h2⟩ := h; exact ⟨v, r, rfl, T.mono e h1, Alls.imm e h2⟩
def Ev (te : TE) (Γ : Gam) (T : Ty) : Prop := ∀ σ H, Sty Γ σ H → ∀ Q : VK, (∀ v H', Ext H H' → T.is v H' → Q v H') → te σ H Q
def EvT (tt : TT) (Γ : Gam) (b : Bool) : Prop := ∀ σ H, Sty Γ σ H → ∀ Q : Bool → Hp → Prop, (∀ H', Ext H H' → Q b H') → tt σ H Q
def EvA (ta : TA) (Γ : Gam) (Ts : List Ty) : Prop := ∀ σ H, Sty Γ σ H → ∀ Q : List V → Hp → Prop, (∀ vs H', Ext H H' → Alls Ts vs H' → Q vs H') → ta σ H Q
/-- a new list -/
def EvN (K : PySem.W.Frag) (te : TE) (Γ : Gam) (ds : List D) : Prop := ∀ σ H, Sty Γ σ H → ∀ Q : VK, (∀ p xs H', H p = none → Ext H H' → H' p = some (.lst xs) → Tds K H' ds xs → Q (.ref p) H') → te σ H Q
def EvO (to : TO) (Γ : Gam) (o : Option Int) : Prop := ∀ σ H, Sty Γ σ H → ∀ Q : Option Int → Hp → Prop, (∀ H', Ext H H' → Q o H') → to σ H Q
section
variable {K : PySem.W.Frag} {Γ : Gam} {T U : Ty} {ta tb te : TE} {t u : TT} {d e : D} {ds es : List D} {i j : Int} {b c : Bool} {x y : Str}
theorem ev_var {i : Nat} (h : Γ.l[i]? = some (some T)) : Ev (tVar i) Γ T := fun σ H g Q q => let ⟨v, a, b⟩ := g.at_ i T h; ⟨v, a, q v H (ExtS.refl H) b⟩
theorem ev_c {v : V} (h : ∀ H, T.is v H) : Ev (tC v) Γ T := fun σ H _ Q q => q v H (ExtS.refl H) (h H)
theorem ev_i : Ev (tC (.int i)) Γ (tyI K i) := ev_c fun _ => rfl
theorem ev_s : Ev (tC (.str x)) Γ (tyS K x) := ev_c fun _ => rfl
theorem ev_n : Ev (tC .non) Γ (tyD K .none) := ev_c fun _ => rfl
theorem ev_b : Ev (tC (.bl b)) Γ (tyB b) := ev_c fun _ => rfl
theorem ev_is (h : Ev te Γ T) (e : T = U) : Ev te Γ U := e ▸ h
theorem et_is (h : EvT t Γ b) (e : b = c) : EvT t Γ c := e ▸ h
theorem ev_D (h : Ev te Γ (tyD K d)) (q : d = e) : Ev te Γ (tyD K e) := q ▸ h
theorem ev_B (h : Ev te Γ (tyB b)) (q : b = c) : Ev te Γ (tyB c) := q ▸ h
theorem ev_imp (h : Ev te Γ T) (k : ∀ v H, T.is v H → U.is v H) : Ev te Γ U := fun σ H g Q q => h σ H g Q fun v H' e r => q v H' e (k v H' r)
theorem ea_nil : EvA tNil Γ [] := fun σ H _ Q q => q [] H (ExtS.refl H) rfl
theorem ea_cons {tr : TA} {Ts : List Ty} (h : Ev te Γ T) (hr : EvA tr Γ Ts) : EvA (tCons te tr) Γ (T :: Ts) := fun σ H g Q q =>
  h σ H g _ fun v H1 e1 r1 => hr σ H1 (g.imm e1.toImm) _ fun vs H2 e2 r2 => q _ H2 (e1.trans e2) ⟨v, vs, rfl, T.mono e2.toImm r1, r2⟩
/-- a two-place operation -/
def RV (r : R2) (T U W : Ty) : Prop := ∀ x y H, T.is x H → U.is y H → ∀ Q : VK, (∀ v H', Ext H H' → W.is v H' → Q v H') → r x y H Q
theorem ev_op {r : R2} {W : Ty} (ha : Ev ta Γ T) (hb : Ev tb Γ U) (hr : RV r T U W) : Ev (tOp r ta tb) Γ W := fun σ H g Q q =>
  ha σ H g _ fun x H1 e1 r1 => hb σ H1 (g.imm e1.toImm) _ fun y H2 e2 r2 => hr x y H2 (T.mono e2.toImm r1) r2 Q fun v H3 e3 r3 => q v H3 ((e1.trans e2).trans e3) r3
/-- a call by values -/
def RC (r : List V → Hp → VK → Prop) (Ts : List Ty) (W : Ty) : Prop := ∀ vs H, Alls Ts vs H → ∀ Q : VK, (∀ v H', Ext H H' → W.is v H' → Q v H') → r vs H Q
theorem ev_cb {r : List V → Hp → VK → Prop} {ta : TA} {Ts : List Ty} {W : Ty} (h : EvA ta Γ Ts) (hr : RC r Ts W) : Ev (tCB r ta) Γ W := fun σ H g Q q =>
  h σ H g _ fun vs H1 e1 r1 => hr vs H1 r1 Q fun v H2 e2 r2 => q v H2 (e1.trans e2) r2
theorem alls_tds : ∀ {ds : List D} {vs : List V} {H : Hp}, Alls (ds.map (tyD K)) vs H → Tds K H ds vs
  | [], _, _, h => h
  | _ :: _, _, _, h => by obtain ⟨v, r, rfl, h1, h2⟩ := h; exact ⟨v, r, rfl, h1, alls_tds h2⟩
theorem ev_tup {ta : TA} (h : EvA ta Γ (ds.map (tyD K))) (hl : ds.length ≤ 1000) : Ev (tTup ta) Γ (tyT K ds) := fun σ H g Q q =>
  h σ H g _ fun vs H1 e1 r1 => by
    have r2 := alls_tds r1
    refine ⟨by rw [r2.length, sizeLine_eq]; omega, fun p hp => q _ _ (e1.trans (Ext.new hp)) ⟨p, vs, rfl, .inl (.inl upd_same), r2.imm (Ext.new hp).toImm _ _⟩⟩
theorem en_lst {ta : TA} (h : EvA ta Γ (ds.map (tyD K))) (hl : ds.length ≤ 1000) : EvN K (tLst ta) Γ ds := fun σ H g Q q =>
  h σ H g _ fun vs H1 e1 r1 => by
    have r2 := alls_tds r1
    exact ⟨by rw [r2.length, sizeLine_eq]; omega, fun p hp => q p vs _ (e1.dom p hp) (e1.trans (Ext.new hp)) upd_same (r2.imm (Ext.new hp).toImm _ _)⟩
/-- a new list, read only -/
theorem rv_I0 {g : Int → Int → Int} : RV (rI0 fun i j => .int (g i j)) (tyI K i) (tyI K j) (tyI K (g i j)) := fun x y H h1 h2 Q q => ⟨i, j, h1, h2, q _ H (ExtS.refl H) rfl⟩
theorem rv_I {C : Int → Int → Prop} {g : Int → Int → Int} (hc : C i j) : RV (rI C fun i j => .int (g i j)) (tyI K i) (tyI K j) (tyI K (g i j)) := fun x y H h1 h2 Q q => ⟨i, j, h1, h2, hc, q _ H (ExtS.refl H) rfl⟩
theorem rv_C0 {g : Int → Int → Bool} : RV (rI0 fun i j => .bl (g i j)) (tyI K i) (tyI K j) (tyB (g i j)) := fun x y H h1 h2 Q q => ⟨i, j, h1, h2, q _ H (ExtS.refl H) rfl⟩
theorem rv_ixT {k : Int} (h : atI ds k = some d) : RV (rIxT K) (tyT K ds) (tyI K k) (tyD K d) := fun x y H h1 h2 Q q => by
  obtain ⟨a, xs, rfl, s, t⟩ := h1
  obtain rfl : y = .int k := h2
  obtain ⟨m, e1, e2, _, _⟩ := atI_get h
  obtain ⟨v, e3, e4⟩ := t.get e2
  refine ⟨a, xs, k, v, rfl, rfl, s, ?_, q v H (ExtS.refl H) e4⟩
  unfold atI at h ⊢
  rw [t.length]
  cases e5 : ixN ds.length k with
  | none => rw [e5] at h; cases h
  | some n =>
    rw [e5] at h
    obtain ⟨w, e6, _⟩ := t.get (i := n) (d := d) h
    have : m = n := by
      have := (ixN_seq e5).1
      rw [e1] at this
      exact Option.some.inj this
    subst this
    exact e3
theorem rv_ixL {k : Int} (h : atI ds k = some d) : RV (rIxL K) (tyL K ds) (tyI K k) (tyD K d) := fun x y H h1 h2 Q q => by
  obtain ⟨a, xs, rfl, s, t⟩ := h1
  obtain rfl : y = .int k := h2
  obtain ⟨m, e1, e2, _, _⟩ := atI_get h
  obtain ⟨v, e3, e4⟩ := t.get e2
  refine ⟨a, xs, k, v, rfl, rfl, s.sq, ?_, q v H (ExtS.refl H) e4⟩
  unfold atI at h ⊢
  rw [t.length]
  cases e5 : ixN ds.length k with
  | none => rw [e5] at h; cases h
  | some n =>
    rw [e5] at h
    have : m = n := by
      have := (ixN_seq e5).1
      rw [e1] at this
      exact Option.some.inj this
    subst this
    exact e3
theorem rv_eq (h1 : SeqAt.shaped d.data = true) (h2 : SeqAt.shaped e.data = true) : RV (rEqD K) (tyD K d) (tyD K e) (tyB (decide (d = e))) := fun x y H r1 r2 Q q =>
  ⟨d.data, e.data, r1.dp _ _, r2.dp _ _, h1, h2, by rw [eqv_dec]; exact q _ H (ExtS.refl H) rfl⟩
theorem rv_ne (h1 : SeqAt.shaped d.data = true) (h2 : SeqAt.shaped e.data = true) : RV (rNeD K) (tyD K d) (tyD K e) (tyB (!decide (d = e))) := fun x y H r1 r2 Q q =>
  ⟨d.data, e.data, r1.dp _ _, r2.dp _ _, h1, h2, by rw [eqv_dec]; exact q _ H (ExtS.refl H) rfl⟩
/-! tests -/
theorem et_B (h : Ev te Γ (tyB b)) : EvT (tB te) Γ b := fun σ H g Q q => h σ H g _ fun v H1 e r => ⟨b, r, q H1 e⟩
theorem et_and (h1 : EvT t Γ b) (h2 : b = true → EvT u Γ c) : EvT (tAnd t u) Γ (b && c) := fun σ H g Q q => h1 σ H g _ fun H1 e1 => by
  cases b with
  | true =>
    show u σ H1 Q
    exact h2 rfl σ H1 (g.imm e1.toImm) Q fun H2 e2 => q H2 (e1.trans e2)
  | false => exact q H1 e1
theorem et_or (h1 : EvT t Γ b) (h2 : b = false → EvT u Γ c) : EvT (tOr t u) Γ (b || c) := fun σ H g Q q => h1 σ H g _ fun H1 e1 => by
  cases b with
  | false =>
    show u σ H1 Q
    exact h2 rfl σ H1 (g.imm e1.toImm) Q fun H2 e2 => q H2 (e1.trans e2)
  | true => exact q H1 e1
theorem et_not (h : EvT t Γ b) : EvT (tNot t) Γ (!b) := fun σ H g Q q => h σ H g _ fun H1 e => q H1 e
theorem ev_andV (h1 : Ev ta Γ (tyB b)) (h2 : b = true → Ev tb Γ (tyB c)) : Ev (tAndV ta tb) Γ (tyB (b && c)) := fun σ H g Q q => h1 σ H g _ fun v H1 e1 r1 => ⟨b, r1, by
  cases b with
  | true =>
    show tb σ H1 Q
    exact h2 rfl σ H1 (g.imm e1.toImm) Q fun v2 H2 e2 r2 => q v2 H2 (e1.trans e2) r2
  | false => exact q _ H1 e1 rfl⟩
theorem ev_orV (h1 : Ev ta Γ (tyB b)) (h2 : b = false → Ev tb Γ (tyB c)) : Ev (tOrV ta tb) Γ (tyB (b || c)) := fun σ H g Q q => h1 σ H g _ fun v H1 e1 r1 => ⟨b, r1, by
  cases b with
  | false =>
    show tb σ H1 Q
    exact h2 rfl σ H1 (g.imm e1.toImm) Q fun v2 H2 e2 r2 => q v2 H2 (e1.trans e2) r2
  | true => exact q _ H1 e1 rfl⟩
theorem ev_notV (h : Ev te Γ (tyB b)) : Ev (tNotV te) Γ (tyB (!b)) := fun σ H g Q q => h σ H g _ fun v H1 e r => ⟨b, r, q _ H1 e rfl⟩
theorem ev_if (h : EvT t Γ b) (h1 : b = true → Ev ta Γ T) (h2 : b = false → Ev tb Γ T) : Ev (tIf t ta tb) Γ T := fun σ H g Q q => h σ H g _ fun H1 e1 => by
  cases b with
  | true =>
    show ta σ H1 Q
    exact h1 rfl σ H1 (g.imm e1.toImm) Q fun v2 H2 e2 r2 => q v2 H2 (e1.trans e2) r2
  | false =>
    show tb σ H1 Q
    exact h2 rfl σ H1 (g.imm e1.toImm) Q fun v2 H2 e2 r2 => q v2 H2 (e1.trans e2) r2
theorem ev_isN (h : Ev te Γ (tyD K d)) : Ev (tIsN te) Γ (tyB (decide (d = .none))) := fun σ H g Q q => h σ H g _ fun v H1 e r => q _ H1 e (by
  show V.bl _ = V.bl _
  congr 1
  cases d with
  | none => rw [show v = _ from r]; rfl
  | num _ => rw [show v = _ from r]; rfl
  | text _ => rw [show v = _ from r]; rfl
  | tup _ => obtain ⟨a, xs, rfl, _⟩ := r; rfl)
theorem ev_notN (h : Ev te Γ (tyD K d)) : Ev (tNotN te) Γ (tyB (!decide (d = .none))) := fun σ H g Q q => h σ H g _ fun v H1 e r => q _ H1 e (by
  show V.bl _ = V.bl _
  congr 2
  cases d with
  | none => rw [show v = _ from r]; rfl
  | num _ => rw [show v = _ from r]; rfl
  | text _ => rw [show v = _ from r]; rfl
  | tup _ => obtain ⟨a, xs, rfl, _⟩ := r; rfl)
theorem eo_none : EvO tNoPart Γ none := fun σ H _ Q q => q H (ExtS.refl H)
theorem eo_some (h : Ev te Γ (tyI K i)) : EvO (tPart te) Γ (some i) := fun σ H g Q q => h σ H g _ fun v H1 e r => ⟨i, r, q H1 e⟩
end
end OS

end

section
set_option maxHeartbeats 4000000
/-! enumerate(tuple), zip(tuple, list). -/
namespace PySem
open Sem (wp)
theorem meets_enumerate_new1B {v : Value} {o : Obj} {H : Heap → Prop} (B : Begins v o H) :
    Meets (Builtin.«enumerate.__new__» ⟨[.type "enumerate", v], []⟩) (fun _ R s => H s.heap ∧
      R (.ok (.ret (.ref (s.heap.push o).objs.size))) { s with heap := (s.heap.push o).push { cls := .type "enumerate", data := .fields #[.none, .bool false, .ref s.heap.objs.size, rawInt 0, .none, .none] } }) :=
  .of_wp fun prog w A R s h => by
    obtain ⟨hp, g, d, tk, os⟩ := s; obtain ⟨h1, h⟩ := h
    have hsub := sub_enumerate
    have q1 : ∀ {A' : Around} {E : Value → Shared → Prop} {Q : Value → Shared → Prop}, Q (.ref hp.objs.size) ⟨hp.push o, g, d, tk, os⟩ → wpAny (model prog w) A' (pyIter v) Q E ⟨hp, g, d, tk, os⟩ :=
      fun q => B.iter prog w _ _ ⟨hp, g, d, tk, os⟩ _ h1 q
    wp_walk using q1
    refine wpAny_stack_any fun st => wpAny_pure ?_
    split
    · rename_i c _ _ _ _ _
      cases (c == Value.type "enumerate")
      · wp_walk using q1
        exact ⟨_, rfl, h⟩
      · wp_walk using q1
        exact ⟨_, rfl, h⟩
    · wp_walk using q1
      exact ⟨_, rfl, h⟩
section
variable {prog : Program} {w : World} {A : Around} {E : Value → Shared → Prop} {s : Shared}
theorem enum_begins1 {v : Value} {o : Obj} {H : Heap → Prop} {Q : Value → Shared → Prop} (B : Begins v o H) (h1 : H s.heap)
    (h : ∀ h', IsEnum h' (s.heap.objs.size + 1) s.heap.objs.size 0 .none → h'.get? s.heap.objs.size = some o → h'.objs.size = s.heap.objs.size + 2 →
      (∀ b o, s.heap.get? b = some o → h'.get? b = some o) → Q (.ref (s.heap.objs.size + 1)) { s with heap := h' }) :
    wpAny (model prog w) A (call (.type "enumerate") [v]) Q E s := by
  refine callType_new F.called_enumerate (by decide) (F.typeCall_enumerate_1 _) (F.newCall_enumerate_1 _) (fun obj => F.args_object_init_2 obj _) F.entry_enumerate_new
    (meets_enumerate_new1B B) ⟨h1, ?_⟩
  have hz : (s.heap.push o).objs.size = s.heap.objs.size + 1 := Heap.size_push ..
  show _ ∧ _
  rw [hz]
  have he : IsEnum ((s.heap.push o).push { cls := .type "enumerate", data := .fields #[.none, .bool false, .ref s.heap.objs.size, rawInt 0, .none, .none] }) (s.heap.objs.size + 1) s.heap.objs.size 0 .none := by
    have := Heap.get?_push_size (s.heap.push o) (o := { cls := .type "enumerate", data := .fields #[.none, .bool false, .ref s.heap.objs.size, rawInt 0, .none, .none] }) rfl
    rw [hz] at this; exact this
  refine ⟨⟨_, he, rfl⟩, h _ he (Heap.get?_push_of_some _ (Heap.get?_push_size _ B.free)) (by rw [Heap.size_push, hz]) fun b o x => Heap.get?_push_of_some _ (Heap.get?_push_of_some _ x)⟩
end
end PySem
namespace L2
open PySem PySem.Spec PyProof.Rows
/-! ### enumerate(tuple) -/
def IteT (K : PySem.W.Frag) (a : Addr) : It :=
  ⟨fun i H => ∃ (xs : List V) (x : V), SqT K H a xs ∧ xs[i]? = some x, fun i H v H' => ∃ T x, v = .ref T ∧ H T = none ∧ H' = upd H T (.tup [.int (i : Nat), x]) ∧ ∀ xs, SqT K H a xs → xs[i]? = some x, fun i H => ∃ xs : List V, SqT K H a xs ∧ xs.length = i⟩
theorem turn_enumT {P : Program} {w : World} {K : PySem.W.Frag} {elts : List Expr} {kk : Nat} {tpos : Pos} (a e it : Addr) :
    Turn P w K (.Tuple elts kk tpos) (IteT K a) [e, it] e (fun i h => (∃ old, IsEnum h e it ((i : Nat) : Int) old) ∧ h.IsTupleIter it a i ∧ e ≠ it ∧ a ≠ e ∧ a ≠ it) where
  mem := by simp
  obj := fun i h st b hb => by
    obtain ⟨⟨old, he⟩, ⟨o, ho, hc, hd⟩, _⟩ := st
    have e' : b = e ∨ b = it := by simpa using hb
    rcases e' with z | z
    · rw [z]; exact ⟨_, he, fun v q => nomatch q⟩
    · rw [z]; exact ⟨o, ho, fun v q => by rw [hd] at q; cases q⟩
  keep := fun i h h' st k => let ⟨⟨old, he⟩, hi, hne⟩ := st; ⟨⟨old, k e (by simp) _ he⟩, hi.at fun o q => k it (by simp) o q, hne⟩
  item := by
    intro X hP hw hK hc i pins s σ H E I hf st hg
    subst hP hw hK
    obtain ⟨⟨old, he⟩, hit, hne, hae, hai⟩ := st
    obtain ⟨xs, x, hq, hx⟩ := hg
    obtain ⟨its, rv, p, hz⟩ := I.tuple hq
    obtain ⟨u, hu, ru⟩ := rv.get hx
    have hel : e < s.heap.objs.size := Heap.lt_size he
    have hil : it < s.heap.objs.size := by obtain ⟨_, q, _⟩ := hit; exact Heap.lt_size q
    have hi : i < its.toArray.size := by rw [List.size_toArray]; exact (List.getElem?_eq_some_iff.mp hu).1
    refine wpAny_pyNext_enum_itemC (Draws.tuple (A := X.A.in1) (I.ok.hd hc) it a hai its.toArray) he ⟨hit, p⟩ hi hne (by simp [hne, Ne.symm hae]) fun x' h' tk hx' ho hst' hT hsz hk => ?_
    have hxu : x' = u := by
      have e1 : its[i]? = some x' := by simpa using hx'
      rw [hu] at e1
      exact (Option.some.inj e1).symm
    subst hxu
    obtain ⟨hit', _⟩ := hst'
    refine ⟨_, rfl, wpAny_letOwnedTupleGo_enum (s := { s with heap := h', toks := tk + 1 }) ho fun h'' he' sb => ?_⟩
    have hT2 : h''.get? s.heap.objs.size = some { cls := .type "tuple", data := .seq #[.int i tk, x'] } := (sb.2 _ (Nat.ne_of_gt hel)).trans hT
    have new : ObjOk X.prog X.w (upd H s.heap.objs.size (.tup [.int (i : Nat), x])) h'' s.heap.objs.size (.tup [.int (i : Nat), x]) :=
      ⟨by show 2 ≤ sizeLine; decide, [.int i tk, x'], .cons ⟨_, rfl⟩ (.cons ru .nil), ⟨_, hT2, rfl, _, rfl⟩⟩
    have I1 : Inv X pins σ (upd H s.heap.objs.size (.tup [.int (i : Nat), x])) { s with heap := h'', toks := tk + 1 } :=
      I.turnedNew (ch := [e, it]) (fun b ob hb q => (sb.2 b (fun z => hb (by simp [z]))).trans (hk b ob (fun z => hb (by simp [z])) (fun z => hb (by simp [z])) q)) hf (Nat.le_refl _) new
    refine ⟨.ref s.heap.objs.size, _, I1, rfl, ⟨_, x, rfl, I.hok.fresh (Nat.le_refl _), rfl, fun ys hy => by rw [I.tuple_inj hy hq]; exact hx⟩, ⟨⟨x', ?_⟩, hit'.at fun o q => (sb.2 it (Ne.symm hne)).trans q, hne, hae, hai⟩, fun b hb => ?_⟩
    · have e1 : ((i + 1 : Nat) : Int) = (i : Int) + 1 := by omega
      rw [e1]; exact he'
    · have hb' : b < s.heap.objs.size := by
        have e' : b = e ∨ b = it := by simpa using hb
        rcases e' with z | z
        · rw [z]; exact hel
        · rw [z]; exact hil
      rw [upd_ne (Nat.ne_of_lt hb')]
      exact (hf b hb).1
  done := by
    intro X hP hw hK hc i pins s σ H E I hf st hg
    subst hP hw hK
    obtain ⟨⟨old, he⟩, hit, hne, hae, hai⟩ := st
    obtain ⟨xs, hq, hx⟩ := hg
    obtain ⟨its, rv, p, hz⟩ := I.tuple hq
    obtain ⟨f0, f1, f2, f3, f4, f5⟩ := hf it (by simp)
    have hl := rv.length
    have hi : i = its.toArray.size := by rw [List.size_toArray]; omega
    refine wpAny_pyNext_enum_endD (Draws.tuple (A := X.A.in1) (I.ok.hd hc) it a hai its.toArray) he (by rw [← hi]; exact ⟨hit, p⟩) fun h' eb => ⟨rfl, I.turned (t' := s.toks) (fun b o hb q => eb b o hb q) f0 f1 f3 f4 f5⟩
  self := fun A i s Q E st h => let ⟨⟨_, he⟩, _⟩ := st; wpAny_pyIter_enum he h
def iEnumT (K : PySem.W.Frag) (ta : TA) : TI := fun σ H R => ta σ H fun vs H1 => ∃ a xs, vs = [.ref a] ∧ SqT K H1 a xs ∧ R (IteT K a) H1
theorem pi_enumT {X : Cx} {e : Expr} {ta : TA} {p pos tpos : Pos} {elts : List Expr} {kk : Nat} (hg : Gl X "enumerate") (hm : X.mg "enumerate" = none) (ha : PA X [e] ta) (hs : starEach [e] X.env = [(false, eval e X.env)] := by rfl) :
    PI X (.Tuple elts kk tpos) (.Call (.Name "enumerate" p) [e] [] pos) (iEnumT X.K ta) := by
  refine ⟨fun pins s σ H R I h => ?_⟩
  refine Call_ (ld_blt I hg hm boot_enumerate (PyProof.Rows.callWith_type1 (thn (ha.run pos pins s σ H _ I h) fun us s1 ⟨vs, H1, I1, r1, q1⟩ => ?_) hs rfl))
  obtain ⟨a, xs, ex, hq, q⟩ := q1
  subst ex
  cases r1 with
  | cons r rr =>
    cases rr
    cases r
    obtain ⟨its, rv, p', hz⟩ := I1.tuple hq
    have hal : a < s1.heap.objs.size := p'.lt
    refine enum_begins1 (begins_tuple a its.toArray) p' fun h' he hit hsz hk => wpAny_pyIter_enum he ?_
    have I2 : Inv X pins σ H1 { s1 with heap := h' } := I1.kept (t' := s1.toks) hk
    refine ⟨s1.heap.objs.size + 1, [s1.heap.objs.size + 1, s1.heap.objs.size], _, _, H1, rfl, I2, turn_enumT a (s1.heap.objs.size + 1) s1.heap.objs.size, ⟨⟨.none, he⟩, ⟨_, hit, rfl, rfl⟩, Nat.succ_ne_self _, Nat.ne_of_lt (Nat.lt_succ_of_lt hal), Nat.ne_of_lt hal⟩, fun b hb => ?_, q⟩
    have e' : b = s1.heap.objs.size + 1 ∨ b = s1.heap.objs.size := by simpa using hb
    have hle : s1.heap.objs.size ≤ b := by
      rcases e' with z | z
      · rw [z]; exact Nat.le_add_right _ _
      · rw [z]; exact Nat.le_refl _
    exact I1.fpOk hle (I1.hok.fresh hle)
theorem walk_enumT {K : PySem.W.Frag} {a : Addr} {xs : List V} : Walk (IteT K a) xs.length (fun H => SqT K H a xs) (YPair (fun i => some (.int (i : Nat))) (fun i => xs[i]?)) := by
  refine ⟨fun i _ hi q => ⟨xs, xs[i], q, by simp [hi]⟩, fun _ q => ⟨xs, q, rfl⟩, fun i H v H' _ q y => ?_⟩
  obtain ⟨T, x, h1, h2, h3, h4⟩ := y
  exact ⟨T, .int (i : Nat), x, h1, h2, h3, rfl, h4 xs q⟩

/-! ### zip(tuple, list) -/
def ItzTL (K : PySem.W.Frag) (a b : Addr) : It :=
  ⟨fun i H => ∃ (xs ys : List V) (x y : V), SqT K H a xs ∧ SqL K H b ys ∧ xs[i]? = some x ∧ ys[i]? = some y,
    fun i H v H' => ∃ T x y, v = .ref T ∧ H T = none ∧ H' = upd H T (.tup [x, y]) ∧ (∀ xs, SqT K H a xs → xs[i]? = some x) ∧ ∀ ys, SqL K H b ys → ys[i]? = some y,
    fun i H => ∃ xs ys : List V, SqT K H a xs ∧ SqL K H b ys ∧ i ≤ xs.length ∧ i ≤ ys.length ∧ (i = xs.length ∨ i = ys.length)⟩
theorem turn_zipTL {P : Program} {w : World} {K : PySem.W.Frag} {elts : List Expr} {kk : Nat} {tpos : Pos} {a b z TI TO i1 i2 : Addr} (D : ZipSep2 z TI TO i1 i2 [i1, a] [i2, b]) (n1 : a ≠ i1) (n2 : b ≠ i2) :
    Turn P w K (.Tuple elts kk tpos) (ItzTL K a b) [z, TI, TO, i1, i2] z (fun i h => IsZip h z TI TO .none ∧ IsTupOf2 h TI (.ref i1) (.ref i2) ∧ (∃ x y, IsTupOf2 h TO x y) ∧ h.IsTupleIter i1 a i ∧ h.IsListIter i2 b i) where
  mem := by simp
  obj := fun i h st c hc => by
    obtain ⟨hz, hTI, ⟨x, y, hTO⟩, ⟨o1, e1, _, d1⟩, ⟨o2, e2, _, d2⟩⟩ := st
    have e' : c = z ∨ c = TI ∨ c = TO ∨ c = i1 ∨ c = i2 := by simpa using hc
    rcases e' with q | q | q | q | q
    · rw [q]; exact ⟨_, hz, fun v q => nomatch q⟩
    · rw [q]; exact ⟨_, hTI, fun v q => nomatch q⟩
    · rw [q]; exact ⟨_, hTO, fun v q => nomatch q⟩
    · rw [q]; exact ⟨o1, e1, fun v q => by rw [d1] at q; cases q⟩
    · rw [q]; exact ⟨o2, e2, fun v q => by rw [d2] at q; cases q⟩
  keep := fun i h h' st k => by
    obtain ⟨hz, hTI, ⟨x, y, hTO⟩, h1, h2⟩ := st
    exact ⟨k z (by simp) _ hz, k TI (by simp) _ hTI, ⟨x, y, k TO (by simp) _ hTO⟩, h1.at fun o q => k i1 (by simp) o q, h2.at fun o q => k i2 (by simp) o q⟩
  item := by
    intro X hP hw hK hc i pins s σ H E I hf st hg
    subst hP hw hK
    obtain ⟨hz, hTI, ⟨x0, y0, hTO⟩, h1, h2⟩ := st
    obtain ⟨xs, ys, x, y, hqx, hqy, hx, hy⟩ := hg
    obtain ⟨its, rv, p, _⟩ := I.tuple hqx
    obtain ⟨its2, rv2, p2, _⟩ := I.list hqy
    obtain ⟨u, hu, ru⟩ := rv.get hx
    obtain ⟨u2, hu2, ru2⟩ := rv2.get hy
    have hzl : z < s.heap.objs.size := Heap.lt_size hz
    have hi1 : i < its.toArray.size := by rw [List.size_toArray]; exact (List.getElem?_eq_some_iff.mp hu).1
    have hi2 : i < its2.toArray.size := by rw [List.size_toArray]; exact (List.getElem?_eq_some_iff.mp hu2).1
    refine wpAny_pyNext_zipD2_item D (Draws.tuple (A := X.A.in1) (I.ok.hd hc) i1 a n1 its.toArray) (Draws.list (A := X.A.in1) (I.ok.hd hc) i2 b n2 its2.toArray) hz hTI hTO ⟨h1, p⟩ ⟨h2, p2.isList⟩ hi1 hi2 fun x1 x2 h' tk e1 e2 z' TO' h1' h2' hT hsz hk => ?_
    obtain rfl : x1 = u := by
      have q1 : its[i]? = some x1 := by simpa using e1
      rw [hu] at q1
      exact (Option.some.inj q1).symm
    obtain rfl : x2 = u2 := by
      have q1 : its2[i]? = some x2 := by simpa using e2
      rw [hu2] at q1
      exact (Option.some.inj q1).symm
    refine ⟨_, rfl, wpAny_letOwnedTupleGo_zip (s := { s with heap := h', toks := tk }) z' fun h'' z'' sb => ?_⟩
    have hT2 : h''.get? s.heap.objs.size = some { cls := .type "tuple", data := .seq #[x1, x2] } := (sb.2 _ (Nat.ne_of_gt hzl)).trans hT
    have new : ObjOk X.prog X.w (upd H s.heap.objs.size (.tup [x, y])) h'' s.heap.objs.size (.tup [x, y]) :=
      ⟨by show 2 ≤ sizeLine; decide, [x1, x2], .cons ru (.cons ru2 .nil), ⟨_, hT2, rfl, _, rfl⟩⟩
    have I1 : Inv X pins σ (upd H s.heap.objs.size (.tup [x, y])) { s with heap := h'', toks := tk } :=
      I.turnedNew (ch := [z, TI, TO, i1, i2]) (fun c o hb q => (sb.2 c (fun q' => hb (by simp [q']))).trans (hk c o (fun q' => hb (by simp [q'])) (fun q' => hb (by simp [q'])) (fun q' => hb (by simp [q'])) (fun q' => hb (by simp [q'])) q)) hf (Nat.le_refl _) new
    refine ⟨.ref s.heap.objs.size, _, I1, rfl, ⟨_, x, y, rfl, I.hok.fresh (Nat.le_refl _), rfl, fun l hl => by rw [I.tuple_inj hl hqx]; exact hx, fun l hl => by rw [I.list_inj hl hqy]; exact hy⟩, ⟨z'', ?_, ⟨x1, x2, ?_⟩, ?_, ?_⟩, fun c hcm => ?_⟩
    · exact (sb.2 _ D.TIz).trans (hk _ _ D.TIz D.TITO D.TIi1 D.TIi2 hTI)
    · exact (sb.2 _ D.TOz).trans TO'
    · exact h1'.1.at fun o q => (sb.2 _ D.zi1.symm).trans q
    · exact h2'.1.at fun o q => (sb.2 _ D.zi2.symm).trans q
    · have hlt : c < s.heap.objs.size := by
        have e' : c = z ∨ c = TI ∨ c = TO ∨ c = i1 ∨ c = i2 := by simpa using hcm
        rcases e' with q | q | q | q | q
        · rw [q]; exact hzl
        · rw [q]; exact Heap.lt_size hTI
        · rw [q]; exact Heap.lt_size hTO
        · rw [q]; obtain ⟨_, e1, _⟩ := h1; exact Heap.lt_size e1
        · rw [q]; obtain ⟨_, e2, _⟩ := h2; exact Heap.lt_size e2
      rw [upd_ne (Nat.ne_of_lt hlt)]
      exact (hf c hcm).1
  done := by
    intro X hP hw hK hc i pins s σ H E I hf st hg
    subst hP hw hK
    obtain ⟨hz, hTI, ⟨x0, y0, hTO⟩, h1, h2⟩ := st
    obtain ⟨xs, ys, hqx, hqy, q1, q2, hend⟩ := hg
    obtain ⟨its, rv, p, _⟩ := I.tuple hqx
    obtain ⟨its2, rv2, p2, _⟩ := I.list hqy
    have l1 := rv.length
    have l2 := rv2.length
    exact wpAny_pyNext_zipD2_end D (Draws.tuple (A := X.A.in1) (I.ok.hd hc) i1 a n1 its.toArray) (Draws.list (A := X.A.in1) (I.ok.hd hc) i2 b n2 its2.toArray) hz hTI hTO ⟨h1, p⟩ ⟨h2, p2.isList⟩ (by rw [List.size_toArray]; omega) (by rw [List.size_toArray]; omega) (by rw [List.size_toArray, List.size_toArray]; omega)
      fun h' tk hk => ⟨rfl, I.turnedL (ch := [z, TI, TO, i1, i2]) (fun c o hb q =>
      hk c o (fun q' => hb (by simp [q'])) (fun q' => hb (by simp [q'])) (fun q' => hb (by simp [q'])) (fun q' => hb (by simp [q'])) q) hf⟩
  self := fun A i s Q E st h => wpAny_pyIter_zip st.1 h
def iZipTL (K : PySem.W.Frag) (ta : TA) : TI := fun σ H R => ta σ H fun vs H1 => ∃ a b xs ys, vs = [.ref a, .ref b] ∧ SqT K H1 a xs ∧ SqL K H1 b ys ∧ R (ItzTL K a b) H1
theorem pi_zipTL {X : Cx} {e e2 : Expr} {ta : TA} {p pos tpos : Pos} {elts : List Expr} {kk : Nat} (hg : Gl X "zip") (hm : X.mg "zip" = none) (ha : PA X [e, e2] ta)
    (hs : starEach [e, e2] X.env = (false, eval e X.env) :: starEach [e2] X.env := by rfl) (hpl : (backTo pos (starEach [e2] X.env)).any (·.1) = false := by rfl) :
    PI X (.Tuple elts kk tpos) (.Call (.Name "zip" p) [e, e2] [] pos) (iZipTL X.K ta) := by
  refine ⟨fun pins s σ H R I h => ?_⟩
  refine Call_ (ld_blt I hg hm PyProof.Rows.boot_zip (PyProof.Rows.callWith_type1 (thn (ha.run pos pins s σ H _ I h) fun us s1 ⟨vs, H1, I1, r1, q1⟩ => ?_) hs hpl))
  obtain ⟨a, b, xs, ys, ex, hqx, hqy, q⟩ := q1
  subst ex
  cases r1 with
  | cons r rr =>
    cases rr with
    | cons r' rr =>
      cases rr
      cases r
      cases r'
      obtain ⟨its, rv, p1, _⟩ := I1.tuple hqx
      obtain ⟨its2, rv2, p2, _⟩ := I1.list hqy
      have la : a < s1.heap.objs.size := p1.lt
      have lb : b < s1.heap.objs.size := p2.lt
      refine zip_begins2 (begins_tuple a its.toArray) (begins_list b its2.toArray) p1 p2.isList fun h' hz hTI hTO h1 h2 hsz hk => wpAny_pyIter_zip hz ?_
      have I2 : Inv X pins σ H1 { s1 with heap := h' } := I1.kept (t' := s1.toks) hk
      refine ⟨s1.heap.objs.size + 4, [s1.heap.objs.size + 4, s1.heap.objs.size + 2, s1.heap.objs.size + 3, s1.heap.objs.size, s1.heap.objs.size + 1], _, _, H1, rfl, I2, turn_zipTL (zip_sep2 (fp1 := [a]) (fp2 := [b]) (by simpa using la) (by simpa using lb)) (Nat.ne_of_lt la) (Nat.ne_of_lt (Nat.lt_succ_of_lt lb)), ⟨hz, hTI, ⟨_, _, hTO⟩, ⟨_, h1, rfl, rfl⟩, ⟨_, h2, rfl, rfl⟩⟩, fun c hcm => ?_, q⟩
      have e' : c = s1.heap.objs.size + 4 ∨ c = s1.heap.objs.size + 2 ∨ c = s1.heap.objs.size + 3 ∨ c = s1.heap.objs.size ∨ c = s1.heap.objs.size + 1 := by simpa using hcm
      have hle : s1.heap.objs.size ≤ c := by
        rcases e' with z | z | z | z | z
        · rw [z]; exact Nat.le_add_right _ _
        · rw [z]; exact Nat.le_add_right _ _
        · rw [z]; exact Nat.le_add_right _ _
        · rw [z]; exact Nat.le_refl _
        · rw [z]; exact Nat.le_add_right _ _
      exact I1.fpOk hle (I1.hok.fresh hle)
theorem walk_zipTL {K : PySem.W.Frag} {a b : Addr} {xs ys : List V} (hl : xs.length = ys.length) : Walk (ItzTL K a b) xs.length (fun H => SqT K H a xs ∧ SqL K H b ys) (YPair (fun i => xs[i]?) (fun i => ys[i]?)) := by
  refine ⟨fun i _ hi q => ?_, fun _ q => ⟨xs, ys, q.1, q.2, Nat.le_refl _, Nat.le_of_eq hl, .inl rfl⟩, fun i H v H' _ q y => ?_⟩
  · have h2 : i < ys.length := by omega
    exact ⟨xs, ys, xs[i], ys[i], q.1, q.2, by simp [hi], by simp [h2]⟩
  · obtain ⟨T, x, z, h1, h2, h3, h4, h5⟩ := y
    exact ⟨T, x, z, h1, h2, h3, h4 xs q.1, h5 ys q.2⟩
end L2

end

section
set_option maxHeartbeats 4000000
/-! Typed layer: statements, loops, comprehensions, all(..), calls, bodies. -/
namespace OS
open PySem PySem.Spec PyProof.Rows L2 GxR

/-! ### targets -/
theorem wipe_set_in {σ : L2.St} {i : Nat} {x : Option V} : ∀ {vs : List Nat}, i ∈ vs → L2.wipe (σ.set i x) vs = L2.wipe σ vs
  | v :: vs, h => by
    unfold L2.wipe
    by_cases e : i ∈ vs
    · rw [wipe_set_in e]
    · have hv : i = v := (List.mem_cons.mp h).resolve_right e
      subst hv
      have key : ∀ (ws : List Nat) (τ : L2.St), (L2.wipe (τ.set i x) ws).set i none = (L2.wipe τ ws).set i none := by
        intro ws
        induction ws with
        | nil => intro τ; simp [L2.wipe]
        | cons w ws ih =>
          intro τ
          unfold L2.wipe
          by_cases q : w = i
          · subst q
            rw [List.set_set, List.set_set]
            exact ih τ
          · rw [List.set_comm _ _ q, List.set_comm _ _ q, ih τ]
      exact key vs σ
theorem wipe_wipe {σ : L2.St} : ∀ {vs : List Nat}, L2.wipe (L2.wipe σ vs) vs = L2.wipe σ vs := fun {vs} => by
  have key : ∀ (ws : List Nat), (∀ w ∈ ws, w ∈ vs) → L2.wipe (L2.wipe σ ws) vs = L2.wipe σ vs := by
    intro ws
    induction ws with
    | nil => intro _; rfl
    | cons w ws ih =>
      intro h
      show L2.wipe ((L2.wipe σ ws).set w none) vs = _
      rw [wipe_set_in (h w (List.mem_cons_self ..))]
      exact ih fun u hu => h u (List.mem_cons_of_mem _ hu)
  exact key vs fun _ h => h
/-- a target takes a T; the slots vs alone change -/
def Gt (g : TG) (vs : List Nat) (Γ : Gam) (T : Ty) (Γ' : Gam) : Prop := ∀ v σ H, Sty Γ σ H → T.is v H → ∀ Q : L2.St → Hp → Prop, (∀ σ', Sty Γ' σ' H → L2.wipe σ' vs = L2.wipe σ vs → Q σ' H) → g v σ H Q
section
variable {K : PySem.W.Frag} {Γ Γ' Γ2 : Gam} {T U : Ty} {ta tb te : TE} {t u : TT} {d e : D} {ds es : List D} {b c : Bool} {vs : List Nat} {g : TG}
theorem gt_name {i : Nat} (hi : i ∈ vs) : Gt (gName i) vs Γ T (Γ.set i (some T)) := fun v σ H s r Q q => q _ (s.set r) (wipe_set_in hi)
theorem gt_lose (h : Gt g vs Γ U Γ') (k : ∀ v H, T.is v H → U.is v H) : Gt g vs Γ T Γ' := fun v σ H s r Q q => h v σ H s (k v H r) Q q
/-- a, b = .. -/
theorem gt_tup2 {g1 g2 : TG} (h1 : Gt g1 vs Γ (tyD K d) Γ') (h2 : Gt g2 vs Γ' (tyD K e) Γ2) : Gt (gTup K 2 (gCons g1 (gCons g2 gNil))) vs Γ (tyT K [d, e]) Γ2 := fun v σ H s r Q q => by
  obtain ⟨a, xs, rfl, s1, x, l, rfl, r1, y, m, rfl, r2, rfl⟩ := r
  refine ⟨a, _, rfl, s1, rfl, x, [y], rfl, h1 x σ H s r1 _ fun σ1 g1 w1 => ⟨y, [], rfl, h2 y σ1 H g1 r2 _ fun σ2 g2 w2 => ⟨rfl, q σ2 g2 (w2.trans w1)⟩⟩⟩

/-! ### statements -/
variable {σ : L2.St} {H H0 : Hp} {Dd : Ends} {tu tw tz ts : TS}
theorem s_asg (s : Sty Γ σ H) (h : Ev te Γ T) (hg : Gt g vs Γ T Γ') (k : ∀ σ' H', Ext H H' → Sty Γ' σ' H' → Dd.nx σ' H') : tAsg te g Dd σ H :=
  h σ H s _ fun v H1 e r => hg v σ H1 (s.imm e.toImm) r _ fun σ' s' _ => k σ' H1 e s'
theorem q_asg (s : Sty Γ σ H) (h : Ev te Γ T) (hg : Gt g vs Γ T Γ') (k : ∀ σ' H', Ext H H' → Sty Γ' σ' H' → tz Dd σ' H') : tSeq (tAsg te g) tz Dd σ H := s_asg (Dd := { Dd with nx := tz Dd }) s h hg k
/-- a name -/
theorem q_set {i : Nat} (s : Sty Γ σ H) (h : Ev te Γ T) (k : ∀ σ' H', Ext H H' → Sty (Γ.set i (some T)) σ' H' → tz Dd σ' H') : tSeq (tAsg te (gName i)) tz Dd σ H := q_asg (vs := [i]) s h (gt_name (by simp)) k
theorem s_set {i : Nat} (s : Sty Γ σ H) (h : Ev te Γ T) (k : ∀ σ' H', Ext H H' → Sty (Γ.set i (some T)) σ' H' → Dd.nx σ' H') : tAsg te (gName i) Dd σ H := s_asg (vs := [i]) s h (gt_name (by simp)) k
/-- a new list that will change -/
theorem q_new {i : Nat} (s : Sty Γ σ H) (h : EvN K te Γ ds) (k : ∀ p xs σ' H', H p = none → Ext H H' → H' p = some (.lst xs) → Tds K H' ds xs → Sty (Γ.set i (some (tyR p))) σ' H' → tz Dd σ' H') : tSeq (tAsg te (gName i)) tz Dd σ H :=
  h σ H s _ fun p xs H1 hp e hl r => k p xs _ H1 hp e hl r ((s.imm e.toImm).set rfl)
theorem q_newK {i : Nat} (s : Sty Γ σ H) (k : ∀ p σ' H', H p = none → Ext H H' → H' p = some (.dK []) → Sty (Γ.set i (some (tyR p))) σ' H' → tz Dd σ' H') : tSeq (tAsg tDNewK (gName i)) tz Dd σ H :=
  fun p hp => k p _ _ hp (Ext.new hp) upd_same ((s.imm (Ext.new hp).toImm).set rfl)
theorem s_ret (s : Sty Γ σ H) (h : Ev te Γ T) (k : ∀ v H', Ext H H' → T.is v H' → Dd.rt v H') : tRet te Dd σ H := h σ H s _ k
theorem s_if (s : Sty Γ σ H) (h : EvT t Γ b) (h1 : b = true → ∀ H', Ext H H' → Sty Γ σ H' → tu Dd σ H') (h2 : b = false → ∀ H', Ext H H' → Sty Γ σ H' → tw Dd σ H') : tIfS t tu tw Dd σ H := h σ H s _ fun H1 e => by
  cases b with
  | true =>
    show tu Dd σ H1
    exact h1 rfl H1 e (s.imm e.toImm)
  | false =>
    show tw Dd σ H1
    exact h2 rfl H1 e (s.imm e.toImm)
theorem q_if (s : Sty Γ σ H) (h : EvT t Γ b) (h1 : b = true → ∀ H', Ext H H' → Sty Γ σ H' → tu { Dd with nx := tz Dd } σ H') (h2 : b = false → ∀ H', Ext H H' → Sty Γ σ H' → tw { Dd with nx := tz Dd } σ H') : tSeq (tIfS t tu tw) tz Dd σ H := s_if (Dd := { Dd with nx := tz Dd }) s h h1 h2
theorem q_when (s : Sty Γ σ H) (h : EvT t Γ b) (h1 : b = true → ∀ H', Ext H H' → Sty Γ σ H' → tu { Dd with nx := tz Dd } σ H') (h2 : b = false → ∀ H', Ext H H' → Sty Γ σ H' → tz Dd σ H') : tSeq (tIfS t tu tNext) tz Dd σ H := s_if (Dd := { Dd with nx := tz Dd }) s h h1 h2
theorem s_when (s : Sty Γ σ H) (h : EvT t Γ b) (h1 : b = true → ∀ H', Ext H H' → Sty Γ σ H' → tu Dd σ H') (h2 : b = false → ∀ H', Ext H H' → Sty Γ σ H' → Dd.nx σ H') : tIfS t tu tNext Dd σ H := s_if s h h1 h2
/-- x += e on ints -/
theorem q_aug {i : Nat} {f : Int → Int → Int} {x y : Int} (s : Sty Γ σ H) (hi : Γ.l[i]? = some (some (tyI K x))) (h : Ev te Γ (tyI K y)) (k : ∀ σ' H', Ext H H' → Sty (Γ.set i (some (tyI K (f x y)))) σ' H' → tz Dd σ' H') : tSeq (tAug i te (ipI f)) tz Dd σ H := by
  obtain ⟨v, a, r⟩ := s.at_ i _ hi
  obtain rfl : v = .int x := r
  exact ⟨_, a, h σ H s _ fun w H1 e r1 => ⟨x, y, rfl, r1, k _ H1 e ((s.imm e.toImm).set rfl)⟩⟩
theorem s_aug {i : Nat} {f : Int → Int → Int} {x y : Int} (s : Sty Γ σ H) (hi : Γ.l[i]? = some (some (tyI K x))) (h : Ev te Γ (tyI K y)) (k : ∀ σ' H', Ext H H' → Sty (Γ.set i (some (tyI K (f x y)))) σ' H' → Dd.nx σ' H') : tAug i te (ipI f) Dd σ H := by
  obtain ⟨v, a, r⟩ := s.at_ i _ hi
  obtain rfl : v = .int x := r
  exact ⟨_, a, h σ H s _ fun w H1 e r1 => ⟨x, y, rfl, r1, k _ H1 e ((s.imm e.toImm).set rfl)⟩⟩
/-- l.append(e) -/
theorem s_app {l : Addr} {xs : List V} (s : Sty Γ σ H) (hl : H l = some (.lst xs)) (ha : Ev ta Γ (tyR l)) (h : Ev te Γ T) (hz : xs.length < 2000000) (k : ∀ v H', Ext H H' → T.is v H' → Sty Γ σ H' → H' l = some (.lst xs) → Dd.nx σ (upd H' l (.lst (xs ++ [v])))) :
    tDrop (tBM K "list" rAppend ta (tCons te tNil)) Dd σ H := ha σ H s _ fun w H1 e1 r1 => by
  obtain rfl : w = .ref l := r1
  have h1 := e1.keep l _ (fun z => z) hl (fun _ z => by cases z)
  refine ⟨.inl ⟨rfl, xs, .inl (.inl h1)⟩, h σ H1 (s.imm e1.toImm) _ fun v H2 e2 r2 => ?_⟩
  have h2 := e2.keep l _ (fun z => z) h1 (fun _ z => by cases z)
  exact ⟨l, xs, v, rfl, rfl, h2, by rw [sizeLine_eq]; omega, k v H2 (e1.trans e2) r2 (s.imm (e1.trans e2).toImm) h2⟩
theorem q_app {l : Addr} {xs : List V} (s : Sty Γ σ H) (hl : H l = some (.lst xs)) (ha : Ev ta Γ (tyR l)) (h : Ev te Γ T) (hz : xs.length < 2000000) (k : ∀ v H', Ext H H' → T.is v H' → Sty Γ σ H' → H' l = some (.lst xs) → tz Dd σ (upd H' l (.lst (xs ++ [v])))) :
    tSeq (tDrop (tBM K "list" rAppend ta (tCons te tNil))) tz Dd σ H := s_app (Dd := { Dd with nx := tz Dd }) s hl ha h hz k
/-- l[i] = e -/
theorem s_setL {l : Addr} {xs : List V} {j : Nat} (s : Sty Γ σ H) (hl : H l = some (.lst xs)) (h : Ev te Γ T) (ho : Ev ta Γ (tyR l)) (hi : Ev tb Γ (tyI K (j : Int))) (hj : j < xs.length) (k : ∀ v H', Ext H H' → T.is v H' → Sty Γ σ H' → H' l = some (.lst xs) → Dd.nx σ (upd H' l (.lst (xs.set j v)))) :
    tAsg te (gSub ta tb rSetL) Dd σ H := h σ H s _ fun v H1 e1 r1 => ho σ H1 (s.imm e1.toImm) _ fun w H2 e2 r2 => hi σ H2 (s.imm (e1.trans e2).toImm) _ fun y H3 e3 r3 => by
  obtain rfl : w = .ref l := r2
  obtain rfl : y = .int (j : Int) := r3
  have e := (e1.trans e2).trans e3
  have h1 := e.keep l _ (fun z => z) hl (fun _ z => by cases z)
  refine ⟨l, xs, (j : Int), j, rfl, rfl, h1, ?_, k v H3 e (T.mono (e2.trans e3).toImm r1) (s.imm e.toImm) h1⟩
  unfold ixN
  rw [if_pos (by omega), if_pos (by omega)]
  simp

/-! ### what is walked -/
/-- n turns; at turn i a Y i -/
def Iv (wi : TI) (Γ : Gam) (n : Nat) (Y : Nat → Ty) : Prop := ∀ σ H, Sty Γ σ H → ∀ R : It → Hp → Prop, (∀ J H1 (G : Hp → Prop), Ext H H1 → G H1 → (∀ H2 H3, Imm H2 H3 → G H2 → G H3) → Walk J n G (fun i H2 x H3 => Ext H2 H3 ∧ (Y i).is x H3) → R J H1) → wi σ H R
theorem get_lt {α : Type} {l : List α} {i : Nat} (h : i < l.length) : ∃ x, l[i]? = some x := ⟨_, List.getElem?_eq_getElem h⟩
theorem iv_tup (h : Ev te Γ (tyT K ds)) : Iv (iTup K te) Γ ds.length (fun i => tyD K (ds.getD i .none)) := fun σ H s R q => h σ H s _ fun v H1 e r => by
  obtain ⟨a, xs, rfl, s1, r1⟩ := r
  refine ⟨a, rfl, ⟨xs, s1⟩, q _ H1 (fun H => SqT K H a xs ∧ Tds K H ds xs) e ⟨s1, r1⟩ (fun H2 H3 m z => ⟨SqT.imm m z.1, z.2.imm m _ _⟩) ?_⟩
  rw [← r1.length]
  refine (walk_tup (K := K) (a := a) (xs := xs)).mono (fun H z => z.1) fun i H2 x H3 hi z y => ?_
  obtain ⟨rfl, hx⟩ := y
  refine ⟨ExtS.refl _, ?_⟩
  obtain ⟨d, e1, e2⟩ := z.2.get' hx
  show Td K H3 (ds.getD i .none) x
  rw [List.getD_eq_getElem?_getD, e1]
  exact e2
theorem iv_list (h : Ev te Γ (tyL K ds)) : Iv (iList K te) Γ ds.length (fun i => tyD K (ds.getD i .none)) := fun σ H s R q => h σ H s _ fun v H1 e r => by
  obtain ⟨a, xs, rfl, s1, r1⟩ := r
  refine ⟨a, rfl, ⟨xs, s1.sq⟩, q _ H1 (fun H => SqF K H a xs ∧ Tds K H ds xs) e ⟨s1, r1⟩ (fun H2 H3 m z => ⟨z.1.imm m, z.2.imm m _ _⟩) ?_⟩
  rw [← r1.length]
  refine (walk_list (K := K) (a := a) (xs := xs)).mono (fun H z => z.1.sq) fun i H2 x H3 hi z y => ?_
  obtain ⟨rfl, hx⟩ := y
  refine ⟨ExtS.refl _, ?_⟩
  obtain ⟨d, e1, e2⟩ := z.2.get' hx
  show Td K H3 (ds.getD i .none) x
  rw [List.getD_eq_getElem?_getD, e1]
  exact e2
theorem iv_rng {ta : TA} {n : Nat} (h : EvA ta Γ [tyI K (n : Int)]) (hn : n ≤ 100000) : Iv (iRng1 ta) Γ n (fun i => tyI K (i : Int)) := fun σ H s R q => h σ H s _ fun vs H1 e r => by
  obtain ⟨v, r', rfl, r1, r2⟩ := r
  obtain rfl : v = .int (n : Int) := r1
  obtain rfl : r' = [] := r2
  refine ⟨(n : Int), rfl, by omega, by omega, q _ H1 (fun _ => True) e trivial (fun _ _ _ z => z) ?_⟩
  rw [Int.toNat_natCast]
  refine (walk_range (lo := 0) (n := n)).mono (fun _ _ => trivial) fun i H2 x H3 hi _ y => ?_
  obtain ⟨rfl, rfl⟩ := y
  exact ⟨ExtS.refl _, by show V.int (0 + (i : Int)) = V.int (i : Int); rw [Int.zero_add]⟩
theorem pair_is {H2 H3 : Hp} {v : V} {x y : V} {d e : D} {T : Addr} (h1 : v = .ref T) (h2 : H2 T = none) (h3 : H3 = upd H2 T (.tup [x, y])) (r1 : Td K H2 d x) (r2 : Td K H2 e y) : Ext H2 H3 ∧ (tyT K [d, e]).is v H3 := by
  subst h1 h3
  have m := Ext.new (o := .tup [x, y]) h2
  exact ⟨m, T, [x, y], rfl, .inl (.inl upd_same), x, [y], rfl, r1.imm m.toImm _ _, y, [], rfl, r2.imm m.toImm _ _, rfl⟩
theorem iv_enum {ta : TA} (h : EvA ta Γ [tyT K ds]) : Iv (iEnumT K ta) Γ ds.length (fun i => tyT K [.num (i : Int), ds.getD i .none]) := fun σ H s R q => h σ H s _ fun vs H1 e r => by
  obtain ⟨v, r', rfl, ⟨a, xs, rfl, s1, r1⟩, r2⟩ := r
  obtain rfl : r' = [] := r2
  refine ⟨a, xs, rfl, s1, q _ H1 (fun H => SqT K H a xs ∧ Tds K H ds xs) e ⟨s1, r1⟩ (fun H2 H3 m z => ⟨SqT.imm m z.1, z.2.imm m _ _⟩) ?_⟩
  rw [← r1.length]
  refine (walk_enumT (K := K) (a := a) (xs := xs)).mono (fun H z => z.1) fun i H2 x H3 hi z y => ?_
  obtain ⟨T, x1, x2, h1, h2, h3, h4, h5⟩ := y
  cases h4
  obtain ⟨d, e1, e2⟩ := z.2.get' h5
  refine pair_is h1 h2 h3 rfl ?_
  rw [List.getD_eq_getElem?_getD, e1]
  exact e2
theorem iv_zip {ta : TA} (h : EvA ta Γ [tyT K ds, tyL K es]) (hl : ds.length = es.length) : Iv (iZipTL K ta) Γ ds.length (fun i => tyT K [ds.getD i .none, es.getD i .none]) := fun σ H s R q => h σ H s _ fun vs H1 e r => by
  obtain ⟨v, r', rfl, ⟨a, xs, rfl, s1, r1⟩, v2, r'', rfl, ⟨a2, ys, rfl, s2, r2⟩, r3⟩ := r
  obtain rfl : r'' = [] := r3
  have hl2 : xs.length = ys.length := by rw [r1.length, r2.length]; exact hl
  refine ⟨a, a2, xs, ys, rfl, s1, s2.sq, q _ H1 (fun H => (SqT K H a xs ∧ Tds K H ds xs) ∧ SqF K H a2 ys ∧ Tds K H es ys) e ⟨⟨s1, r1⟩, s2, r2⟩ (fun H2 H3 m z => ⟨⟨SqT.imm m z.1.1, z.1.2.imm m _ _⟩, z.2.1.imm m, z.2.2.imm m _ _⟩) ?_⟩
  rw [← r1.length]
  refine (walk_zipTL (K := K) (a := a) (b := a2) hl2).mono (fun H z => ⟨z.1.1, z.2.1.sq⟩) fun i H2 x H3 hi z y => ?_
  obtain ⟨T, x1, x2, h1, h2, h3, h4, h5⟩ := y
  obtain ⟨d, e1, e2⟩ := z.1.2.get' h4
  obtain ⟨d', e1', e2'⟩ := z.2.2.get' h5
  refine pair_is h1 h2 h3 ?_ ?_
  · rw [List.getD_eq_getElem?_getD, e1]
    exact e2
  · rw [List.getD_eq_getElem?_getD, e1']
    exact e2'
/-- for: Γi, the slots by turn; M, what else holds by turn -/
theorem s_for {wi : TI} {n : Nat} {Y : Nat → Ty} (s : Sty Γ σ H) (h : Iv wi Γ n Y)
    (k : ∀ H1, Ext H H1 → Sty Γ σ H1 → ∃ (Γi : Nat → Gam) (M : Nat → Hp → Prop), Sty (Γi 0) σ H1 ∧ M 0 H1 ∧ (∀ i H', M i H' → Imm H1 H') ∧
      (∀ i σ' H', i < n → Sty (Γi i) σ' H' → M i H' → ∀ x H2, Ext H' H2 → (Y i).is x H2 → Sty (Γi i) σ' H2 → g x σ' H2 fun σ3 H3 => tu { Dd with nx := fun σ H => Sty (Γi (i + 1)) σ H ∧ M (i + 1) H, ct := fun σ H => Sty (Γi (i + 1)) σ H ∧ M (i + 1) H, bk := Dd.nx } σ3 H3) ∧
      (∀ σ' H', Sty (Γi n) σ' H' → M n H' → Dd.nx σ' H')) : tFor wi g tu Dd σ H := h σ H s _ fun J H1 G e g1 gs w => by
  obtain ⟨Γi, M, h0, m0, mi, hs, hd⟩ := k H1 e (s.imm e.toImm)
  refine for_it w (fun i σ H => Sty (Γi i) σ H ∧ M i H) ⟨h0, m0⟩ (fun i σ' H' _ p => gs _ _ (mi i H' p.2) g1) (fun i x σ' H' H2 hi p y => ?_) fun σ' H' p => hd σ' H' p.1 p.2
  exact hs i σ' H' hi p.1 p.2 x H2 y.1 y.2 (p.1.imm y.1.toImm)
theorem q_for {wi : TI} {n : Nat} {Y : Nat → Ty} (s : Sty Γ σ H) (h : Iv wi Γ n Y)
    (k : ∀ H1, Ext H H1 → Sty Γ σ H1 → ∃ (Γi : Nat → Gam) (M : Nat → Hp → Prop), Sty (Γi 0) σ H1 ∧ M 0 H1 ∧ (∀ i H', M i H' → Imm H1 H') ∧
      (∀ i σ' H', i < n → Sty (Γi i) σ' H' → M i H' → ∀ x H2, Ext H' H2 → (Y i).is x H2 → Sty (Γi i) σ' H2 → g x σ' H2 fun σ3 H3 => tu { Dd with nx := fun σ H => Sty (Γi (i + 1)) σ H ∧ M (i + 1) H, ct := fun σ H => Sty (Γi (i + 1)) σ H ∧ M (i + 1) H, bk := tz Dd } σ3 H3) ∧
      (∀ σ' H', Sty (Γi n) σ' H' → M n H' → tz Dd σ' H')) : tSeq (tFor wi g tu) tz Dd σ H := s_for (Dd := { Dd with nx := tz Dd }) s h k
/-- a list comprehension: which turns give, and what -/
def gvn (n : Nat) (f : Nat → Bool) (v : Nat → D) : List D := ((List.range n).filter f).map v
theorem gvn_yes {n : Nat} {f : Nat → Bool} {v : Nat → D} (h : f n = true) : gvn (n + 1) f v = gvn n f v ++ [v n] := by
  unfold gvn
  rw [List.range_succ, List.filter_append, List.map_append, List.filter_cons, if_pos h] <;> rfl
theorem gvn_no {n : Nat} {f : Nat → Bool} {v : Nat → D} (h : f n = false) : gvn (n + 1) f v = gvn n f v := by
  unfold gvn
  rw [List.range_succ, List.filter_append, List.map_append, List.filter_cons, if_neg (by rw [h]; decide)]
  show _ ++ [] = _
  rw [List.append_nil]
theorem gvn_len (n : Nat) (f : Nat → Bool) (v : Nat → D) : (gvn n f v).length ≤ n := by
  unfold gvn
  rw [List.length_map]
  have h := List.length_filter_le f (List.range n)
  rw [List.length_range] at h
  exact h
theorem en_lc {wi : TI} {n : Nat} {Y : Nat → Ty} {Γ1 : Nat → Gam} (f : Nat → Bool) (v : Nat → D) (h : Iv wi Γ n Y) (hn : n ≤ 2000000) (hg : ∀ i, i < n → Gt g vs (wipeG Γ vs) (Y i) (Γ1 i))
    (ht : ∀ i, i < n → EvT t (Γ1 i) (f i)) (he : ∀ i, i < n → f i = true → Ev te (Γ1 i) (tyD K (v i))) : EvN K (tLc wi g t te vs) Γ (gvn n f v) := fun σ H s Q q => h σ H s _ fun J H1 G e g1 gs w Dl hD => by
  have s1 : Sty (wipeG Γ vs) (L2.wipe σ vs) H1 := (s.imm e.toImm).wipe vs
  refine lc_it w (fun i H' => Ext H1 H' ∧ ∃ xs, H' Dl = some (.lst xs) ∧ Tds K H' (gvn i f v) xs) ⟨Ext.new hD, [], upd_same, rfl⟩ (fun i H' _ p => gs _ _ p.1.toImm g1) (fun i x H' H2 hi p y => ?_) fun H' p => ?_
  · obtain ⟨e1, xs, hl, r⟩ := p
    obtain ⟨e2, rx⟩ := y
    refine hg i hi x _ H2 (s1.imm (e1.trans e2).toImm) rx _ fun σ2 s2 w2 => ⟨w2.trans wipe_wipe, ht i hi σ2 H2 s2 _ fun H3 e3 => ?_⟩
    have l3 : H3 Dl = some (.lst xs) := (e2.trans e3).keep _ _ (fun z => z) hl (fun _ z => by cases z)
    have hxs : xs.length < 2000000 := by rw [r.length]; have := gvn_len i f v; omega
    cases hf : f i with
    | false =>
      show Ext H1 H3 ∧ _
      exact ⟨(e1.trans e2).trans e3, xs, l3, by rw [gvn_no hf]; exact r.imm (e2.trans e3).toImm _ _⟩
    | true =>
      refine he i hi hf σ2 H3 (s2.imm e3.toImm) _ fun y H4 e4 r4 => ?_
      have l4 : H4 Dl = some (.lst xs) := e4.keep _ _ (fun z => z) l3 (fun _ z => by cases z)
      have m := Imm.mut (o := .lst (xs ++ [y])) l4 trivial
      refine ⟨xs, l4, by rw [sizeLine_eq]; omega, (((e1.trans e2).trans e3).trans e4).mut l4 trivial (.inl hD), xs ++ [y], upd_same, ?_⟩
      rw [gvn_yes hf]
      exact ((r.imm ((e2.trans e3).trans e4).toImm _ _).snoc r4).imm m _ _
  · obtain ⟨e1, xs, hl, r⟩ := p
    exact q Dl xs H' (e.dom _ hD) (e.trans e1) hl r
/-- all(..) of a generator expression -/
theorem et_all {P : Addr} {wi : TI} {n : Nat} {Y : Nat → Ty} {Γ1 : Nat → Gam} (f b : Nat → Bool) (hP : P ∈ Γ.tb) (h : Iv wi Γ n Y) (hg : ∀ i, i < n → Gt g vs (wipeG Γ vs) (Y i) (Γ1 i))
    (ht : ∀ i, i < n → EvT t (Γ1 i) (f i)) (he : ∀ i, i < n → f i = true → Ev te (Γ1 i) (tyB (b i))) : Ev (GA.tAllG P wi g t te vs) Γ (tyB ((List.range n).all fun i => !f i || b i)) := fun σ H s Q q => h σ H s _ fun J H1 G e g1 gs w => by
  refine ⟨e.tab P (s.tab P hP), fun H2 tb => ?_⟩
  have e2 : Ext H1 H2 := ExtS.of_tabbed (e.tab P (s.tab P hP)) tb
  have s1 : Sty (wipeG Γ vs) (L2.wipe σ vs) H2 := (s.imm (e.trans e2).toImm).wipe vs
  refine ⟨fun i m H' => m = n - i ∧ i ≤ n ∧ Ext H2 H' ∧ ((List.range i).all fun i => !f i || b i) = true, ⟨n, by simp, Nat.zero_le _, ExtS.refl _, rfl⟩, ?_⟩
  rintro i m H' ⟨rfl, hi, e3, ha⟩
  have gg : G H' := gs _ _ (e2.trans e3).toImm g1
  by_cases hlt : i < n
  · refine .inr ⟨w.goes i H' hlt gg, fun H'' => Ext H2 H'' ∧ ((List.range (i + 1)).all fun i => !f i || b i) = true, fun H'' p => ⟨n - (i + 1), by omega, rfl, hlt, p⟩, fun x H4 y => ?_⟩
    obtain ⟨e4, rx⟩ := w.yields i H' x H4 hlt gg y
    refine hg i hlt x _ H4 (s1.imm (e3.trans e4).toImm) rx _ fun σ2 s2 w2 => ⟨w2.trans wipe_wipe, ht i hlt σ2 H4 s2 _ fun H5 e5 => ?_⟩
    have step : ((List.range (i + 1)).all fun i => !f i || b i) = (!f i || b i) := by
      rw [List.range_succ, List.all_append, ha]
      simp
    cases hf : f i with
    | false =>
      show Ext H2 H5 ∧ _
      exact ⟨(e3.trans e4).trans e5, by rw [step, hf]; rfl⟩
    | true =>
      refine he i hlt hf σ2 H5 (s2.imm e5.toImm) _ fun y H6 e6 r6 => ⟨b i, r6, ?_⟩
      cases hb : b i with
      | true =>
        show Ext H2 H6 ∧ _
        exact ⟨((e3.trans e4).trans e5).trans e6, by rw [step, hf, hb]; rfl⟩
      | false =>
        refine q _ H6 (((((e.trans e2).trans e3).trans e4).trans e5).trans e6) ?_
        show V.bl false = V.bl _
        have : ((List.range n).all fun i => !f i || b i) = false := by
          rw [List.all_eq_false]
          exact ⟨i, List.mem_range.mpr hlt, by rw [hf, hb]; decide⟩
        rw [this]
  · have hin : i = n := by omega
    subst hin
    exact .inl ⟨w.stops H' gg, q _ H' ((e.trans e2).trans e3) (by show V.bl true = V.bl _; rw [ha])⟩

/-! ### promises -/
/-- F: what may come in, what comes out -/
def Pm (tb : List Addr) (F : List Ty → Ty → Prop) : Sp := fun vs H Q _ => ∃ Ts T, F Ts T ∧ Alls Ts vs H ∧ (∀ P ∈ tb, TabG H P) ∧ ∀ v H', Ext H H' → T.is v H' → Q v H'
theorem alls_len : ∀ {Ts : List Ty} {vs : List V} {H : Hp}, Alls Ts vs H → vs.length = Ts.length
  | [], _, _, h => by rw [show _ = [] from h]; rfl
  | _ :: _, _, _, h => by obtain ⟨v, r, rfl, _, h2⟩ := h; simp [alls_len h2]
theorem ev_call {tb : List Addr} {F : List Ty → Ty → Prop} {ta : TA} {Ts : List Ty} {E : XK} (h : EvA ta Γ Ts) (hF : F Ts T) (ht : ∀ P ∈ tb, P ∈ Γ.tb) : Ev (tCall (Pm tb F) [] E ta) Γ T := fun σ H s Q q => h σ H s _ fun vs H1 e r => by
  refine ⟨Ts, T, hF, by rw [List.append_nil]; exact r, fun P hP => e.tab P (s.tab P (ht P hP)), fun v H2 e2 r2 => q v H2 (e.trans e2) r2⟩
/-- a body that gives a T, from Γ -/
def Bd (t : TS) (Γ : Gam) (T : Ty) : Prop := ∀ σ H, Sty Γ σ H → ∀ D : Ends, (∀ v H', Ext H H' → T.is v H' → D.rt v H') → t D σ H
theorem start_sty {tb : List Addr} {H : Hp} (ht : ∀ P ∈ tb, TabG H P) : ∀ {Ts : List Ty} {vs : List V} (n : Nat), Alls Ts vs H → Sty ⟨tb, Ts.map some ++ List.replicate n none⟩ (vs.map some ++ List.replicate n none) H
  | [], _, n, h => by rw [show _ = [] from h]; exact Sty.nils ht n
  | T :: Ts, _, n, h => by
    obtain ⟨v, r, rfl, h1, h2⟩ := h
    exact Sty.cons h1 (start_sty ht n h2)
theorem pm_body {tb : List Addr} {F : List Ty → Ty → Prop} {t : TS} {N : List Str} {k : Nat} (hF : ∀ Ts T, F Ts T → Bd t ⟨tb, Ts.map some ++ List.replicate (N.length - Ts.length) none⟩ T) {vs : List V} {H : Hp} {Q : VK} {E : XK} (h : Pm tb F vs H Q E) :
    t { nx := fun _ H' => Q .non H', rt := Q } (L2.start N vs) H := by
  obtain ⟨Ts, T, h1, h2, h3, h4⟩ := h
  have hb := hF Ts T h1
  refine hb _ H ?_ _ h4
  unfold L2.start
  rw [alls_len h2]
  exact start_sty h3 _ h2
end

/-! ### freezing: a list told as one that is not written any more -/
def tFrz (te : TE) : TE := fun σ H Q => te σ H fun v H1 => ∃ p xs, v = .ref p ∧ H1 p = some (.lst xs) ∧ ∀ o, Q v (upd H1 p (.frz o (.lst xs)))
section
variable {X : Cx}
theorem pe_frz {e : Expr} {te : TE} (h : PE X e te) : PE X e (tFrz te) := by
  refine ⟨fun pins s σ H Q I hq => thn (h.run pins s σ H _ I hq) fun u s1 ⟨v, H1, I1, r, p, xs, ev, hp, q⟩ => ?_⟩
  obtain ⟨od, I2⟩ := I1.lock hp trivial
  exact ⟨v, _, I2, r, q od⟩
theorem ExtS.freeze {S : Addr → Prop} {H H' : Hp} {p : Addr} {xs : List V} {o : Obj} (e : ExtS S H H') (h : H' p = some (.lst xs)) (hp : H p = none ∨ S p) : ExtS S H (upd H' p (.frz o (.lst xs))) := e.mut h trivial hp
variable {K : PySem.W.Frag} {Γ : Gam} {te : TE} {ds : List D}
theorem ev_frz (h : EvN K te Γ ds) : Ev (tFrz te) Γ (tyL K ds) := fun σ H s Q q => h σ H s _ fun p xs H1 hp e hl r => ⟨p, xs, rfl, hl, fun o => q _ _ (ExtS.freeze e hl (.inl hp)) ⟨p, xs, rfl, .inl ⟨o, upd_same⟩, r.imm (Imm.mut hl trivial) _ _⟩⟩
end
end OS

end

section
set_option maxHeartbeats 4000000
/-! Dicts from nested keys to True; data in tuples. -/
namespace OS
open PySem PySem.Spec PyProof.Rows L2 GxR

/-- entries whose value is True -/
abbrev entsN (xs : List (D × Addr)) : List (D × Addr × Value) := xs.map fun x => (x.1, x.2, Value.bool true)
def DN (P : Program) (w : World) (a : Addr) (xs : List (D × Addr)) : HO := .ext fun h => xs.length ≤ sizeLine ∧ (a == sysModules) = false ∧ ∃ o es ep, h.get? a = some o ∧ o.ExactDict ∧ o.data = .dict es ep ∧ es.toList = (entsN xs).map (entryOfKey (nestedKind P w)) ∧ (xs.map (·.1)).Nodup
/-- the keys' own tuples -/
def KeysN (K : PySem.W.Frag) (H : Hp) (xs : List (D × Addr)) : Prop := ∀ x ∈ xs, Td K H x.1 (.ref x.2) ∧ x.1.depth ≤ 8
structure IsN (P : Program) (w : World) (K : PySem.W.Frag) (H : Hp) (a : Addr) (xs : List (D × Addr)) : Prop where
  at_ : H a = some (DN P w a xs)
  keys : KeysN K H xs
def putN (xs : List (D × Addr)) (k : D) (b : Addr) : List (D × Addr) := if k ∈ xs.map (·.1) then xs else xs ++ [(k, b)]
theorem putN_len (xs : List (D × Addr)) (k : D) (b : Addr) : (putN xs k b).length ≤ xs.length + 1 := by
  unfold putN
  split
  · omega
  · simp
theorem mem_putN {xs : List (D × Addr)} {k : D} {b : Addr} {x : D × Addr} (h : x ∈ putN xs k b) : x ∈ xs ∨ x = (k, b) := by
  unfold putN at h
  split at h
  · exact .inl h
  · rcases List.mem_append.mp h with h | h
    · exact .inl h
    · exact .inr (by simpa using h)
theorem keys_putN (xs : List (D × Addr)) (k : D) (b : Addr) (j : D) : j ∈ (putN xs k b).map (·.1) ↔ j ∈ xs.map (·.1) ∨ j = k := by
  unfold putN
  split
  · rename_i h
    constructor
    · exact .inl
    · rintro (h' | rfl)
      · exact h'
      · exact h
  · simp
theorem atKey_entsN (xs : List (D × Addr)) (k : D) : (atKey (entsN xs) k).isSome = decide (k ∈ xs.map (·.1)) := by
  induction xs with
  | nil => rfl
  | cons x xs ih =>
    by_cases h : x.1 = k
    · simp [atKey, h]
    · have h' : ¬ k = x.1 := fun e => h e.symm
      have e1 : atKey (entsN (x :: xs)) k = atKey (entsN xs) k := by simp [atKey, h]
      rw [e1, ih]
      simp [h']
theorem storedH_entsN (xs : List (D × Addr)) (k : D) (b : Addr) : storedH (entsN xs) k b (.bool true) = entsN (putN xs k b) := by
  unfold storedH putN
  rw [atKey_entsN]
  by_cases h : k ∈ xs.map (·.1)
  · rw [if_pos (by simpa using h), if_pos h]
    show List.map _ (List.map _ xs) = _
    rw [List.map_map]
    refine List.map_congr_left fun x _ => ?_
    show putAt k (.bool true) (x.1, x.2, .bool true) = _
    unfold putAt
    split <;> rfl
  · rw [if_neg (by simpa using h), if_neg h]
    simp
section
variable {P : Program} {w : World} {K : PySem.W.Frag} {H H' : Hp} {a : Addr} {xs : List (D × Addr)}
theorem KeysN.imm (e : Imm H H') (h : KeysN K H xs) : KeysN K H' xs := fun x hx => ⟨(h x hx).1.imm e _ _, (h x hx).2⟩
theorem IsN.ext {S : Addr → Prop} (e : ExtS S H H') (hs : ¬ S a) (h : IsN P w K H a xs) : IsN P w K H' a xs := ⟨e.keep a _ hs h.at_ (fun _ z => by cases z), h.keys.imm e.toImm⟩
theorem dn_ok {h : Heap} (z : xs.length ≤ sizeLine) (hd : (a == sysModules) = false) {o : Obj} {es : Array DictEntry} {ep : Nat} (ho : h.get? a = some o) (hx : o.ExactDict) (hdt : o.data = .dict es ep) (he : es.toList = (entsN xs).map (entryOfKey (nestedKind P w))) (hn : (xs.map (·.1)).Nodup) :
    ObjOk P w H h a (DN P w a xs) := ⟨⟨z, hd, o, es, ep, ho, hx, hdt, he, hn⟩, ⟨o, ho⟩, fun h1 h2 ⟨z, hd, o, es, ep, ho, r⟩ k => ⟨z, hd, o, es, ep, k _ ho, r⟩⟩
theorem dn_empty (h : Heap) (hb : sysModules < h.objs.size) : ObjOk P w H (h.push { cls := .type "dict", data := .dict #[] }) h.objs.size (DN P w h.objs.size []) :=
  dn_ok (Nat.zero_le _) (beq_eq_false_iff_ne.mpr (Ne.symm (Nat.ne_of_lt hb))) (Heap.get?_push_size _ rfl) ⟨rfl, rfl, rfl⟩ rfl rfl List.nodup_nil
end
section
variable {X : Cx} {pins : List (Addr × Obj)} {σ : L2.St} {H : Hp} {s : Shared} {a : Addr} {xs : List (D × Addr)} {A : Around} {E : Value → Shared → Prop}
theorem IsN.dict (I : Inv X pins σ H s) (h : IsN X.prog X.w X.K H a xs) : xs.length ≤ sizeLine ∧ (a == sysModules) = false ∧ s.heap.DictOfH (nestedKind X.prog X.w) a (entsN xs) := by
  obtain ⟨⟨z, hd, o, es, ep, ho, hx, hdt, he, hn⟩, _⟩ := I.hok a _ h.at_
  refine ⟨z, hd, o, es, ep, ho, hx, hdt, he, fun x hx => ?_, by simpa [Function.comp_def] using hn⟩
  obtain ⟨y, hy, rfl⟩ := List.mem_map.mp hx
  exact ⟨(h.keys y hy).1.nested I _ _ _ rfl, (h.keys y hy).2⟩
theorem dn_new {k : D} {b : Addr} {h' : Heap} {H' : Hp} (z : xs.length < sizeLine) (hd : (a == sysModules) = false) (dd : h'.DictOfH (nestedKind X.prog X.w) a (storedH (entsN xs) k b (.bool true))) : ObjOk X.prog X.w H' h' a (DN X.prog X.w a (putN xs k b)) := by
  rw [storedH_entsN] at dd
  obtain ⟨o, es, ep, ho, hx, hdt, he, _, hn⟩ := dd
  refine dn_ok (by have := putN_len xs k b; omega) hd ho hx hdt he (by simpa [Function.comp_def] using hn)
theorem dn_dictSet {k : D} {b : Addr} {Q : Unit → Shared → Prop} (hu : A.units + 64 < cLine) (I : Inv X pins σ H s) (h : IsN X.prog X.w X.K H a xs ∧ Td X.K H k (.ref b) ∧ k.depth ≤ 8) (hz : xs.length < sizeLine)
    (q : ∀ s', Inv X pins σ (upd H a (DN X.prog X.w a (putN xs k b))) s' → Q () s') : wpAny (model X.prog X.w) A (dictSet a (.ref b) (.bool true)) Q E s := by
  obtain ⟨z, hd, dd⟩ := h.1.dict I
  refine wpAny_dictSet_heap (knd := nestedKind X.prog X.w) (hsz := by simpa using z) (show A.units + 8 < cLine by omega) ⟨h.2.1.nested I _ _ _ rfl, h.2.2⟩ dd fun h' dd' hs => q _ ?_
  have he : ∃ q, h'.get? a = some q := let ⟨q, _, _, hq, _⟩ := dd'; ⟨q, hq⟩
  exact d_write I (by rw [h.1.at_]; exact True.intro) hs he (dn_new hz hd dd')
theorem dn_setItem {k : D} {b : Addr} {Q : Unit → Shared → Prop} (hu : A.units + 64 < cLine) (I : Inv X pins σ H s) (h : IsN X.prog X.w X.K H a xs ∧ Td X.K H k (.ref b) ∧ k.depth ≤ 8) (hz : xs.length < sizeLine)
    (q : ∀ s', Inv X pins σ (upd H a (DN X.prog X.w a (putN xs k b))) s' → Q () s') : wpAny (model X.prog X.w) A (setItem (.ref a) (.ref b) (.bool true)) Q E s := by
  obtain ⟨z, hd, dd⟩ := h.1.dict I
  refine wpAny_setItem_heap (knd := nestedKind X.prog X.w) (hsz := by simpa using z) (show A.in1.units + 8 < cLine by rw [Around.in1_units]; omega) ⟨h.2.1.nested I _ _ _ rfl, h.2.2⟩ dd fun h' dd' hs => q _ ?_
  have he : ∃ q, h'.get? a = some q := let ⟨q, _, _, hq, _⟩ := dd'; ⟨q, hq⟩
  exact d_write I (by rw [h.1.at_]; exact True.intro) hs he (dn_new hz hd dd')

/-- x in d, x not in d -/
def rInN (P : Program) (w : World) (K : PySem.W.Frag) (neg : Bool) : R2 := fun x y H Q => ∃ a xs k, y = .ref a ∧ IsN P w K H a xs ∧ (∃ b, x = .ref b) ∧ Td K H k x ∧ k.depth ≤ 8 ∧ Q (.bl (if neg then !decide (k ∈ xs.map (·.1)) else decide (k ∈ xs.map (·.1)))) H
theorem op_inN (hu : X.A.units + 64 < cLine) : OpR X (compareOp .In) (rInN X.prog X.w X.K false) := by
  intro pins s σ H x y v u Q I rx ry h
  obtain ⟨a, xs, k, rfl, hn, ⟨b, rfl⟩, hk, hd8, q⟩ := h
  cases rx
  cases ry
  obtain ⟨z, hd, dd⟩ := hn.dict I
  refine wpAny_in_heap (knd := nestedKind X.prog X.w) (show X.A.in1.units + 8 < cLine by rw [Around.in1_units]; omega) ⟨hk.nested I _ _ _ rfl, hd8⟩ hd dd ?_
  rw [atKey_entsN]
  exact ⟨.bl _, H, I.tok _, rfl, q⟩
theorem op_notInN (hu : X.A.units + 64 < cLine) : OpR X (compareOp .NotIn) (rInN X.prog X.w X.K true) := by
  intro pins s σ H x y v u Q I rx ry h
  obtain ⟨a, xs, k, rfl, hn, ⟨b, rfl⟩, hk, hd8, q⟩ := h
  cases rx
  cases ry
  obtain ⟨z, hd, dd⟩ := hn.dict I
  refine wpAny_notIn_heap (knd := nestedKind X.prog X.w) (show X.A.in1.units + 8 < cLine by rw [Around.in1_units]; omega) ⟨hk.nested I _ _ _ rfl, hd8⟩ hd dd ?_
  rw [atKey_entsN]
  exact ⟨.bl _, H, I.tok _, rfl, q⟩
/-- d[k] = True -/
def rSetN (P : Program) (w : World) (K : PySem.W.Frag) : TSet := fun o i v H Q => ∃ a xs k b, o = .ref a ∧ i = .ref b ∧ v = .bl true ∧ (IsN P w K H a xs ∧ Td K H k (.ref b) ∧ k.depth ≤ 8) ∧ xs.length < sizeLine ∧ Q (upd H a (DN P w a (putN xs k b)))
theorem set_N (hu : X.A.units + 64 < cLine) : PSet X (rSetN X.prog X.w X.K) := by
  intro pins s σ H o i v ov iv u Q I ro ri rv h
  obtain ⟨a, xs, k, b, rfl, rfl, rfl, hn, hz, q⟩ := h
  cases ro
  cases ri
  cases rv
  exact dn_setItem hu I hn hz fun s' I' => ⟨_, I', q⟩
/-- {} -/
def tDNewN (P : Program) (w : World) : TE := fun _ H Q => ∀ p, H p = none → Q (.ref p) (upd H p (DN P w p []))
theorem pe_dnewN {pos : Pos} : PE X (.Dict [] [] pos) (tDNewN X.prog X.w) := ⟨fun pins s σ H Q I h =>
  wpAny_Dict_empty ⟨.ref s.heap.objs.size, _, I.laid (a := s.heap.objs.size) (o := DN X.prog X.w s.heap.objs.size []) (t' := s.toks) (fun _ _ q => Heap.get?_push_of_some _ q) (Nat.le_refl _) (dn_empty s.heap I.big), rfl, h _ (I.hok.fresh (Nat.le_refl _))⟩⟩
/-- {k: True} -/
def tDispN (P : Program) (w : World) (K : PySem.W.Frag) (tk tv : TE) : TE := fun σ H Q => ∀ p, H p = none → tk σ (upd H p (DN P w p [])) fun x H1 => tv σ H1 fun y H2 => ∃ k b, x = .ref b ∧ y = .bl true ∧ Td K H2 k (.ref b) ∧ k.depth ≤ 8 ∧ IsN P w K H2 p [] ∧ Q (.ref p) (upd H2 p (DN P w p [(k, b)]))
theorem pe_dispN {k v : Expr} {tk tv : TE} {pos : Pos} (hu : X.A.units + 64 < cLine) (hk : PE X k tk) (hv : PE X v tv) : PE X (.Dict [some k] [v] pos) (tDispN X.prog X.w X.K tk tv) := by
  refine ⟨fun pins s σ H Q I q => ?_⟩
  have hn := I.hok.fresh (Nat.le_refl s.heap.objs.size)
  have I1 := I.laid (a := s.heap.objs.size) (o := DN X.prog X.w s.heap.objs.size []) (h' := s.heap.push { cls := .type "dict", data := .dict #[] }) (t' := s.toks) (fun _ _ q => Heap.get?_push_of_some _ q) (Nat.le_refl _) (dn_empty s.heap I.big)
  rw [arm_eval_Dict, zip_pairTrees [some k] [v] X.env pos rfl rfl, dictDisplay_pairs _ (by intro e; have := congrArg List.length e; simp [pairTrees] at this) (by simp [pairTrees])]
  refine wpAny_bind (wpAny_standAt (wpAny_bind (wpAny_subDictH (knd := nestedKind X.prog X.w) (Q := fun d s' => wpAny (model X.prog X.w) X.A (pure (Value.ref d)) (EP X pins σ Q) X.xe s') (show X.A.units + 8 < cLine by omega) (by simp [pairTrees]) ?_)))
  refine pairTrees_cons_walk (thn (hk.run pins _ σ _ _ I1 (q _ hn)) fun kv s1 ⟨x, H1, I2, rx, q1⟩ => thn (hv.run pins s1 σ H1 _ I2 q1) fun vv s2 ⟨y, H2, I3, ry, kd, b, ex, ey, hkd, h8, hN, q2⟩ => pairTrees_nil_walk ?_)
  subst ex ey
  cases rx
  cases ry
  obtain ⟨z, hd, dd⟩ := hN.dict I3
  refine ⟨[(kd, b, .bool true)], ⟨rfl, rfl, ⟨hkd.nested I3 _ _ _ rfl, h8⟩, trivial⟩, dd, fun h' tk dd' hs => wpAny_pure ⟨.ref s.heap.objs.size, _, ?_, rfl, q2⟩⟩
  have he : ∃ q, h'.get? s.heap.objs.size = some q := let ⟨q, _, _, hq, _⟩ := dd'; ⟨q, hq⟩
  refine d_write I3 (by rw [hN.at_]; exact True.intro) hs he ?_
  exact dn_new (xs := []) (by show 0 < sizeLine; rw [sizeLine_eq]; omega) hd dd'
/-- {k: True for target in iter if ..}: D the new dict -/
def tDcN (P : Program) (w : World) (K : PySem.W.Frag) (wi : TI) (g : TG) (tt : TT) (tk tv : TE) (vs : List Nat) : TE := fun σ H Q => wi σ H fun J H1 => ∀ D, H1 D = none → ∃ W : Nat → Nat → Hp → Prop, (∃ m, W 0 m (upd H1 D (DN P w D []))) ∧ ∀ i m H, W i m H →
  (J.stop i H ∧ Q (.ref D) H) ∨ (J.go i H ∧ ∃ Nx : Hp → Prop, (∀ H', Nx H' → ∃ m', m' < m ∧ W (i + 1) m' H') ∧ ∀ x H', J.yld i H x H' → g x (wipe σ vs) H' fun σ2 H2 => wipe σ2 vs = wipe σ vs ∧ tt σ2 H2 fun b H3 =>
    if b = true then tk σ2 H3 fun y H4 => tv σ2 H4 fun z H5 => ∃ xs k b, y = .ref b ∧ z = .bl true ∧ (IsN P w K H5 D xs ∧ Td K H5 k (.ref b) ∧ k.depth ≤ 8) ∧ xs.length < sizeLine ∧ Nx (upd H5 D (DN P w D (putN xs k b))) else Nx H3)
theorem dcN_core {pins : List (Addr × Obj)} {s : Shared} {σ : L2.St} {H : Hp} {Q : VK} {kx vx tg iter : Expr} {ifs : List Expr} {scope : Scope} {own : List (Str × Nat)} {pos pos' : Pos} {wi : TI} {g : TG} {tt : TT} {tk tv : TE} {use : Option (Value → Sem Unit)} {Qf : Value → Shared → Prop}
    (hu : X.A.units + 64 < cLine) (hc : X.calm = true) (hN : X.N.Nodup) (I : Inv X pins σ H s) (hi : PI X tg iter wi) (ok : BlkOk X.N X.env.scope scope own)
    (hg : ∀ (s : Shared) (H : Hp) (C : Addr) (cl : List (Str × Addr)) (fp : List Addr), PG (X.blk s H scope (compEnvC scope cl C X.env) fp) tg g) (ht : ∀ (s : Shared) (H : Hp) (C : Addr) (cl : List (Str × Addr)) (fp : List Addr), PTs (X.blk s H scope (compEnvC scope cl C X.env) fp) ifs tt)
    (hk : ∀ (s : Shared) (H : Hp) (C : Addr) (cl : List (Str × Addr)) (fp : List Addr), PE (X.blk s H scope (compEnvC scope cl C X.env) fp) kx tk)
    (he : ∀ (s : Shared) (H : Hp) (C : Addr) (cl : List (Str × Addr)) (fp : List Addr), PE (X.blk s H scope (compEnvC scope cl C X.env) fp) vx tv) (hs : ∀ x, foldedSetIterable iter X.env x = pure x)
    (h : tDcN X.prog X.w X.K wi g tt tk tv (own.map (·.2)) σ H Q)
    (hRR : ∀ D C s' m H', Inv X pins σ H' s' → Q (.ref D) H' → s'.heap.Ns C m → FpOk X pins H' C → compPost (model X.prog X.w) X.A X.xe use Qf (.ref D) C (.ok .next) s') :
    wpAny (model X.prog X.w) X.A (comprehension (.DictComp kx vx [⟨tg, iter, ifs, 0⟩] scope pos) scope X.env pos' newDict false (eval iter X.env) use) Qf X.xe s := by
  have hfree : ∀ y ∈ scope.names, y.2 = .free → ∃ c, X.env.cells.lookup y.1 = some c := fun y hy e => by
    rcases ok.free y hy e with k | k
    · exact I.ok.has _ (.inl k)
    · exact I.ok.has _ (.inr k)
  refine wpAny_comprehension_free (use := use) rfl hs (closure_ok hfree) ok.kind (fun y hy e => by rw [ok.uniq y hy, e])
    (thn (hi.run pins s σ H _ I h) fun xv s1 hx => thn hx fun itv s2 h2 => ?_)
  obtain ⟨it, fp, tn, J, H2, e, I2, T, st2, f2, q⟩ := h2
  subst e
  refine wpAny_newObj_type (newEnv_comp ?_)
  generalize hD : s2.heap.objs.size = D
  have hDn : H2 D = none := I2.hok.fresh (Nat.le_of_eq hD)
  obtain ⟨W, ⟨m0, w0⟩, turn⟩ := q D hDn
  -- the new list
  generalize hs3 : ({ s2 with heap := s2.heap.push { cls := .type "dict", data := .dict #[] } } : Shared) = s3
  have I3 : Inv X pins σ (upd H2 D (DN X.prog X.w D [])) s3 := by
    rw [← hs3]
    refine I2.laid (t' := s2.toks) (fun b o e => Heap.get?_push_of_some _ e) (Nat.le_of_eq hD) ?_
    rw [← hD]
    exact dn_empty (P := X.prog) (w := X.w) s2.heap I2.big
  have h3 : s3.heap = s2.heap.push { cls := .type "dict", data := .dict #[] } := by rw [← hs3]
  have sz : ∀ b ∈ fp, b < s2.heap.objs.size := fun b hb => by
    obtain ⟨o, e, _⟩ := T.obj _ _ st2 b hb
    exact Heap.lt_size e
  have f3 : ∀ b ∈ fp, FpOk X pins (upd H2 D (DN X.prog X.w D [])) b ∧ b < s3.heap.objs.size := fun b hb => by
    have hlt := sz b hb
    refine ⟨⟨?_, (f2 b hb).2⟩, by rw [h3, Heap.size_push]; exact Nat.lt_succ_of_lt hlt⟩
    rw [upd_ne (by rw [← hD]; exact Nat.ne_of_lt hlt)]
    exact (f2 b hb).1
  have st3 : tn 0 s3.heap := T.keep _ _ _ st2 fun b _ o e => by rw [h3]; exact Heap.get?_push_of_some _ e
  have I4 := block_start I3 ok hN f3
  have pg := hg s3 (upd H2 D (DN X.prog X.w D [])) s3.heap.objs.size (cellsFrom (s3.heap.objs.size + 1) scope.names (cloFrom X.env.cells scope.names [])) fp
  have pt := ht s3 (upd H2 D (DN X.prog X.w D [])) s3.heap.objs.size (cellsFrom (s3.heap.objs.size + 1) scope.names (cloFrom X.env.cells scope.names [])) fp
  have pk := hk s3 (upd H2 D (DN X.prog X.w D [])) s3.heap.objs.size (cellsFrom (s3.heap.objs.size + 1) scope.names (cloFrom X.env.cells scope.names [])) fp
  have pe := he s3 (upd H2 D (DN X.prog X.w D [])) s3.heap.objs.size (cellsFrom (s3.heap.objs.size + 1) scope.names (cloFrom X.env.cells scope.names [])) fp
  show codeAny _ _ (.compStart (.DictComp kx vx [⟨tg, iter, ifs, 0⟩] scope pos) 0 (.ref it) (.ref D) (compEnvC scope (cellsFrom (s3.heap.objs.size + 1) scope.names (cloFrom X.env.cells scope.names [])) s3.heap.objs.size X.env)) (compPost (model X.prog X.w) X.A X.xe use Qf (.ref D) s3.heap.objs.size) { s3 with heap := pushCells (s3.heap.push { cls := .type "dict", data := .dict #[] }) scope.names }
  have nfp : ∀ b ∈ fp, (upd H2 D (DN X.prog X.w D [])) b = none := fun b hb => (f3 b hb).1.1
  generalize hce : compEnvC scope (cellsFrom (s3.heap.objs.size + 1) scope.names (cloFrom X.env.cells scope.names [])) s3.heap.objs.size X.env = ce at I4 pg pt pk pe ⊢
  have cL : ce.locals = s3.heap.objs.size := by subst hce; rfl
  generalize hH3 : upd H2 D (DN X.prog X.w D []) = H3 at I3 I4 pg pt pk pe w0 nfp f3
  generalize hs4 : ({ s3 with heap := pushCells (s3.heap.push { cls := .type "dict", data := .dict #[] }) scope.names } : Shared) = s4 at I4 ⊢
  have st4 : tn 0 s4.heap := T.keep _ _ _ st3 fun b _ o e => by rw [← hs4]; exact pushCells_keeps _ _ _ _ (Heap.get?_push_of_some _ e)
  have stat : ∀ {σ' : L2.St} {H' : Hp} {s' : Shared}, Inv (X.blk s3 H3 scope ce fp) [] σ' H' s' → (∀ b ∈ fp, H' b = none) → ∀ b ∈ fp, FpOk (X.blk s3 H3 scope ce fp) [] H' b := fun {σ' H' s'} I' hn b hb =>
    ⟨hn b hb, (I'.ok.exf b hb).1, I'.ok.exfs b hb, .inl hb, fun x c e => (I'.ok.exf b hb).2 x c e, fun p hp => absurd (show p ∈ ([] : List (Addr × Obj)) ++ [] from hp) (by simp)⟩
  have loop : codeAny (model X.prog X.w) X.A (.compLoop (.DictComp kx vx [⟨tg, iter, ifs, 0⟩] scope pos) 0 (.ref it) (.ref D) ce) (compPost (model X.prog X.w) X.A X.xe use Qf (.ref D) s3.heap.objs.size) s4 := by
    refine compLoop_anyD (fun n s' => ∃ i H', Inv (X.blk s3 H3 scope ce fp) [] (wipe σ (own.map (·.2))) H' s' ∧ tn i s'.heap ∧ (∀ b ∈ fp, H' b = none) ∧ W i n H') ?_ m0 ⟨0, H3, I4, st4, nfp, w0⟩
    rintro n s5 ⟨i, H5, I5, st5, n5, w5⟩
    rcases turn i n H5 w5 with ⟨stop, qq⟩ | ⟨go, Nx, hNx, step⟩
    · have td := T.done (X.blk s3 H3 scope ce fp) rfl rfl rfl hc i [] s5 _ H5 (fun _ _ => False) I5 (stat I5 n5) st5 stop
      refine thnF td fun r s6 ⟨hr, I6⟩ => ?_
      subst hr
      -- back in the def's context
      have I7 : Inv X pins σ H5 s6 := I3.call' (ch := fp) I6.os I6.base I6.hok I6.bare fun b hb => ⟨(f3 b hb).1.2.2.2.1, (f3 b hb).1.2.1, (f3 b hb).1.2.2.2.2.1, (f3 b hb).1.2.2.2.2.2⟩
      have nC : H5 s3.heap.objs.size = none := by
        have z : H5 ce.locals = none := I6.free
        rw [cL] at z
        exact z
      obtain ⟨m, hn, _⟩ := I6.loc
      have hn : s6.heap.Ns ce.locals m := hn
      rw [cL] at hn
      exact hRR D s3.heap.objs.size s6 m H5 I7 qq hn (I3.fpOk (Nat.le_refl _) nC)
    · have ti := T.item (X.blk s3 H3 scope ce fp) rfl rfl rfl hc i [] s5 _ H5 (fun _ _ => False) I5 (stat I5 n5) st5 go
      refine thnF ti fun r s6 ⟨u, hr, h6⟩ => ?_
      subst hr
      refine thnF h6 fun _ s7 ⟨x, H7, I7, r7, y7, st7, n7⟩ => ?_
      have I7' := I7.pinned (stat I7 n7) (T.obj _ _ st7)
      refine thnF (pg.run _ s7 _ H7 x u _ I7' r7 (step x H7 y7)) fun _ s8 ⟨σ8, H8, I8, hw8, q8⟩ => ?_
      refine thnF (pt.run _ s8 σ8 H8 _ I8 q8) fun b s9 ⟨H9, I9, q9⟩ => ?_
      -- the turn's end
      have fin : ∀ {s' : Shared} {H' : Hp}, Inv (X.blk s3 H3 scope ce fp) ([] ++ pinsAt fp s7.heap) σ8 H' s' → Nx H' → ∃ m, m < n ∧ ∃ i H', Inv (X.blk s3 H3 scope ce fp) [] (wipe σ (own.map (·.2))) H' s' ∧ tn i s'.heap ∧ (∀ b ∈ fp, H' b = none) ∧ W i m H' := fun {s' H'} I' nx => by
        obtain ⟨m', hm, w'⟩ := hNx H' nx
        have pin' : ∀ b ∈ fp, ∀ o, s7.heap.get? b = some o → s'.heap.get? b = some o ∧ H' b = none := fun b hb o e =>
          let z := I'.pin (b, o) (List.mem_append_right _ (List.mem_append_right _ (mem_pinsAt hb e)))
          ⟨z.1, z.2.1⟩
        have hl : (wipe σ (own.map (·.2))).length = σ8.length := by rw [← hw8, wipe_length]
        refine ⟨m', hm, i + 1, H', (I'.unpinned (pins := [])).weak hl (fun j v e => ?_), T.keep _ _ _ st7 fun b hb o e => (pin' b hb o e).1, fun b hb => ?_, w'⟩
        · rw [← hw8] at e
          exact (wipe_some e).1
        · obtain ⟨o, e, _⟩ := T.obj _ _ st7 b hb
          exact (pin' b hb o e).2
      cases b with
      | false =>
        simp only [Bool.false_eq_true, if_false] at q9 ⊢
        exact fin I9 q9
      | true =>
        simp only [if_true] at q9 ⊢
        refine thnF (pk.run _ s9 σ8 H9 _ I9 q9) fun z s10 ⟨yk, H10, I10, r10, q10⟩ => ?_
        refine thnF (pe.run _ s10 σ8 H10 _ I10 q10) fun z2 s11 ⟨yv, H11, I11, r11, xs, k, b, ek, evl, kn, hz11, nx⟩ => ?_
        subst ek evl
        cases r10
        cases r11
        exact dn_dictSet (X := X.blk s3 H3 scope ce fp) hu I11 kn hz11 fun s12 I12 => fin I12 nx
  exact codeAny_compStart_dict loop (T.self X.A 0 _ _ _ st4 loop)
theorem pe_dcN {kx vx tg iter : Expr} {ifs : List Expr} {scope : Scope} {own : List (Str × Nat)} {pos : Pos} {wi : TI} {g : TG} {tt : TT} {tk tv : TE} (hu : X.A.units + 64 < cLine) (hc : X.calm = true) (hN : X.N.Nodup) (hi : PI X tg iter wi) (ok : BlkOk X.N X.env.scope scope own)
    (hg : ∀ (s : Shared) (H : Hp) (C : Addr) (cl : List (Str × Addr)) (fp : List Addr), PG (X.blk s H scope (compEnvC scope cl C X.env) fp) tg g) (ht : ∀ (s : Shared) (H : Hp) (C : Addr) (cl : List (Str × Addr)) (fp : List Addr), PTs (X.blk s H scope (compEnvC scope cl C X.env) fp) ifs tt)
    (hk : ∀ (s : Shared) (H : Hp) (C : Addr) (cl : List (Str × Addr)) (fp : List Addr), PE (X.blk s H scope (compEnvC scope cl C X.env) fp) kx tk)
    (he : ∀ (s : Shared) (H : Hp) (C : Addr) (cl : List (Str × Addr)) (fp : List Addr), PE (X.blk s H scope (compEnvC scope cl C X.env) fp) vx tv) (hs : ∀ x, foldedSetIterable iter X.env x = pure x := by intro _; rfl) :
    PE X (.DictComp kx vx [⟨tg, iter, ifs, 0⟩] scope pos) (tDcN X.prog X.w X.K wi g tt tk tv (own.map (·.2))) := by
  refine ⟨fun pins s σ H Q I h => ?_⟩
  rw [arm_eval_DictComp]
  refine dcN_core hu hc hN I hi ok hg ht hk he hs h fun D C s' m H' I' q hn f => ⟨m, hn, fun h'' sb => ?_⟩
  obtain ⟨f0, f1, f2, f3, f4, f5⟩ := f
  exact ⟨.ref D, H', I'.turned (t' := s'.toks) (fun b o hb e => (sb.2 b hb).trans e) f0 f1 f3 f4 f5, rfl, q⟩
end
end OS

end

section
set_option maxHeartbeats 4000000
/-! The order of data, sorted(..) of a tuple of ints and of a dict keyed by positions. -/
namespace OS
open PySem PySem.Spec PyProof.Rows L2 GxR

/-! ### the order -/
def rk : D → Nat
  | .none => 0 | .num _ => 1 | .text _ => 2 | .tup _ => 3
mutual
def cmpD : D → D → Ordering
  | .num a, .num b => compare a b
  | .tup a, .tup b => cmpDs a b
  | .none, .none => .eq
  | .text _, .text _ => .eq
  | .none, .num _ => .lt | .none, .text _ => .lt | .none, .tup _ => .lt
  | .num _, .none => .gt | .num _, .text _ => .lt | .num _, .tup _ => .lt
  | .text _, .none => .gt | .text _, .num _ => .gt | .text _, .tup _ => .lt
  | .tup _, .none => .gt | .tup _, .num _ => .gt | .tup _, .text _ => .gt
def cmpDs : List D → List D → Ordering
  | [], [] => .eq
  | [], _ :: _ => .lt
  | _ :: _, [] => .gt
  | a :: as, b :: bs => (cmpD a b).then (cmpDs as bs)
end
theorem then_swap (a b : Ordering) : (a.then b).swap = a.swap.then b.swap := by cases a <;> rfl
mutual
theorem cmpD_swap : ∀ a b : D, (cmpD a b).swap = cmpD b a
  | .num a, .num b => by simp only [cmpD]; exact Int.compare_swap a b
  | .tup a, .tup b => by simp only [cmpD]; exact cmpDs_swap a b
  | .none, .none => rfl
  | .text _, .text _ => rfl
  | .none, .num _ => rfl | .none, .text _ => rfl | .none, .tup _ => rfl
  | .num _, .none => rfl | .num _, .text _ => rfl | .num _, .tup _ => rfl
  | .text _, .none => rfl | .text _, .num _ => rfl | .text _, .tup _ => rfl
  | .tup _, .none => rfl | .tup _, .num _ => rfl | .tup _, .text _ => rfl
theorem cmpDs_swap : ∀ a b : List D, (cmpDs a b).swap = cmpDs b a
  | [], [] => rfl
  | [], _ :: _ => rfl
  | _ :: _, [] => rfl
  | a :: as, b :: bs => by simp only [cmpDs]; rw [then_swap, cmpD_swap a b, cmpDs_swap as bs]
end
/-- less and equal, carried on -/
def Tr3 (ab bc ac : Ordering) : Prop := (ab = .lt → bc = .lt → ac = .lt) ∧ (ab = .eq → ac = bc) ∧ (bc = .eq → ac = ab)
theorem tr_then {ab bc ac ab' bc' ac' : Ordering} (h : Tr3 ab bc ac) (h' : Tr3 ab' bc' ac') : Tr3 (ab.then ab') (bc.then bc') (ac.then ac') := by
  obtain ⟨h1, h2, h3⟩ := h
  obtain ⟨k1, k2, k3⟩ := h'
  cases ab <;> cases bc <;> cases ac <;> simp_all [Tr3, Ordering.then]
theorem int_tr (a b c : Int) : Tr3 (compare a b) (compare b c) (compare a c) := by
  refine ⟨fun h1 h2 => ?_, fun h1 => ?_, fun h1 => ?_⟩
  · rw [Int.compare_eq_lt] at h1 h2 ⊢
    omega
  · rw [Int.compare_eq_eq] at h1
    subst h1; rfl
  · rw [Int.compare_eq_eq] at h1
    subst h1; rfl
mutual
theorem cmpD_tr : ∀ a b c : D, Tr3 (cmpD a b) (cmpD b c) (cmpD a c)
  | .num a, .num b, .num c => by simp only [cmpD]; exact int_tr a b c
  | .tup a, .tup b, .tup c => by simp only [cmpD]; exact cmpDs_tr a b c
  | .none, b, c => by cases b <;> cases c <;> simp [Tr3, cmpD]
  | .text _, b, c => by cases b <;> cases c <;> simp [Tr3, cmpD]
  | .num _, .none, c => by cases c <;> simp [Tr3, cmpD]
  | .num _, .text _, c => by cases c <;> simp [Tr3, cmpD]
  | .num _, .tup _, c => by cases c <;> simp [Tr3, cmpD]
  | .num _, .num _, .none => by simp [Tr3, cmpD]
  | .num _, .num _, .text _ => by simp [Tr3, cmpD]
  | .num _, .num _, .tup _ => by simp [Tr3, cmpD]
  | .tup _, .none, c => by cases c <;> simp [Tr3, cmpD]
  | .tup _, .text _, c => by cases c <;> simp [Tr3, cmpD]
  | .tup _, .num _, c => by cases c <;> simp [Tr3, cmpD]
  | .tup _, .tup _, .none => by simp [Tr3, cmpD]
  | .tup _, .tup _, .text _ => by simp [Tr3, cmpD]
  | .tup _, .tup _, .num _ => by simp [Tr3, cmpD]
theorem cmpDs_tr : ∀ a b c : List D, Tr3 (cmpDs a b) (cmpDs b c) (cmpDs a c)
  | [], b, c => by cases b <;> cases c <;> simp [Tr3, cmpDs]
  | _ :: _, [], c => by cases c <;> simp [Tr3, cmpDs]
  | _ :: _, _ :: _, [] => by simp [Tr3, cmpDs]
  | a :: as, b :: bs, c :: cs => by simp only [cmpDs]; exact tr_then (cmpD_tr a b c) (cmpDs_tr as bs cs)
end
def ltD (a b : D) : Bool := cmpD a b == .lt
theorem ltD_iff {a b : D} : ltD a b = true ↔ cmpD a b = .lt := by unfold ltD; exact beq_iff_eq
theorem ltD_no {a b : D} : ltD a b = false ↔ cmpD a b ≠ .lt := by unfold ltD; rw [beq_eq_false_iff_ne]
theorem swo_D : SrtO.Swo ltD := by
  refine ⟨fun x y h => ?_, fun x y z h1 h2 => ?_⟩
  · rw [ltD_iff] at h
    rw [ltD_no, ← cmpD_swap x y, h]
    decide
  · rw [ltD_no] at h1 h2 ⊢
    intro h
    have t := cmpD_tr z y x
    obtain ⟨t1, t2, t3⟩ := t
    cases e1 : cmpD z y with
    | lt => exact h2 e1
    | eq =>
      rw [t2 e1] at h
      exact h1 h
    | gt =>
      have e2 : cmpD y z = .lt := by rw [← cmpD_swap z y, e1]; rfl
      exact h1 ((cmpD_tr y z x).1 e2 h)
theorem swo_by {α : Type} (k : α → D) : SrtO.Swo fun a b => ltD (k a) (k b) := ⟨fun x y => swo_D.asym _ _, fun x y z => swo_D.tr _ _ _⟩

/-! ### of one shape -/
mutual
def shp : D → D → Bool
  | .num _, .num _ => true
  | .tup a, .tup b => shps a b
  | _, _ => false
def shps : List D → List D → Bool
  | a :: as, b :: bs => shp a b && shps as bs
  | _, _ => true
end
mutual
theorem cmp_eq : ∀ a b : D, shp a b = true → (cmpD a b = .eq ↔ a = b)
  | .num a, .num b, _ => by simp only [cmpD, Int.compare_eq_eq]; constructor <;> intro h <;> simp_all
  | .tup a, .tup b, h => by
    simp only [cmpD]
    rw [shp] at h
    constructor
    · intro e
      rw [cmps_eq a b h e]
    · intro e
      injection e with e
      subst e
      exact cmps_self0 a h
  | .num _, .none, h => by simp [shp] at h
  | .num _, .text _, h => by simp [shp] at h
  | .num _, .tup _, h => by simp [shp] at h
  | .tup _, .none, h => by simp [shp] at h
  | .tup _, .text _, h => by simp [shp] at h
  | .tup _, .num _, h => by simp [shp] at h
  | .none, _, h => by simp [shp] at h
  | .text _, _, h => by simp [shp] at h
theorem cmps_eq : ∀ a b : List D, shps a b = true → cmpDs a b = .eq → a = b
  | [], [], _, _ => rfl
  | [], _ :: _, _, e => by simp [cmpDs] at e
  | _ :: _, [], _, e => by simp [cmpDs] at e
  | a :: as, b :: bs, h, e => by
    simp only [shps, Bool.and_eq_true] at h
    simp only [cmpDs] at e
    cases e1 : cmpD a b with
    | lt => rw [e1] at e; cases e
    | gt => rw [e1] at e; cases e
    | eq =>
      rw [e1] at e
      rw [(cmp_eq a b h.1).mp e1, cmps_eq as bs h.2 e]
theorem cmps_self0 : ∀ a : List D, shps a a = true → cmpDs a a = .eq
  | [], _ => rfl
  | a :: as, h => by
    simp only [shps, Bool.and_eq_true] at h
    simp only [cmpDs]
    rw [(cmp_eq a a h.1).mpr rfl]
    exact cmps_self0 as h.2
end
/-! ### how < answers -/
section
variable {s : Shared}
open SeqAt in
theorem lexAt_cmp {xs ys : List D} : ∀ (k i : Nat), shps (xs.drop i) (ys.drop i) = true → k = min xs.length ys.length - i → i ≤ min xs.length ys.length →
    Ob.lexAt (fun j => NestedKey.beq (xs.getD j .none) (ys.getD j .none)) (fun j => ltD (xs.getD j .none) (ys.getD j .none)) (decide (xs.length < ys.length)) i k = (cmpDs (xs.drop i) (ys.drop i) == .lt)
  | 0, i, h, hk, hi => by
    rw [Ob.lexAt_zero]
    by_cases hx : xs.length ≤ i
    · rw [List.drop_of_length_le hx]
      by_cases hy : ys.length ≤ i
      · rw [List.drop_of_length_le hy]
        have : ¬ xs.length < ys.length := by omega
        simp [cmpDs, this]
      · have e : ys.drop i = ys[i]'(by omega) :: ys.drop (i + 1) := List.drop_eq_getElem_cons (by omega)
        rw [e]
        have : xs.length < ys.length := by omega
        simp [cmpDs, this]
    · have hy : ys.length ≤ i := by omega
      have e : xs.drop i = xs[i]'(by omega) :: xs.drop (i + 1) := List.drop_eq_getElem_cons (by omega)
      rw [e, List.drop_of_length_le hy]
      have : ¬ xs.length < ys.length := by omega
      simp [cmpDs, this]
  | k + 1, i, h, hk, hi => by
    have hx : i < xs.length := by omega
    have hy : i < ys.length := by omega
    have ex : xs.drop i = xs[i] :: xs.drop (i + 1) := List.drop_eq_getElem_cons hx
    have ey : ys.drop i = ys[i] :: ys.drop (i + 1) := List.drop_eq_getElem_cons hy
    rw [ex, ey, shps, Bool.and_eq_true] at h
    rw [Ob.lexAt_succ, ex, ey]
    have gx : xs.getD i .none = xs[i] := by rw [List.getD_eq_getElem?_getD, List.getElem?_eq_getElem hx]; rfl
    have gy : ys.getD i .none = ys[i] := by rw [List.getD_eq_getElem?_getD, List.getElem?_eq_getElem hy]; rfl
    rw [gx, gy, ← NestedKey.decide_eq, cmpDs]
    by_cases e : xs[i] = ys[i]
    · rw [if_pos (decide_eq_true e), lexAt_cmp k (i + 1) h.2 (by omega) (by omega), (cmp_eq _ _ h.1).mpr e]
      rfl
    · rw [if_neg (by simpa using e)]
      cases ec : cmpD xs[i] ys[i] with
      | eq => exact absurd ((cmp_eq _ _ h.1).mp ec) e
      | lt => simp [ltD, ec]
      | gt => simp [ltD, ec]
theorem shps_get : ∀ {xs ys : List D} (j : Nat), shps xs ys = true → j < xs.length → j < ys.length → shp (xs.getD j .none) (ys.getD j .none) = true
  | [], _, _, _, h, _ => absurd h (Nat.not_lt_zero _)
  | _ :: _, [], _, _, _, h => absurd h (Nat.not_lt_zero _)
  | x :: xs, y :: ys, 0, h, _, _ => by rw [shps, Bool.and_eq_true] at h; exact h.1
  | x :: xs, y :: ys, j + 1, h, h1, h2 => by
    rw [shps, Bool.and_eq_true] at h
    have := shps_get (xs := xs) (ys := ys) j h.2 (by simpa using h1) (by simpa using h2)
    simpa using this
theorem nestedAll_get {h : Heap} : ∀ {ks : List D} {vs : List Value} (j : Nat) (hj : j < vs.length), NestedAll h ks vs → NestedIs h (ks.getD j .none) vs[j]
  | _, _, j, hj, .nil => absurd hj (Nat.not_lt_zero _)
  | _, _, 0, _, .cons a _ => a
  | _, _, j + 1, hj, .cons _ r => by simpa using nestedAll_get j (by simpa using hj) r
end
mutual
/-- the value v is d, no bool for a number -/
inductive SIs (h : Heap) : D → Value → Prop
  | none : SIs h .none .none
  | int (i t) : SIs h (.num i) (.int i t)
  | text (x t) : SIs h (.text x) (.str x t)
  | tup {a o vs n ks} : h.get? a = some o → o.cls = .type "tuple" → o.data = .seq vs n → SAll h ks vs.toList → SIs h (.tup ks) (.ref a)
inductive SAll (h : Heap) : List D → List Value → Prop
  | nil : SAll h [] []
  | cons {k v ks vs} : SIs h k v → SAll h ks vs → SAll h (k :: ks) (v :: vs)
end
mutual
theorem SIs.nested {h : Heap} : ∀ (d : D) (v : Value), SIs h d v → NestedIs h d v
  | .none, _, r => by cases r; exact .none
  | .num _, _, r => by cases r; exact .int _ _
  | .text _, _, r => by cases r; exact .text _ _
  | .tup ks, _, r => by
    cases r with
    | tup h1 h2 h3 h4 => exact .tup h1 h2 h3 (SAll.nested ks _ h4)
theorem SAll.nested {h : Heap} : ∀ (ds : List D) (vs : List Value), SAll h ds vs → NestedAll h ds vs
  | [], _, r => by cases r; exact .nil
  | d :: ds, _, r => by
    cases r with
    | cons r1 r2 => exact .cons (SIs.nested d _ r1) (SAll.nested ds _ r2)
end
mutual
theorem SIs.keeps {h h' : Heap} (k : ∀ b o, h.get? b = some o → o.cls = .type "tuple" → h'.get? b = some o) : ∀ (d : D) (v : Value), SIs h d v → SIs h' d v
  | .none, _, r => by cases r; exact .none
  | .num _, _, r => by cases r; exact .int _ _
  | .text _, _, r => by cases r; exact .text _ _
  | .tup ks, _, r => by
    cases r with
    | tup h1 h2 h3 h4 => exact .tup (k _ _ h1 h2) h2 h3 (SAll.keeps k ks _ h4)
theorem SAll.keeps {h h' : Heap} (k : ∀ b o, h.get? b = some o → o.cls = .type "tuple" → h'.get? b = some o) : ∀ (ds : List D) (vs : List Value), SAll h ds vs → SAll h' ds vs
  | [], _, r => by cases r; exact .nil
  | d :: ds, _, r => by
    cases r with
    | cons r1 r2 => exact .cons (SIs.keeps k d _ r1) (SAll.keeps k ds _ r2)
end
theorem SAll.length {h : Heap} : ∀ {ks : List D} {vs : List Value}, SAll h ks vs → vs.length = ks.length
  | _, _, .nil => rfl
  | _, _, .cons _ r => by simp [SAll.length r]
theorem SAll.get {h : Heap} : ∀ {ks : List D} {vs : List Value} (j : Nat) (hj : j < vs.length), SAll h ks vs → SIs h (ks.getD j .none) vs[j]
  | _, _, j, hj, .nil => absurd hj (Nat.not_lt_zero _)
  | _, _, 0, _, .cons a _ => a
  | _, _, j + 1, hj, .cons _ r => by simpa using SAll.get j (by simpa using hj) r
section
variable {X : Cx} {pins : List (Addr × Obj)} {σ : L2.St} {H : Hp} {s : Shared}
mutual
theorem Td.sis (I : Inv X pins σ H s) : ∀ (d : D) (v : V) (u : Value), Td X.K H d v → RelV v u → SIs s.heap d u
  | .none, _, _, h, r => by rw [show _ = V.non from h] at r; cases r; exact .none
  | .num i, _, _, h, r => by rw [show _ = V.int i from h] at r; obtain ⟨t, rfl⟩ := r; exact .int i t
  | .text x, _, _, h, r => by rw [show _ = V.str x from h] at r; obtain ⟨t, rfl⟩ := r; exact .text x t
  | .tup ks, _, _, h, r => by
    obtain ⟨a, xs, rfl, h1, h2⟩ := h
    cases r
    obtain ⟨its, rv, ⟨o, e1, e2, n, e3⟩, _⟩ := I.tuple h1
    exact .tup e1 e2 e3 (by simpa using Tds.siss I ks xs its h2 rv)
theorem Tds.siss (I : Inv X pins σ H s) : ∀ (ds : List D) (vs : List V) (us : List Value), Tds X.K H ds vs → Vals vs us → SAll s.heap ds us
  | [], _, _, h, r => by rw [show _ = [] from h] at r; cases r; exact .nil
  | k :: ks, _, _, h, r => by
    obtain ⟨x, l, rfl, h1, h2⟩ := h
    cases r with
    | cons r1 r2 => exact .cons (Td.sis I k x _ h1 r1) (Tds.siss I ks l _ h2 r2)
end
end
theorem depth_get {ks : List D} {n : Nat} (h : NestedKey.depthAll ks ≤ n) : ∀ j, (ks.getD j .none).depth ≤ n := by
  induction ks with
  | nil => intro j; simp [NestedKey.depth]
  | cons k ks ih =>
    simp only [NestedKey.depthAll] at h
    intro j
    cases j with
    | zero => show k.depth ≤ n; omega
    | succ j => simpa using ih (by omega) j
section
variable {s : Shared}
theorem rcLt : ∀ (n : Nat) (x y : D) (A : Around) (a b : Value), x.depth ≤ n → SIs s.heap x a → SIs s.heap y b → shp x y = true → A.units + n < cLine → Ob.RcOp .Lt A s a b (ltD x y) := by
  intro n
  induction n with
  | zero =>
    intro x y A a b hd ra rb h hu
    cases x with
    | num i =>
      cases y with
      | num j =>
        cases ra with
        | int _ t =>
          cases rb with
          | int _ u =>
            have e : ltD (.num i) (.num j) = decide (i < j) := by
              rw [Bool.eq_iff_iff, ltD_iff, decide_eq_true_eq]
              simp only [cmpD, Int.compare_eq_lt]
            rw [e]
            exact Ob.RcOp.lt_int i j t u
      | _ => simp [shp] at h
    | tup ks => simp only [NestedKey.depth] at hd; omega
    | _ => simp [shp] at h
  | succ n ih =>
    intro x y A a b hd ra rb h hu
    cases x with
    | num i =>
      cases y with
      | num j =>
        cases ra with
        | int _ t =>
          cases rb with
          | int _ u =>
            have e : ltD (.num i) (.num j) = decide (i < j) := by
              rw [Bool.eq_iff_iff, ltD_iff, decide_eq_true_eq]
              simp only [cmpD, Int.compare_eq_lt]
            rw [e]
            exact Ob.RcOp.lt_int i j t u
      | _ => simp [shp] at h
    | tup xs =>
      cases y with
      | tup ys =>
        rw [shp] at h
        simp only [NestedKey.depth] at hd
        cases ra with
        | @tup l o vs m _ h1 h2 h3 h4 =>
          cases rb with
          | @tup l' o' vs' m' _ k1 k2 k3 k4 =>
            have n1 : vs.size = xs.length := by simpa using h4.length
            have n2 : vs'.size = ys.length := by simpa using k4.length
            have key := Ob.RcOp.tuples_lt (A := A) (s := s) (l := l) (b := l') (items := vs) (items2 := vs') (e := fun j => NestedKey.beq (xs.getD j .none) (ys.getD j .none)) (r := fun j => ltD (xs.getD j .none) (ys.getD j .none)) ⟨_, h1, h2, _, h3⟩ ⟨_, k1, k2, _, k3⟩ (by omega)
              (fun j j1 j2 => by
                have a1 := SAll.get j (by simpa using j1) h4
                have a2 := SAll.get j (by simpa using j2) k4
                have := eqAt_key _ _ A.in1 s _ _ (a1.nested) (a2.nested) (by have := depth_get (n := n) (ks := xs) (by omega) j; rw [Around.in1_units]; omega)
                simpa using this)
              (fun j j1 j2 _ => by
                have a1 := SAll.get j (by simpa using j1) h4
                have a2 := SAll.get j (by simpa using j2) k4
                have := ih _ _ A.in1 _ _ (depth_get (by omega) j) a1 a2 (shps_get j h (by omega) (by omega)) (by rw [Around.in1_units]; omega)
                simpa using this)
            rw [n1, n2, lexAt_cmp _ 0 (by simpa using h) (by omega) (by omega)] at key
            have e : ltD (.tup xs) (.tup ys) = (cmpDs (xs.drop 0) (ys.drop 0) == .lt) := by
              unfold ltD
              simp only [cmpD, List.drop_zero]
            rw [e]
            exact key
      | _ => simp [shp] at h
    | _ => simp [shp] at h
/-- the kind «tuples of tuples»: its comparison -/
theorem kat_all {prog : Program} {w : World} {A : Around} {Q : Bool → Shared → Prop} (n : Nat) (hu : A.units + n + 2 < cLine) : ∀ (xs ys : List D) (vs us : List Value) (i : Nat), NestedKey.depthAll xs ≤ n → SAll s.heap xs vs → SAll s.heap ys us → shps xs ys = true →
    Q (cmpDs xs ys == .lt) s → PySem.W.KatLex prog w A false (decide (xs.length < ys.length)) Q (vs.zip us) i s
  | [], ys, _, us, i, _, ra, rb, _, q => by
    cases ra
    rw [List.zip_nil_left]
    refine PySem.W.kat_nil ?_
    cases ys with
    | nil => exact q
    | cons y ys =>
      have e : (cmpDs [] (y :: ys) == .lt) = decide (([] : List D).length < (y :: ys).length) := by simp [cmpDs]
      rw [← e]; exact q
  | x :: xs, [], vs, _, i, _, ra, rb, _, q => by
    cases rb
    rw [List.zip_nil_right]
    refine PySem.W.kat_nil ?_
    have e : (cmpDs (x :: xs) [] == .lt) = decide ((x :: xs).length < ([] : List D).length) := by simp [cmpDs]
    rw [← e]; exact q
  | x :: xs, y :: ys, _, _, i, hd, ra, rb, h, q => by
    simp only [NestedKey.depthAll] at hd
    rw [shps, Bool.and_eq_true] at h
    cases ra with
    | cons r1 r2 =>
      cases rb with
      | cons q1 q2 =>
        rw [List.zip_cons_cons]
        have el : decide ((x :: xs).length < (y :: ys).length) = decide (xs.length < ys.length) := by
          by_cases z : xs.length < ys.length
          · simp [z]
          · simp [z]
        rw [el]
        refine PySem.W.kat_cons (eqAt_key x y A s _ _ (r1.nested) (q1.nested) (by omega) prog w _ _ ?_)
        rw [← NestedKey.decide_eq]
        refine PySem.W.kat_go (fun e1 => ?_) (fun e1 => ?_)
        · have e2 : x = y := of_decide_eq_true e1
          refine PySem.W.kat_yes (kat_all n hu xs ys _ _ (i + 1) (by omega) r2 q2 h.2 ?_)
          have e3 : cmpDs (x :: xs) (y :: ys) = cmpDs xs ys := by
            simp only [cmpDs]
            rw [(cmp_eq x y h.1).mpr e2]
            rfl
          rw [← e3]; exact q
        · have e2 : ¬ x = y := of_decide_eq_false e1
          refine PySem.W.kat_no (PySem.W.kat_one _ _ ?_)
          refine rcLt n x y A _ _ (by omega) r1 q1 h.1 (by omega) prog w _ _ ?_
          show Q (ltD x y) s
          have e3 : (cmpDs (x :: xs) (y :: ys) == .lt) = ltD x y := by
            simp only [cmpDs, ltD]
            cases ec : cmpD x y with
            | eq => exact absurd ((cmp_eq x y h.1).mp ec) e2
            | lt => rfl
            | gt => rfl
          rw [← e3]; exact q
end
end OS

end

section
set_option maxHeartbeats 4000000
/-! sorted(..) of a tuple of ints, of a dict keyed by positions. -/
namespace OS
open PySem PySem.Spec PyProof.Rows L2 GxR
section
variable {prog : Program} {w : World} {A : Around} {E : Value → Shared → Prop} {s : Shared}
theorem collect_tup {l : Addr} {vs : List Value} {Q : List Value → Shared → Prop} (hl : s.heap.IsTuple l vs.toArray)
    (h : Q vs { s with heap := (s.heap.push (seqObj "list" #[] 0)).update s.heap.objs.size (Obj.mapSeq (· ++ vs.toArray)) }) (hsz : vs.length ≤ sizeLine) :
    wpAny (model prog w) A (collect (.ref l)) Q E s := by
  obtain ⟨o, ho, hc, n, hd⟩ := id hl
  unfold collect
  refine wpAny_bind (wpAny_runValue (codeAny_builtin entry_proto_collect' ?_))
  show wpAny _ _ (do again (.builtin "list.__iadd__" ⟨[← newList [], .ref l], []⟩)) _ _ s
  refine wpAny_bind (wpAny_newList (wpAny_pure ⟨Code.quiet_builtin _ (by decide +kernel), codeAny_builtin entry_list_iadd' ?_⟩))
  show wpAny _ _ (Builtin.List.listExtendWith (.ref s.heap.objs.size) (.ref l) (.ref s.heap.objs.size)) _ _ { s with heap := s.heap.push (seqObj "list" #[] 0) }
  unfold Builtin.List.listExtendWith
  have ho' : (s.heap.push (seqObj "list" #[] 0)).get? l = some o := Heap.get?_push_of_some _ ho
  refine wpAny_bind (wpAny_typeOf (T := "tuple") ⟨o, ho', hc⟩ ?_)
  have ht : (Value.type "tuple" == Value.type "tuple") = true := by rfl
  rw [if_pos (by rw [ht]; simp)]
  refine wpAny_bind (listItems_at ho' hd ?_)
  refine wpAny_bind (listItems_at (xs := #[]) (n := 0) (Heap.get?_push_size _ rfl) rfl ?_)
  rw [if_neg (by simp)]
  refine wpAny_bind (listUpdate_at (xs := #[]) (n := 0) (Heap.get?_push_size _ rfl) rfl ?_ (Nat.zero_le _) (by show (#[] ++ vs.toArray).size ≤ sizeLine + 1; simp only [Array.size_append, List.size_toArray, List.length_nil]; omega))
  refine wpAny_pure ?_
  show wpAny (model prog w) A (do
      let o ← load s.heap.objs.size
      match o.data with
      | .seq xs _ => pure xs.toList
      | _ => unsupported "internal:collect") Q E { s with heap := (s.heap.push (seqObj "list" #[] 0)).update s.heap.objs.size (Obj.mapSeq (· ++ vs.toArray)) }
  refine wpAny_bind (wpAny_load (get?_update_seq (Heap.get?_push_size _ rfl) _) ?_)
  show wpAny _ _ (pure ((#[] : Array Value) ++ vs.toArray).toList) Q E _
  rw [show ((#[] : Array Value) ++ vs.toArray).toList = vs by simp]
  exact wpAny_pure h
/-- sorted(r), whatever r is: col, its items -/
theorem sorted_src {r : Addr} {vs : List Value} {ltv : Value → Value → Bool} {Q : Value → Shared → Prop} (O : SrtO.Swo ltv) (hz : vs.length ≤ sizeLine)
    (col : ∀ (A' : Around) (E' : Value → Shared → Prop) (R : List Value → Shared → Prop), A'.handled = A.handled → (∀ h' tk, (∀ b o, s.heap.get? b = some o → h'.get? b = some o) → R vs { s with heap := h', toks := tk }) → wpAny (model prog w) A' (collect (.ref r)) R E' s)
    (hS : 2 ≤ vs.length → ∀ (h₁ : Heap) (tk : Nat) (a : Addr), h₁.get? a = some (seqObj "list" vs.toArray 0) → (∀ b o, s.heap.get? b = some o → b ≠ a ∧ h₁.get? b = some o) → SrtO.SortableO prog w A.in1.in1 { s with heap := h₁, toks := tk } a vs ltv)
    (h : ∀ (out : List Value) (h' : Heap) (tk : Nat) (p : Addr) (e : Nat), SrtO.Srtd ltv out → SrtO.Stb ltv out vs → (∀ b o, s.heap.get? b = some o → h'.get? b = some o) → (∀ b o, s.heap.get? b = some o → b ≠ p) → h'.get? p = some (seqObj "list" out.toArray e) → Q (.ref p) { s with heap := h', toks := tk }) :
    wpAny (model prog w) A (call (.builtin "sorted") [.ref r]) Q E s := by
  refine Calls.call_function_entry kind_sorted plain_sorted entry_sorted (args_sorted1 _) ?_
  unfold Builtin.«sorted»
  refine wpAny_bind (m := checkCount "sorted" 1 1 _) (wpAny_pure ?_)
  refine wpAny_bind (col _ _ _ rfl fun h1 tk k1 => ?_)
  refine wpAny_bind (wpAny_newList ?_ hz)
  have hoL : (h1.push (seqObj "list" vs.toArray 0)).get? h1.objs.size = some (seqObj "list" vs.toArray 0) := Heap.get?_push_size _ rfl
  have keep : ∀ b o, s.heap.get? b = some o → b ≠ h1.objs.size ∧ (h1.push (seqObj "list" vs.toArray 0)).get? b = some o := fun b o q => ⟨Nat.ne_of_lt (Heap.lt_size (k1 b o q)), Heap.get?_push_of_some _ (k1 b o q)⟩
  show wpAny _ _ _ _ _ { s with heap := h1.push (seqObj "list" vs.toArray 0), toks := tk }
  refine wpAny_bind (wpAny_holding (wpAny_call_entry slot_list_sort ⟨_, hoL, rfl⟩ entry_list_sort (SrtO.list_sort_ord (s := { s with heap := h1.push (seqObj "list" vs.toArray 0), toks := tk }) O hoL hz (fun h2 => hS h2 _ _ _ hoL keep) fun out hs hb => ⟨_, rfl, ?_⟩) (args_list_sort _)))
  obtain ⟨e, he⟩ := sortedHeap_at (vs := vs) (out := out.toArray) hoL
  exact wpAny_pure ⟨_, rfl, h out _ tk h1.objs.size e hs hb (fun b o q => by rw [sortedHeap_old (keep b o q).1 (Heap.lt_size (keep b o q).2)]; exact (keep b o q).2) (fun b o q => (keep b o q).1) he⟩
end
section
variable {P : Program} {w : World} {H : Hp} {h h' : Heap} {a : Addr} {o : HO}
theorem objOk_ex (x : ObjOk P w H h a o) : ∃ ob, h.get? a = some ob := by
  cases o with
  | lst xs => obtain ⟨_, _, _, _, e⟩ := x; exact ⟨_, e⟩
  | tup xs => obtain ⟨_, _, _, ob, e, _⟩ := x; exact ⟨_, e⟩
  | dK kvs => obtain ⟨_, _, _, _, o, _, _, e, _⟩ := x; exact ⟨_, e⟩
  | dT kvs => obtain ⟨_, _, _, _, o, _, _, e, _⟩ := x; exact ⟨_, e⟩
  | set S n => obtain ⟨o, _, _, _, e, _⟩ := x; exact ⟨_, e⟩
  | ins C dx fs => obtain ⟨_, _, _, e, _⟩ := x; exact ⟨_, e⟩
  | own y => obtain ⟨_, e⟩ := x; exact ⟨_, e⟩
  | xd fs => obtain ⟨_, ⟨_, _, _, e, _⟩, _⟩ := x; exact ⟨_, e⟩
  | rng lo hi => obtain ⟨_, _, _, e⟩ := x; exact ⟨_, e⟩
  | frz ob u => obtain ⟨e, _⟩ := x; exact ⟨_, e⟩
  | tbl ps => exact ⟨_, show h.get? a = some _ from x⟩
  | met f y => exact ⟨_, show h.get? a = some _ from x⟩
  | ext φ => obtain ⟨_, ⟨_, e⟩, _⟩ := x; exact ⟨_, e⟩
theorem un_laid {fs ex : List Addr} (k : ∀ b u, h.get? b = some u → h'.get? b = some u) (hp : ∀ b u, h.get? b = some u → b ≠ a) (hn : H a = none) : Un fs ex H (upd H a o) h h' where
  keep := fun b u q _ _ _ => k b u q
  slot := fun b u q _ _ _ => ⟨u.slots, k b u q⟩
  free := fun b u q n _ => by rw [upd_ne (hp b u q)]; exact n
  there := fun b u q _ => ⟨u, k b u q⟩
  tups := fun b xs q => by rw [upd_ne (ne_of_none q hn)]; exact q
  frzs := fun b u xs q => by rw [upd_ne (ne_of_none q hn)]; exact q
  tbls := fun b ps q => ⟨#[], by rw [upd_ne (ne_of_none q hn), q]; simp⟩
theorem hok_fresh (x : HOk P w H h) (hp : ∀ b u, h.get? b = some u → b ≠ a) : H a = none := by
  cases q : H a with
  | none => rfl
  | some u =>
    obtain ⟨ob, e⟩ := objOk_ex (x a u q)
    exact absurd rfl (hp a ob e)
theorem hok_laid (x : HOk P w H h) (k : ∀ b u, h.get? b = some u → h'.get? b = some u) (hp : ∀ b u, h.get? b = some u → b ≠ a) (new : ObjOk P w (upd H a o) h' a o) : HOk P w (upd H a o) h' := fun b u e => by
  have hn := hok_fresh x hp
  by_cases hb : b = a
  · subst hb; rw [upd_same] at e; cases e; exact new
  · rw [upd_ne hb] at e
    exact (x b u e).stay (fun c v _ q => k c v q) (fun c q => by rw [upd_ne (ne_of_none q hn)]; exact q) fun c xs q => by rw [upd_ne (ne_of_none q hn)]; exact q
end
section
variable {X : Cx} {pins : List (Addr × Obj)} {σ : L2.St} {H : Hp} {s : Shared}
theorem inv_laid {h' : Heap} {a : Addr} {o : HO} {t' : Nat} (I : Inv X pins σ H s) (k : ∀ b u, s.heap.get? b = some u → h'.get? b = some u) (hp : ∀ b u, s.heap.get? b = some u → b ≠ a) (new : ObjOk X.prog X.w (upd H a o) h' a o) :
    Inv X pins σ (upd H a o) { s with heap := h', toks := t' } := I.un (un_laid k hp (hok_fresh I.hok hp)) (hok_laid I.hok k hp new)
/-- sorted(t), t a tuple of ints -/
def rSortedTI (K : PySem.W.Frag) : List V → Hp → VK → Prop := fun vs H Q => ∃ (a : Addr) (ns : List Int), vs = [V.ref a] ∧ SqT K H a (ns.map V.int) ∧
  ∀ (ns' : List Int) (p : Addr), ns'.Perm ns → ns'.Pairwise (· ≤ ·) → H p = none → Q (.ref p) (upd H p (.lst (ns'.map V.int)))
theorem cr_sortedTI : CallR X (.builtin "sorted") (rSortedTI X.K) := by
  intro pins s σ H vs us Q I r h
  obtain ⟨a, ns, rfl, hs, q⟩ := h
  obtain ⟨its, rv, hl, hz⟩ := I.tuple hs
  rw [Vals.ref1 r]
  have hi := rv.ints
  have hz' : its.length ≤ sizeLine := by rw [← rv.length]; exact hz
  refine sorted_src SrtO.swo_int hz' (fun A' E' R _ k => collect_tup hl (k _ s.toks fun b o e => ?_) hz') (fun h2 h₁ tk a' _ _ => SrtO.ints_sortable hi h2) fun out h' tk p e h1 h2 k hp he => ?_
  · have hlt : b < s.heap.objs.size := Heap.lt_size e
    rw [Heap.get?_update_ne _ _ _ _ (Nat.ne_of_lt hlt)]
    exact Heap.get?_push_of_some _ e
  · obtain ⟨k1, k2, k3⟩ := SrtO.ints_out hi h1 h2
    have hlen : ((out.map SrtO.iv).map V.int).length ≤ sizeLine := by
      rw [List.length_map, k2.length_eq]
      rw [List.length_map] at hz
      exact hz
    exact ⟨.ref _, upd H p (.lst ((out.map SrtO.iv).map V.int)), inv_laid I k hp ⟨hlen, out, e, vals_of_ints k1, he⟩, rfl, q _ _ k2 k3 (hok_fresh I.hok hp)⟩
/-! ### a dict keyed by positions -/
/-- the key a reference stands for -/
def keyAt (xs : List (D × Addr)) (v : Value) : D := match v with
  | .ref b => ((xs.find? fun x => decide (x.2 = b)).map (·.1)).getD .none
  | _ => .none
/-- a pair whose first part is a tuple -/
def Pair2 (d : D) : Prop := ∃ f r, d = .tup (.tup f :: r)
theorem firsts_at {h : Heap} {k : Value → D} : ∀ {vs : List Value}, (∀ v ∈ vs, SIs h (k v) v ∧ Pair2 (k v)) → ∃ fs, PySem.W.KatTups h vs fs ∧ fs.length = vs.length ∧ ∀ f ∈ fs, ∃ c oc, f = Value.ref c ∧ h.get? c = some oc ∧ oc.cls = .type "tuple"
  | [], _ => ⟨[], .nil, rfl, fun _ z => by cases z⟩
  | v :: vs, hp => by
    obtain ⟨fs, t, l, hf⟩ := firsts_at (vs := vs) fun u hu => hp u (List.mem_cons_of_mem _ hu)
    obtain ⟨r, f, rest, e⟩ := hp v (List.mem_cons_self ..)
    rw [e] at r
    cases r with
    | @tup a o us n _ h1 h2 h3 h4 =>
      obtain ⟨ul⟩ := us
      cases h4 with
      | @cons _ v1 _ vr q1 q2 =>
        cases q1 with
        | @tup c oc ws m _ k1 k2 k3 k4 =>
          refine ⟨.ref c :: fs, .cons h1 h2 h3 (by simp) t, by simp [l], fun g hg => ?_⟩
          rcases List.mem_cons.mp hg with e2 | hg
          · exact ⟨c, oc, e2, k1, k2⟩
          · exact hf g hg
theorem sais_cmp {prog : Program} {w : World} {A : Around} {s : Shared} {vs : List Value} {k : Value → D} (n : Nat) (hu : A.units + n + 3 < cLine) (hp : ∀ v ∈ vs, SIs s.heap (k v) v ∧ Pair2 (k v) ∧ (k v).depth ≤ n + 1) (hs : ∀ v ∈ vs, ∀ u ∈ vs, shp (k v) (k u) = true) :
    SrtO.Cmp prog w A s (tuples' false) (fun p => p.1 ∈ vs) (SrtO.lt2 fun v u => ltD (k v) (k u)) := by
  intro p q hm hm'
  obtain ⟨r1, ⟨f1, l1, e1⟩, d1⟩ := hp _ hm
  obtain ⟨r2, ⟨f2, l2, e2⟩, d2⟩ := hp _ hm'
  have h12 := hs _ hm _ hm'
  show wpAny (model prog w) A (keyLt' (tuples' false) p.1 q.1) (fun r s' => s' = s ∧ r = ltD (k p.1) (k q.1)) (fun _ _ => False) s
  rw [e1] at r1 d1 h12 ⊢
  rw [e2] at r2 d2 h12 ⊢
  generalize p.1 = v1 at r1 ⊢
  generalize q.1 = v2 at r2 ⊢
  rw [shp] at h12
  rw [NestedKey.depth] at d1
  cases r1 with
  | tup h1 h2 h3 h4 =>
    cases r2 with
    | tup k1 k2 k3 k4 =>
      refine PySem.W.kat_lt h1 h3 k1 k3 ?_
      rw [show ∀ (a b : Array Value), decide (a.size < b.size) = decide (a.toList.length < b.toList.length) from fun a b => by simp, h4.length, k4.length]
      exact kat_all n (by omega) _ _ _ _ 0 (by omega) h4 k4 h12 ⟨rfl, by unfold ltD; simp only [cmpD]⟩
theorem sais_sortable {prog : Program} {w : World} {A : Around} {s : Shared} {a : Addr} {vs : List Value} {k : Value → D} (n : Nat) (hu : A.units + n + 3 < cLine) (h2 : 0 < vs.length) (hp : ∀ v ∈ vs, SIs s.heap (k v) v ∧ Pair2 (k v) ∧ (k v).depth ≤ n + 1) (hs : ∀ v ∈ vs, ∀ u ∈ vs, shp (k v) (k u) = true)
    (ha : ∀ b o, s.heap.get? b = some o → o.cls = .type "tuple" → b ≠ a) : SrtO.SortableO prog w A s a vs fun v u => ltD (k v) (k u) := by
  intro h' keep
  have hp' : ∀ v ∈ vs, SIs h' (k v) v ∧ Pair2 (k v) ∧ (k v).depth ≤ n + 1 := fun v hv => ⟨(hp v hv).1.keeps fun b o e c => keep b o (ha b o e c) e, (hp v hv).2⟩
  obtain ⟨fs, h1, hl, h3⟩ := firsts_at fun v hv => ⟨(hp' v hv).1, (hp' v hv).2.1⟩
  refine ⟨tuples' false, fun Q E hq => ?_, sais_cmp n hu hp' hs⟩
  refine PySem.W.kat_kind (T := .type "tuple") h1 (by omega) (fun f hm => ?_) (by rfl) ?_
  · obtain ⟨c, oc, rfl, e1, e2⟩ := h3 f hm
    have q : PySem.W.Looks (model prog w) h' (typeOf (.ref c)) oc.cls := (PySem.W.Looks.ld e1).andThen .now
    rw [e2] at q
    exact q
  · have e : (Value.type "tuple" != Value.type "tuple") = false := by first | decide +kernel | rfl | decide
    rw [e]
    exact hq
def addrOf (v : Value) : Addr := match v with
  | .ref b => b
  | _ => 0
theorem keyAt_mem {xs : List (D × Addr)} (hn : (xs.map (·.2)).Nodup) {x : D × Addr} (hx : x ∈ xs) : keyAt xs (.ref x.2) = x.1 := by
  have key : xs.find? (fun y => decide (y.2 = x.2)) = some x := by
    induction xs with
    | nil => cases hx
    | cons y ys ih =>
      rw [List.map_cons, List.nodup_cons] at hn
      by_cases e : y.2 = x.2
      · rw [List.find?_cons_of_pos (by simpa using e)]
        rcases List.mem_cons.mp hx with h | h
        · rw [h]
        · exact absurd (List.mem_map.mpr ⟨x, h, e.symm⟩) hn.1
      · rw [List.find?_cons_of_neg (by simpa using e)]
        rcases List.mem_cons.mp hx with h | h
        · exact absurd (by rw [h]) e
        · exact ih hn.2 h
  show ((xs.find? fun y => decide (y.2 = x.2)).map (·.1)).getD .none = x.1
  rw [key]; rfl
/-- sorted(d), d a dict keyed by positions -/
def rSortedN (P : Program) (w : World) (K : PySem.W.Frag) : List V → Hp → VK → Prop := fun vs H Q => ∃ (a : Addr) (xs : List (D × Addr)), vs = [V.ref a] ∧ IsN P w K H a xs ∧ (∀ x ∈ xs, Pair2 x.1) ∧ (∀ x ∈ xs, ∀ y ∈ xs, shp x.1 y.1 = true) ∧
  ∀ (ys : List (D × Addr)) (p : Addr), ys.Perm xs → ys.Pairwise (fun x y => ltD y.1 x.1 = false) → H p = none → Q (.ref p) (upd H p (.lst (ys.map fun y => V.ref y.2)))
theorem cr_sortedN (hc : X.calm = true) (hu : X.A.units + 64 < cLine) : CallR X (.builtin "sorted") (rSortedN X.prog X.w X.K) := by
  intro pins s σ H vs us Q I r h
  obtain ⟨a, xs, rfl, hn, hp2, hsh, q⟩ := h
  rw [Vals.ref1 r]
  obtain ⟨z, hd, o, es, ep, ho, hx, hdt, he, his, hnd⟩ := hn.dict I
  have hnd' : (xs.map (·.1)).Nodup := by simpa [Function.comp_def] using hnd
  have sis : ∀ x ∈ xs, SIs s.heap x.1 (.ref x.2) := fun x hx => (hn.keys x hx).1.sis I _ _ _ rfl
  -- the addresses lie apart
  have hna : (xs.map (·.2)).Nodup := by
    have key : ∀ x ∈ xs, ∀ y ∈ xs, x.2 = y.2 → x.1 = y.1 := fun x hx y hy e => NestedIs.inj _ _ _ ((sis x hx).nested) (by rw [e]; exact (sis y hy).nested)
    clear q he his hnd sis hsh hp2 hn z
    induction xs with
    | nil => exact .nil
    | cons x xs ih =>
      rw [List.map_cons, List.nodup_cons] at hnd' ⊢
      refine ⟨fun hm => ?_, ih hnd'.2 fun y hy w hw => key y (List.mem_cons_of_mem _ hy) w (List.mem_cons_of_mem _ hw)⟩
      obtain ⟨y, hy, e⟩ := List.mem_map.mp hm
      exact hnd'.1 (List.mem_map.mpr ⟨y, hy, key y (List.mem_cons_of_mem _ hy) x (List.mem_cons_self ..) e⟩)
  have hsz : es.size = xs.length := by rw [size_of_entries he]; simp
  have hvs : ∀ v ∈ xs.map (fun x => Value.ref x.2), ∃ x ∈ xs, v = .ref x.2 ∧ keyAt xs v = x.1 := fun v hv => by
    obtain ⟨x, hx, rfl⟩ := List.mem_map.mp hv
    exact ⟨x, hx, rfl, keyAt_mem hna hx⟩
  refine sorted_src (vs := xs.map fun x => Value.ref x.2) (swo_by (keyAt xs)) (by simpa using z) (fun A' E' R hh k => ?_) (fun h2 h₁ tk a' ha' kk => ?_) fun out h' tk p e h1 h2 k hp he' => ?_
  · refine PySem.W.kdu_collect (kdl_raw hd hx hdt) (hh.trans (I.ok.hd hc)) ho (by omega) fun h' tk acc k' it => ?_
    have ea : acc.toList = xs.map fun x => Value.ref x.2 := by
      have hl : acc.toList.length = xs.length := by rw [Array.length_toList, it.1]; exact hsz
      apply List.ext_getElem?
      intro j
      rw [List.getElem?_map]
      cases hj : acc.toList[j]? with
      | none =>
        have h1 := List.getElem?_eq_none_iff.mp hj
        rw [List.getElem?_eq_none (by omega)]
        all_goals rfl
      | some v =>
        obtain ⟨en, hen, hv⟩ := it.2 j v (by rw [← Array.getElem?_toList]; exact hj)
        have qe := entry_at he j
        rw [hen, List.getElem?_map] at qe
        cases hb : xs[j]? with
        | none =>
          rw [hb] at qe
          cases qe
        | some b =>
          rw [hb] at qe
          have e2 : en = entryOfKey (nestedKind X.prog X.w) (b.1, b.2, .bool true) := Option.some.inj qe
          rw [hv, e2]
          all_goals rfl
    rw [ea]
    exact k h' tk k'
  · refine sais_sortable 9 (by rw [Around.in1_units, Around.in1_units]; omega) (by omega) (fun v hv => ?_) (fun v hv u hu' => ?_) fun b o' eo ec => ?_
    · obtain ⟨x, hx, rfl, ek⟩ := hvs v hv
      rw [ek]
      exact ⟨(sis x hx).keeps fun b o e _ => (kk b o e).2, hp2 x hx, by have := (hn.keys x hx).2; omega⟩
    · obtain ⟨x, hx, _, ek⟩ := hvs v hv
      obtain ⟨y, hy, _, ek'⟩ := hvs u hu'
      rw [ek, ek']
      exact hsh x hx y hy
    · intro z
      have eo : h₁.get? b = some o' := eo
      rw [z, ha'] at eo
      cases eo
      exact absurd (Value.type.inj ec) (by decide)
  · have hback : ∀ v ∈ xs.map (fun x => Value.ref x.2), Value.ref (addrOf v) = v := fun v hv => by
      obtain ⟨x, hx, rfl, _⟩ := hvs v hv
      rfl
    have hout : ∀ v ∈ out, v ∈ xs.map fun x => Value.ref x.2 := fun v hv => h2.perm.mem_iff.mp hv
    have hys : (out.map fun v => (keyAt xs v, addrOf v)).Perm xs := by
      have q := h2.perm.map fun v => (keyAt xs v, addrOf v)
      have e2 : (xs.map fun x => Value.ref x.2).map (fun v => (keyAt xs v, addrOf v)) = xs := by
        rw [List.map_map]
        have : ∀ (l : List (D × Addr)), (∀ x ∈ l, x ∈ xs) → l.map ((fun v => (keyAt xs v, addrOf v)) ∘ fun x => Value.ref x.2) = l := by
          intro l
          induction l with
          | nil => intro _; rfl
          | cons x l ih =>
            intro hl
            rw [List.map_cons, ih fun y hy => hl y (List.mem_cons_of_mem _ hy)]
            show (keyAt xs (.ref x.2), x.2) :: l = x :: l
            rw [keyAt_mem hna (hl x (List.mem_cons_self ..))]
        exact this xs fun _ h => h
      rw [e2] at q
      exact q
    have hrefs : ((out.map fun v => (keyAt xs v, addrOf v)).map fun y => V.ref y.2) = out.map fun v => V.ref (addrOf v) := by rw [List.map_map]; rfl
    have hv2 : Vals (out.map fun v => V.ref (addrOf v)) out := by
      clear he' h1 h2 hys hrefs
      induction out with
      | nil => exact .nil
      | cons v vs ih => exact .cons (by show v = Value.ref (addrOf v); exact (hback v (hout v (List.mem_cons_self ..))).symm) (ih fun u hu' => hout u (List.mem_cons_of_mem _ hu'))
    have hlen : (out.map fun v => V.ref (addrOf v)).length ≤ sizeLine := by
      rw [List.length_map, h2.perm.length_eq, List.length_map]; exact z
    refine ⟨.ref _, upd H p (.lst (out.map fun v => V.ref (addrOf v))), inv_laid I k hp ⟨hlen, out, e, hv2, he'⟩, rfl, ?_⟩
    rw [← hrefs]
    refine q _ p hys ?_ (hok_fresh I.hok hp)
    exact List.pairwise_map.mpr h1
end
end OS

end

section
set_option maxHeartbeats 4000000
/-! set | {v}, members 0..3. -/
namespace SO
open PySem PySem.Spec PyProof.Rows L2

/-- which slots are taken, by which element -/
def lives (m : Nat) (hs : Array Int) : Option (List (Nat × Nat)) := (SetTable.layClean m hs).map fun owner => (List.range (m + 1)).filterMap fun j => (owner.getD j none).map (j, ·)
theorem laid_eq (m f mv : Nat) (led plain : Bool) (hs : Array Int) : SetTable.laid m f mv led plain hs = (lives m hs).map fun live => ({ mask := m, place := (live.map (·.1)).toArray, dummies := #[], finger := f, led, moves := mv, plain }, (live.map (·.2)).toArray) := by
  unfold SetTable.laid lives
  cases SetTable.layClean m hs with
  | none => rfl
  | some o => rfl
def chk (m : Nat) (l : List Int) : Bool := match lives m l.toArray with
  | some lv => decide ((lv.map (·.1)).Pairwise (· < ·)) && (lv.map (·.2)).isPerm (List.range l.length)
  | none => false
theorem chk1 : ∀ a : Fin 4, chk 7 [(a.val : Int)] = true := by decide +kernel
theorem chk2 : ∀ a b : Fin 4, a ≠ b → chk 7 [(a.val : Int), (b.val : Int)] = true := by decide +kernel
theorem chk3 : ∀ a b c : Fin 4, a ≠ b → a ≠ c → b ≠ c → chk 7 [(a.val : Int), (b.val : Int), (c.val : Int)] = true := by decide +kernel
theorem chk4 : ∀ a b c d : Fin 4, a ≠ b → a ≠ c → a ≠ d → b ≠ c → b ≠ d → c ≠ d → chk 7 [(a.val : Int), (b.val : Int), (c.val : Int), (d.val : Int)] = true ∧ chk 15 [(a.val : Int), (b.val : Int), (c.val : Int), (d.val : Int)] = true := by decide +kernel
def Sm (k : Int) : Prop := 0 ≤ k ∧ k < 4
theorem fin_of {k : Int} (h : Sm k) : ∃ a : Fin 4, k = (a.val : Int) := ⟨⟨k.toNat, by have := h.1; have := h.2; omega⟩, by have := h.1; simp; omega⟩
theorem small_len {l : List Int} (hn : l.Nodup) (hs : ∀ k ∈ l, Sm k) : l.length ≤ 4 := by
  have h2 := OSx.sub_len (m := [0, 1, 2, 3]) hn fun x hx => by
    have := (hs x hx).1
    have := (hs x hx).2
    simp only [List.mem_cons, List.not_mem_nil, or_false]
    omega
  simpa using h2
theorem chk_small {l : List Int} (hn : l.Nodup) (hs : ∀ k ∈ l, Sm k) (h0 : l ≠ []) : chk 7 l = true ∧ (l.length = 4 → chk 15 l = true) := by
  have hl := small_len hn hs
  match l, hn, hs, h0, hl with
  | [a], _, hs, _, _ =>
    obtain ⟨a, rfl⟩ := fin_of (hs a (by simp))
    exact ⟨chk1 a, fun z => by simp at z⟩
  | [a, b], hn, hs, _, _ =>
    obtain ⟨a, rfl⟩ := fin_of (hs a (by simp))
    obtain ⟨b, rfl⟩ := fin_of (hs b (by simp))
    exact ⟨chk2 a b fun e => by subst e; simp at hn, fun z => by simp at z⟩
  | [a, b, c], hn, hs, _, _ =>
    obtain ⟨a, rfl⟩ := fin_of (hs a (by simp))
    obtain ⟨b, rfl⟩ := fin_of (hs b (by simp))
    obtain ⟨c, rfl⟩ := fin_of (hs c (by simp))
    exact ⟨chk3 a b c (fun e => by subst e; simp at hn) (fun e => by subst e; simp at hn) (fun e => by subst e; simp at hn), fun z => by simp at z⟩
  | [a, b, c, d], hn, hs, _, _ =>
    obtain ⟨a, rfl⟩ := fin_of (hs a (by simp))
    obtain ⟨b, rfl⟩ := fin_of (hs b (by simp))
    obtain ⟨c, rfl⟩ := fin_of (hs c (by simp))
    obtain ⟨d, rfl⟩ := fin_of (hs d (by simp))
    have q := chk4 a b c d (fun e => by subst e; simp at hn) (fun e => by subst e; simp at hn) (fun e => by subst e; simp at hn) (fun e => by subst e; simp at hn) (fun e => by subst e; simp at hn) (fun e => by subst e; simp at hn)
    exact ⟨q.1, fun _ => q.2⟩
  | _ :: _ :: _ :: _ :: _ :: _, _, _, _, hl => exact absurd hl (by simp)

/-- the set of ints at a, its table of eight slots, none of them a dummy -/
def Set7 (w : World) (h : Heap) (a : Addr) (S : Int → Bool) (n : Nat) : Prop :=
  ∃ o es ep t, h.get? a = some o ∧ o.ExactSet ∧ o.data = .set es ep t ∧ (∀ e ∈ es.toList, GoodE e) ∧ (es.toList.map keyOf).Nodup ∧ (∀ k, S k = true ↔ k ∈ es.toList.map keyOf) ∧
    es.size < scanBound ∧ t.fits es.size = true ∧ es.size = n ∧ Ris t.place.toList ∧ (w.params.followText "set-order" = true ∨ t.led = true) ∧ t.mask = 7 ∧ t.dummies = #[]
theorem Set7.setR {w : World} {h : Heap} {a : Addr} {S : Int → Bool} {n : Nat} (x : Set7 w h a S n) : SetR w h a S n := by
  obtain ⟨o, es, ep, t, h1, h2, h3, h4, h5, h6, h7, h8, h9, h10, h11, _⟩ := x
  exact ⟨o, es, ep, t, h1, h2, h3, h4, h5, h6, h7, h8, h9, h10, h11⟩
theorem Set7.at {w : World} {h h' : Heap} {a : Addr} {S : Int → Bool} {n : Nat} (x : Set7 w h a S n) (k : ∀ o, h.get? a = some o → h'.get? a = some o) : Set7 w h' a S n := by
  obtain ⟨o, es, ep, t, ho, r⟩ := x
  exact ⟨o, es, ep, t, k o ho, r⟩
/-- the hashes of small ints are the ints -/
theorem hash_small {k : Int} (h : Sm k) : hashInt k = k := by
  obtain ⟨a, rfl⟩ := fin_of h
  clear h
  revert a
  decide +kernel
theorem keys_hash {es : List (Int × Value)} (g : ∀ e ∈ es, GoodE e) (hs : ∀ k ∈ es.map keyOf, Sm k) : es.map (·.1) = es.map keyOf := by
  refine List.map_congr_left fun e he => ?_
  obtain ⟨k, tk, h1, h2⟩ := g e he
  have e2 : keyOf e = k := by unfold keyOf; rw [h1]
  rw [h2, e2]
  exact hash_small (by rw [← e2]; exact hs _ (List.mem_map.mpr ⟨e, he, rfl⟩))
theorem range_get {α : Type} : ∀ l : List α, (List.range l.length).filterMap (fun i => l[i]?) = l := fun l => by
  have : ∀ (n : Nat), n ≤ l.length → (List.range n).filterMap (fun i => l[i]?) = l.take n := by
    intro n
    induction n with
    | zero => intro _; rfl
    | succ n ih =>
      intro h
      rw [List.range_succ, List.filterMap_append, ih (by omega), List.take_add_one]
      congr 1
  rw [this _ (Nat.le_refl _), List.take_length]
/-- a clean laying of small ints -/
theorem lay_ok {m : Nat} {es : Array (Int × Value)} (hc : chk m (es.map (·.1)).toList = true) (f mv : Nat) (led plain : Bool) :
    ∃ t order, SetTable.laid m f mv led plain (es.map (·.1)) = some (t, order) ∧ t.mask = m ∧ t.dummies = #[] ∧ t.led = led ∧ Ris t.place.toList ∧ t.place.size = es.size ∧ (order.filterMap (es[·]?)).toList.Perm es.toList := by
  rw [laid_eq]
  unfold chk at hc
  rw [Array.toArray_toList] at hc
  cases hl : lives m (es.map (·.1)) with
  | none => rw [hl] at hc; cases hc
  | some lv =>
    rw [hl] at hc
    simp only [Bool.and_eq_true, decide_eq_true_eq] at hc
    obtain ⟨h1, h2⟩ := hc
    have h2 : (lv.map (·.2)).Perm (List.range (es.map (·.1)).toList.length) := List.isPerm_iff.mp h2
    have hlen : (es.map (·.1)).toList.length = es.size := by simp
    rw [hlen] at h2
    refine ⟨_, _, rfl, rfl, rfl, rfl, (by show List.Pairwise (· < ·) _; simpa using h1), ?_, ?_⟩
    · have := h2.length_eq
      simpa using this
    · rw [Array.toList_filterMap]
      have q := h2.filterMap (fun i => es[i]?)
      have e : (List.range es.size).filterMap (fun i => es[i]?) = es.toList := by
        have := range_get es.toList
        simpa using this
      rw [e] at q
      simpa using q

section
variable {P : Program} {w : World} {A : Around} {E : Value → Shared → Prop} {s : Shared}
/-- an empty set takes over another one's members -/
theorem merge_empty {d o : Addr} {S : Int → Bool} {n : Nat} {each : Sem Unit} {Q : Unit → Shared → Prop} (hd : Set7 w s.heap d (fun _ => false) 0) (ho : SetR w s.heap o S n) (hs : ∀ k, S k = true → Sm k) (hne : d ≠ o)
    (q : ∀ h', Heap.SameBut d s.heap h' → Set7 w h' d S n → Q () { s with heap := h' }) : wpAny (model P w) A (setMerge d o each) Q E s := by
  obtain ⟨od, es, ep, t, h1, h2, h3, h4, h5, h6, h7, h8, h9, h10, h11, hm, hdm⟩ := id hd
  obtain ⟨oo, eo, eq, to, k1, k2, k3, k4, k5, k6, k7, k8, k9, k10, k11⟩ := id ho
  have hes : es = #[] := Array.size_eq_zero_iff.mp h9
  subst hes
  have hpl : t.place.size = 0 := by simp only [SetTable.fits, Bool.and_eq_true, beq_iff_eq] at h8; simpa using h8.1
  have hfill : t.fill = 0 := by unfold SetTable.fill; rw [hpl, hdm]; rfl
  have hsm : ∀ k ∈ eo.toList.map keyOf, Sm k := fun k hk => hs k ((k6 k).mpr hk)
  have hlen : eo.size ≤ 4 := by have := small_len k5 hsm; simpa using this
  unfold setMerge
  have hne' : (d == o) = false := beq_eq_false_iff_ne.mpr hne
  rw [hne']
  simp only [Bool.false_eq_true, if_false]
  refine wpAny_bind (wpAny_setState_of k1 k3 k8 ?_)
  dsimp only
  by_cases he : eo.isEmpty = true
  · rw [if_pos he]
    have h0 : eo.size = 0 := by simpa [Array.isEmpty] using he
    refine wpAny_pure (q s.heap (Heap.SameBut.refl _ _) ?_)
    have hn : n = 0 := by omega
    have hS : ∀ k, S k = false := fun k => by
      cases e : S k with
      | false => rfl
      | true =>
        have := (k6 k).mp e
        rw [Array.size_eq_zero_iff.mp h0] at this
        simp at this
    have hSf : S = fun _ => false := funext hS
    rw [hSf, hn]
    exact hd
  · rw [if_neg he]
    have hpos : 0 < eo.size := by
      rcases Nat.eq_zero_or_pos eo.size with z | z
      · exact absurd (by simpa [Array.isEmpty] using z) he
      · exact z
    unfold setRoomFor
    have hroom : t.roomFor eo.size = none := by
      unfold SetTable.roomFor
      rw [hfill, hm, if_neg (by omega)]
    refine wpAny_bind (wpAny_bind (wpAny_setState_of h1 h3 h8 ?_))
    dsimp only
    rw [hroom]
    refine wpAny_pure ?_
    refine wpAny_bind (wpAny_setState_of h1 h3 h8 ?_)
    dsimp only
    have hroad : t.road to = .slotForSlot ∨ t.road to = .clean := by
      unfold SetTable.road
      rw [hfill]
      simp only [bne_self_eq_false, Bool.false_eq_true, if_false]
      split
      · exact .inl rfl
      · exact .inr rfl
    rcases hroad with hr | hr
    · have hmo : to.mask = 7 ∧ to.dummies = #[] := by
        unfold SetTable.road at hr
        rw [hfill] at hr
        simp only [bne_self_eq_false, Bool.false_eq_true, if_false] at hr
        split at hr
        · rename_i hc
          rw [Bool.and_eq_true, beq_iff_eq] at hc
          exact ⟨by rw [← hc.1]; exact hm, by simpa using hc.2⟩
        · cases hr
      rw [hr]
      refine wpAny_storeSet_of h1 h3 (q _ (Heap.SameBut.update ..) ?_) (fits_of_scanBound k7)
      refine ⟨_, eo, _, _, store_at h1 h3, h2, rfl, k4, k5, k6, k7, ?_, k9, k10, ?_, hmo.1, hmo.2⟩
      · exact k8
      · rcases h11 with z | z
        · exact .inl z
        · rcases k11 with y | y
          · exact .inl y
          · exact .inr (by show (t.led && to.led) = true; rw [z, y]; rfl)
    · rw [hr]
      have hc : chk t.mask (eo.map (·.1)).toList = true := by
        have e1 : (eo.map (·.1)).toList = eo.toList.map keyOf := by rw [Array.toList_map]; exact keys_hash k4 hsm
        rw [e1, hm]
        exact (chk_small k5 hsm (fun z => by
          have : eo.size = 0 := by simpa using congrArg List.length z
          omega)).1
      obtain ⟨t', order, l1, l2, l3, l4, l5, l6, l7⟩ := lay_ok hc t.finger t.moves (t.led && to.led) (t.plain && to.plain)
      have hsz : (order.filterMap (eo[·]?)).size = eo.size := by rw [← Array.length_toList, l7.length_eq, Array.length_toList]
      show wpAny (model P w) A ((do
        let some (t, order) := SetTable.laid t.mask t.finger t.moves (t.led && to.led) (t.plain && to.plain) (eo.map (·.1)) | unsupported "internal:set-table-without-room"
        let es' := order.filterMap (eo[·]?)
        if es'.size != eo.size then unsupported "internal:set-table-lost-an-element"
        pure (es', t)) >>= fun (p : Array (Int × Value) × SetTable) => storeSet d p.1 p.2) Q E s
      rw [l1]
      dsimp only
      rw [hsz]
      simp only [bne_self_eq_false, Bool.false_eq_true, if_false]
      refine wpAny_bind (wpAny_pure ?_)
      have hb : (order.filterMap (eo[·]?)).size < scanBound := by rw [hsz]; exact k7
      refine wpAny_storeSet_of h1 h3 (q _ (Heap.SameBut.update ..) ?_) (fits_of_scanBound hb)
      have pk := l7.map keyOf
      refine ⟨_, _, _, t', store_at h1 h3, h2, rfl, fun e he => k4 e (l7.mem_iff.mp he), pk.nodup_iff.mpr k5, fun k => (k6 k).trans pk.mem_iff.symm, hb, ?_, hsz.trans k9, l5, ?_, l2.trans hm, l3⟩
      · unfold SetTable.fits SetTable.fill
        rw [l6, hsz, l3, l2, hm]
        simp
        omega
      · rcases h11 with z | z
        · exact .inl z
        · rcases k11 with y | y
          · exact .inl y
          · exact .inr (by rw [l4, z, y]; rfl)
/-- a singleton is walked -/
theorem walk_one {o d : Addr} {oo : Obj} {eo : Array (Int × Value)} {ep : Nat} {t : SetTable} {Q : Array (Int × Value) → Shared → Prop} (k1 : s.heap.get? o = some oo) (k3 : oo.data = .set eo ep t) (k8 : t.fits eo.size = true) (h1 : eo.size = 1) (q : Q eo s) :
    wpAny (model P w) A (setWalkUnseen o [d] (some d)) Q E s := by
  have hw : wpAny (model P w) A (setWalk o) Q E s := by
    unfold setWalk
    refine wpAny_bind (wpAny_setState_of k1 k3 k8 ?_)
    dsimp only
    refine wpAny_bind (wpAny_byText ?_)
    have hp : pickOrder (w.params.setOrder o ep) eo = eo := by
      have pm := pick_perm (w.params.setOrder o ep) eo
      obtain ⟨l⟩ := eo
      match l, h1 with
      | [x], _ =>
        have := List.perm_singleton.mp pm
        exact Array.toList_inj.mp this
    split
    · refine wpAny_bind (wpAny_askSetting ?_)
      refine wpAny_pure ?_
      rw [show (model P w).w.params.setOrder o ep = w.params.setOrder o ep from rfl, hp]
      exact q
    · try refine wpAny_bind (wpAny_pure ?_)
      refine wp_if_neg (by show ¬ ((!t.plain && decide (eo.size > 1)) = true); rw [h1]; simp) ?_
      try refine wpAny_bind (wpAny_pure ?_)
      refine wpAny_bind (wpAny_of_eq (a := ()) ?_ ?_)
      · show (if (!t.led && decide (eo.size > 1)) = true then unsupported "set:maker-not-led" else pure ()) = pure ()
        rw [h1]
        simp
      · exact wpAny_pure q
  unfold setWalkUnseen
  refine wpAny_bind (wpAny_setState_of k1 k3 k8 ?_)
  dsimp only
  refine wpAny_bind (wpAny_byText ?_)
  rw [if_pos (by rw [h1]; simp)]
  exact hw
/-- one more member -/
theorem merge_one {d o : Addr} {S : Int → Bool} {v : Int} {m : Nat} {each : Sem Unit} {Q : Unit → Shared → Prop} (hd : Set7 w s.heap d S m) (hs : ∀ k, S k = true → Sm k) (ho : SetR w s.heap o (fun k => decide (k = v)) 1) (hv : Sm v) (hne : d ≠ o)
    (he : ∀ (s' : Shared) (R : Unit → Shared → Prop), s'.heap.get? o = s.heap.get? o → R () s' → wpAny (model P w) A each R E s')
    (q : ∀ h' m', Heap.SameBut d s.heap h' → SetR w h' d (fun k => S k || decide (k = v)) m' → m' ≤ 5 → Q () { s with heap := h' }) : wpAny (model P w) A (setMerge d o each) Q E s := by
  obtain ⟨od, es, ep, t, h1, h2, h3, h4, h5, h6, h7, h8, h9, h10, h11, hm, hdm⟩ := id hd
  have hsm : ∀ k ∈ es.toList.map keyOf, Sm k := fun k hk => hs k ((h6 k).mpr hk)
  have hlen : es.size ≤ 4 := by have := small_len h5 hsm; simpa using this
  by_cases h0 : es.size = 0
  · have hS : S = fun _ => false := funext fun k => by
      cases e : S k with
      | false => rfl
      | true =>
        have := (h6 k).mp e
        rw [Array.size_eq_zero_iff.mp h0] at this
        simp at this
    have hm0 : m = 0 := by omega
    subst hS hm0
    refine merge_empty hd ho (fun k hk => by
      have e : k = v := by simpa using hk
      rw [e]; exact hv) hne fun h' sb x => q h' 1 sb (x.setR.congr fun k => by simp) (by omega)
  obtain ⟨oo, eo, eq, to, k1, k2, k3, k4, k5, k6, k7, k8, k9, k10, k11⟩ := id ho
  have hpl : t.place.size = es.size := by simp only [SetTable.fits, Bool.and_eq_true, beq_iff_eq] at h8; exact h8.1
  have hfill : t.fill = es.size := by unfold SetTable.fill; rw [hpl, hdm]; rfl
  -- the singleton's one element
  obtain ⟨x, hx⟩ : ∃ x, eo.toList = [x] := by
    have : eo.toList.length = 1 := by simpa using k9
    exact List.length_eq_one_iff.mp this
  have hxm : x ∈ eo.toList := by rw [hx]; simp
  obtain ⟨k, tk, hx2, hx1⟩ := k4 x hxm
  have hkv : k = v := by
    have : decide (v = v) = true := by simp
    have := (k6 v).mp this
    rw [hx] at this
    have e2 : keyOf x = k := by unfold keyOf; rw [hx2]
    have e3 : v = keyOf x := by simpa using this
    rw [e3, e2]
  subst hkv
  unfold setMerge
  have hne' : (d == o) = false := beq_eq_false_iff_ne.mpr hne
  rw [hne']
  simp only [Bool.false_eq_true, if_false]
  refine wpAny_bind (wpAny_setState_of k1 k3 k8 ?_)
  dsimp only
  rw [if_neg (fun z => by
    have e : eo.size = 0 := by simpa [Array.isEmpty] using z
    omega)]
  -- the rest, from a table that is not empty
  have rest : ∀ h1, Heap.SameBut d s.heap h1 → SetR w h1 d S m → (∃ od es ep t, h1.get? d = some od ∧ od.data = .set es ep t ∧ t.fits es.size = true ∧ t.fill ≠ 0) →
      wpAny (model P w) A (do
        let (_, _, ts) ← setState d
        match ts.road to with
        | .slotForSlot => storeSet d eo { to with finger := ts.finger, led := ts.led && to.led, moves := ts.moves, plain := ts.plain && to.plain }
        | .clean =>
          let (es, t) ← (do
            let some (t, order) := (SetTable.laid ts.mask ts.finger ts.moves (led := ts.led && to.led) (plain := ts.plain && to.plain) (eo.map (·.1))) | unsupported "internal:set-table-without-room"
            let es' := order.filterMap (eo[·]?)
            if es'.size != eo.size then unsupported "internal:set-table-lost-an-element"
            pure (es', t))
          storeSet d es t
        | .oneByOne =>
          for (h, x) in ← setWalkUnseen o [d] (some d) do
            let _ ← holding [x] (setAddHashed d x h)
            each
            if (← setState o).2.1 != eq then unsupported "set.changed-during-merge") Q E { s with heap := h1 } := by
    intro h1 sb1 R1 ⟨od1, es1, ep1, t1, g1, g3, g8, gf⟩
    refine wpAny_bind (wpAny_setState_of g1 g3 g8 ?_)
    dsimp only
    have hroad : t1.road to = .oneByOne := by
      unfold SetTable.road
      rw [if_pos (by simpa using gf)]
    rw [hroad]
    dsimp only
    have k1' : h1.get? o = some oo := (sb1.2 o (Ne.symm hne)).trans k1
    refine wpAny_bind (walk_one (s := { s with heap := h1 }) k1' k3 k8 k9 ?_)
    obtain ⟨el⟩ := eo
    have hx : el = [x] := hx
    subst hx
    rw [← Array.forIn_toList]
    show wpAny _ _ (forIn [x] PUnit.unit _ >>= fun _ => pure ()) _ _ _
    rw [List.forIn_cons]
    obtain ⟨xh, xv⟩ := x
    have hx2 : xv = .int k tk := hx2
    have hx1 : xh = hashInt k := hx1
    subst hx2 hx1
    dsimp only
    refine wpAny_bind (wpAny_bind (wpAny_bind (wpAny_holding (setR_add_hashed (P := P) (s := { s with heap := h1 }) R1 (by rw [← h9]; have : scanBound = 4096 := rfl; omega) fun h2' sb2 R2 => ?_))))
    have k1'' : h2'.get? o = some oo := (sb2.2 o (Ne.symm hne)).trans k1'
    refine wpAny_bind (he _ _ (k1''.trans k1.symm) ?_)
    refine wpAny_bind (wpAny_setState_of (s := { s with heap := h2' }) k1'' k3 k8 ?_)
    dsimp only
    rw [if_neg (by simp)]
    refine wpAny_pure ?_
    dsimp only
    rw [List.forIn_nil]
    refine wpAny_pure (wpAny_pure ?_)
    refine q h2' _ (sb1.trans sb2) R2 ?_
    split <;> omega
  -- room
  unfold setRoomFor
  refine wpAny_bind (wpAny_bind (wpAny_setState_of h1 h3 h8 ?_))
  dsimp only
  have hroom : t.roomFor eo.size = if es.size = 4 then some 10 else none := by
    unfold SetTable.roomFor
    rw [hfill, hm, k9, hpl]
    by_cases e4 : es.size = 4
    · rw [if_pos (by omega), if_pos e4, e4]
    · rw [if_neg (by omega), if_neg e4]
  rw [hroom]
  by_cases e4 : es.size = 4
  · rw [if_pos e4]
    have hc : chk 15 (es.map (·.1)).toList = true := by
      have e1 : (es.map (·.1)).toList = es.toList.map keyOf := by rw [Array.toList_map]; exact keys_hash h4 hsm
      rw [e1]
      exact (chk_small h5 hsm (fun z => by
        have : es.size = 0 := by simpa using congrArg List.length z
        omega)).2 (by simpa using e4)
    obtain ⟨t', order, l1, l2, l3, l4, l5, l6, l7⟩ := lay_ok hc t.finger (t.movedTo 15) t.led t.plain
    have hsz : (order.filterMap (es[·]?)).size = es.size := by rw [← Array.length_toList, l7.length_eq, Array.length_toList]
    have hrel : t.relaid (es.map (·.1)) 10 = some (t', order) := l1
    unfold setRelay
    refine wpAny_bind (wpAny_setState_of h1 h3 h8 ?_)
    dsimp only
    rw [if_neg (by rw [sizeLine_eq]; decide)]
    refine wpAny_bind ?_
    show wpAny (model P w) A (do
      let some (t, order) := t.relaid (es.map (·.1)) 10 | unsupported "internal:set-table-without-room"
      let es' := order.filterMap (es[·]?)
      if es'.size != es.size then unsupported "internal:set-table-lost-an-element"
      pure (es', t)) _ E s
    rw [hrel]
    dsimp only
    rw [hsz]
    simp only [bne_self_eq_false, Bool.false_eq_true, if_false]
    refine wpAny_pure ?_
    have hb : (order.filterMap (es[·]?)).size < scanBound := by rw [hsz]; exact h7
    have pk := l7.map keyOf
    have hf' : t'.fits (order.filterMap (es[·]?)).size = true := by
      unfold SetTable.fits SetTable.fill
      rw [l6, hsz, l3, l2]
      simp
      omega
    refine wpAny_storeSet_of h1 h3 ?_ (fits_of_scanBound hb)
    refine rest _ (Heap.SameBut.update ..) ?_ ⟨_, _, _, t', store_at h1 h3, rfl, hf', ?_⟩
    · exact ⟨_, _, _, t', store_at h1 h3, h2, rfl, fun e he => h4 e (l7.mem_iff.mp he), pk.nodup_iff.mpr h5, fun k => (h6 k).trans pk.mem_iff.symm, hb, hf', hsz.trans h9, l5, h11.imp id fun z => by rw [l4]; exact z⟩
    · unfold SetTable.fill
      rw [l6]
      omega
  · rw [if_neg e4]
    refine wpAny_pure ?_
    exact rest s.heap (Heap.SameBut.refl _ _) hd.setR ⟨_, _, _, t, h1, h3, h8, by rw [hfill]; exact h0⟩
end
end SO

end

section
set_option maxHeartbeats 4000000
/-! set(t) | {v} as values. -/
namespace SO
open PySem PySem.Spec PyProof.Rows L2
theorem entry_set_or : entryFor table "set.__or__" = some Builtin.«frozenset.__or__» := 
  entryFor_alias (id' := "frozenset.__or__") (by kernel_rfl) rfl (by decide +kernel) (by kernel_rfl)
section
variable {P : Program} {w : World} {A : Around} {E : Value → Shared → Prop} {s : Shared}
theorem isSetRef {a : Addr} {Q : Bool → Shared → Prop} (hT : s.TypeIs (.ref a) "set") (q : Q true s) : wpAny (model P w) A (Builtin.Frozenset.isAnySet (.ref a)) Q E s := by
  unfold Builtin.Frozenset.isAnySet orM
  refine wpAny_bind (wpAny_isInstance (U := "set") (b := true) hT F.sub_set_set ?_)
  exact wpAny_pure q
theorem newSet_led {Q : Value → Shared → Prop} (h : Set7 w (s.heap.push { cls := .type "set", dict := none, data := .set #[] 0 (.fresh 0 0 (!w.params.followText "set-order")) }) s.heap.objs.size (fun _ => false) 0 →
      Q (.ref s.heap.objs.size) { s with heap := s.heap.push { cls := .type "set", dict := none, data := .set #[] 0 (.fresh 0 0 (!w.params.followText "set-order")) } }) : wpAny (model P w) A (newSet (.type "set")) Q E s := by
  unfold newSet
  refine wpAny_bind (wpAny_byText ?_)
  dsimp only
  simp only [newObj]
  refine wpAny_bind (wpAny_alloc (wpAny_pure (h ?_)))
  refine ⟨_, #[], 0, _, Heap.get?_push_size _ rfl, ⟨rfl, rfl, rfl⟩, rfl, (fun e he => by simp at he), (by simp), (fun k => by simp), (by decide), (by rfl), rfl, List.Pairwise.nil, ?_, rfl, rfl⟩
  show _ ∨ (!w.params.followText "set-order") = true
  cases w.params.followText "set-order"
  · exact .inr rfl
  · exact .inl rfl
theorem setR_type {a : Addr} {S : Int → Bool} {n : Nat} (x : SetR w s.heap a S n) : s.TypeIs (.ref a) "set" := by
  obtain ⟨o, _, _, _, ho, hx, _⟩ := x
  exact ⟨o, ho, hx.1⟩
theorem or_sets {l r : Addr} {S : Int → Bool} {n : Nat} {v : Int} {Q : Value → Shared → Prop} (hl : SetR w s.heap l S n) (hs : ∀ k, S k = true → Sm k) (hr : SetR w s.heap r (fun k => decide (k = v)) 1) (hv : Sm v) (hne : l ≠ r)
    (q : ∀ h' m, (∀ b o, s.heap.get? b = some o → h'.get? b = some o) → SetR w h' s.heap.objs.size (fun k => S k || decide (k = v)) m → m ≤ 5 → Q (.ref s.heap.objs.size) { s with heap := h' }) :
    wpAny (model P w) A (binaryOp .BitOr (.ref l) (.ref r)) Q E s := by
  have hlt : l < s.heap.objs.size := hl.lt
  have hrt : r < s.heap.objs.size := hr.lt
  refine wpAny_binaryOp_same (setR_type hl) (setR_type hr) F.fills_set_or F.slot_set_or (wpAny_call_entry F.slot_set_or (setR_type hl) entry_set_or ?_ (F.args_set_or_2 _ _))
  have es1 : Builtin.Frozenset.slot1 "__or__" ⟨[.ref l, .ref r], []⟩ = pure (.ref l, .ref r) := rfl
  show wpAny (model P w) A.in1 (do
    let (self, other) ← Builtin.Frozenset.slot1 "__or__" ⟨[.ref l, .ref r], []⟩
    let (l, r) := if false = true then (other, self) else (self, other)
    if !(← Builtin.Frozenset.isAnySet l <&&> Builtin.Frozenset.isAnySet r) then rule s!"frozenset.{"__or__"}.declined"; return ← ret .notImplemented
    ret (← (do
      let result ← Builtin.Frozenset.copyOf (← Builtin.Frozenset.addrOf l)
      if r != .ref (← Builtin.Frozenset.addrOf l) then holding [result] (Builtin.Frozenset.updateFrom s!"frozenset.{"__or__"}" (← Builtin.Frozenset.addrOf result) r)
      return result))) _ _ s
  rw [es1]
  refine wpAny_bind (wpAny_pure ?_)
  dsimp only
  simp only [Bool.false_eq_true, if_false]
  unfold andM
  refine wpAny_bind (wpAny_bind (isSetRef (setR_type hl) ?_))
  refine isSetRef (setR_type hr) ?_
  simp only [Bool.not_true, Bool.false_eq_true, if_false]
  have ea : ∀ a : Addr, Builtin.Frozenset.addrOf (.ref a) = pure a := fun _ => rfl
  rw [ea]
  refine wpAny_bind (wpAny_bind (wpAny_pure ?_))
  refine wpAny_bind ?_
  unfold Builtin.Frozenset.copyOf Builtin.Frozenset.baseOf
  refine wpAny_bind (wpAny_bind (wpAny_isInstance (U := "set") (b := true) (setR_type hl) F.sub_set_set ?_))
  simp only [if_true]
  refine wpAny_pure ?_
  refine wpAny_bind (newSet_led fun h7 => ?_)
  rw [ea]
  refine wpAny_bind (wpAny_pure ?_)
  have k1 : ∀ b o, s.heap.get? b = some o → (s.heap.push { cls := .type "set", dict := none, data := .set #[] 0 (.fresh 0 0 (!w.params.followText "set-order")) }).get? b = some o := fun b o e => Heap.get?_push_of_some _ e
  refine wpAny_bind (merge_empty (s := { s with heap := s.heap.push { cls := .type "set", dict := none, data := .set #[] 0 (.fresh 0 0 (!w.params.followText "set-order")) } }) h7 (hl.at fun o e => k1 l o e) hs (Nat.ne_of_gt hlt) fun h2 sb2 h72 => ?_)
  refine wpAny_pure ?_
  refine wpAny_bind (wpAny_pure ?_)
  dsimp only
  have hrl : (Value.ref r != Value.ref l) = true := by
    rw [bne_iff_ne]
    intro z
    exact hne (Value.ref.inj z).symm
  rw [if_pos hrl, ea]
  refine wpAny_bind (wpAny_pure ?_)
  have k2 : ∀ b o, s.heap.get? b = some o → h2.get? b = some o := fun b o e => (sb2.2 b (Nat.ne_of_lt (Heap.lt_size e))).trans (k1 b o e)
  have hr2 : SetR w h2 r (fun k => decide (k = v)) 1 := hr.at fun o e => k2 r o e
  refine wpAny_bind (wpAny_holding ?_)
  unfold Builtin.Frozenset.updateFrom
  refine wpAny_bind (isSetRef (s := { s with heap := h2 }) (setR_type hr2) ?_)
  simp only [if_true]
  rw [ea]
  refine wpAny_bind (wpAny_pure ?_)
  unfold Builtin.Frozenset.merge setEpoch
  obtain ⟨oo, eo, eq, to, g1, g2, g3, g4, g5, g6, g7, g8, g9, g10, g11⟩ := id hr2
  refine wpAny_bind (wpAny_bind (wpAny_setState_of (s := { s with heap := h2 }) g1 g3 g8 (wpAny_pure ?_)))
  dsimp only
  refine merge_one (s := { s with heap := h2 }) h72 hs hr2 hv (Nat.ne_of_gt hrt) (fun s' R e hR => ?_) fun h3 m sb3 h73 hm5 => ?_
  · unfold Builtin.Frozenset.unchanged setEpoch
    have g1' : s'.heap.get? r = some oo := e.trans g1
    refine wpAny_bind (wpAny_bind (wpAny_setState_of g1' g3 g8 (wpAny_pure ?_)))
    dsimp only
    rw [if_neg (by simp)]
    exact wpAny_pure hR
  · refine wpAny_pure ?_
    refine wpAny_pure ⟨_, rfl, (fun z => by cases z), q h3 m (fun b o e => (sb3.2 b (Nat.ne_of_lt (Heap.lt_size e))).trans (k2 b o e)) h73 hm5⟩
end
section
variable {X : Cx}
/-- a | b, b of one member -/
def rOrS (w : World) : R2 := fun x y H Q => ∃ l r S n v, x = .ref l ∧ y = .ref r ∧ H l = some (SetO w l S n) ∧ (∀ k, S k = true → Sm k) ∧ H r = some (SetO w r (fun k => decide (k = v)) 1) ∧ Sm v ∧ l ≠ r ∧
  ∀ p m, m ≤ 5 → H p = none → Q (.ref p) (upd H p (SetO w p (fun k => S k || decide (k = v)) m))
theorem op_orS : OpR X (binaryOp .BitOr) (rOrS X.w) := by
  intro pins s σ H x y v u Q I rx ry h
  obtain ⟨l, r, S, n, z, rfl, rfl, hl, hs, hr, hv, hne, q⟩ := h
  cases rx
  cases ry
  refine or_sets (setO_get I hl) hs (setO_get I hr) hv hne fun h' m k R hm => ?_
  exact ⟨.ref s.heap.objs.size, _, I.laid (t' := s.toks) k (Nat.le_refl _) (setO_new R), rfl, q _ m hm (I.hok.fresh (Nat.le_refl _))⟩
/-- set(t), t a tuple of ints -/
def rSetTI (K : PySem.W.Frag) (w : World) : List V → Hp → VK → Prop := fun vs H Q => ∃ (a : Addr) (ns : List Int), vs = [V.ref a] ∧ SqT K H a (ns.map V.int) ∧ ns.length ≤ 100 ∧
  ∀ p c, c ≤ ns.length → (ns.Nodup → c = ns.length) → (c = ns.length → ns.Nodup) → H p = none → Q (.ref p) (upd H p (SetO w p (fun k => decide (k ∈ ns)) c))
theorem card_of {w : World} {h : Heap} {a : Addr} {ns : List Int} {c : Nat} (R : SetR w h a (fun k => decide (k ∈ ns)) c) : (ns.Nodup → c = ns.length) ∧ (c = ns.length → ns.Nodup) := by
  obtain ⟨o, es, ep, t, h1, h2, h3, h4, h5, h6, h7, h8, h9, _⟩ := R
  have hm : ∀ k, k ∈ ns ↔ k ∈ es.toList.map keyOf := fun k => by rw [← h6 k]; simp
  have hc : (es.toList.map keyOf).length = c := by simpa using h9
  constructor
  · intro hn
    have a1 := OSx.sub_len hn fun k hk => (hm k).mp hk
    have a2 := OSx.sub_len h5 fun k hk => (hm k).mpr hk
    omega
  · intro e
    -- a list with as many members as it is long has none twice
    have key : ∀ (l m : List Int), m.Nodup → (∀ k ∈ m, k ∈ l) → m.length = l.length → l.Nodup := by
      intro l
      induction l with
      | nil => intro m _ _ _; exact .nil
      | cons x l ih =>
        intro m hmn hml hle
        have hx : x ∈ m := by
          by_cases hx : x ∈ m
          · exact hx
          · exfalso
            have : m.length ≤ l.length := OSx.sub_len hmn fun k hk => by
              rcases List.mem_cons.mp (hml k hk) with z | z
              · exact absurd (z ▸ hk) hx
              · exact z
            simp at hle
            omega
        have hmn' : (m.erase x).Nodup := hmn.erase x
        have hsub : ∀ k ∈ m.erase x, k ∈ l := fun k hk => by
          have k1 := (hmn.mem_erase_iff.mp hk)
          rcases List.mem_cons.mp (hml k k1.2) with z | z
          · exact absurd z k1.1
          · exact z
        have hlen : (m.erase x).length = l.length := by
          rw [List.length_erase_of_mem hx]
          simp at hle
          omega
        have hl := ih _ hmn' hsub hlen
        refine List.nodup_cons.mpr ⟨fun hxl => ?_, hl⟩
        -- x in l: then m's members all lie in l
        have : m.length ≤ l.length := OSx.sub_len hmn fun k hk => by
          rcases List.mem_cons.mp (hml k hk) with z | z
          · exact z ▸ hxl
          · exact z
        simp at hle
        omega
    exact key ns _ h5 (fun k hk => (hm k).mpr hk) (by omega)
theorem cr_setTI (hc : X.calm = true) : CallR X (.type "set") (rSetTI X.K X.w) := by
  intro pins s σ H vs us Q I r h
  obtain ⟨a, ns, rfl, hs, hl, q⟩ := h
  obtain ⟨its, rv, ht, hz⟩ := I.tuple hs
  rw [Vals.ref1 r]
  refine call_set_tupI ns (I.ok.hd hc) ht (by simpa using rv.ints) (by have : scanBound = 4096 := rfl; omega) fun h' tk c R hcn k => ?_
  obtain ⟨c1, c2⟩ := card_of R
  exact ⟨.ref s.heap.objs.size, _, I.laid (t' := tk) k (Nat.le_refl _) (setO_new R), rfl, q _ c hcn c1 c2 (I.hok.fresh (Nat.le_refl _))⟩
/-- len(s) -/
def rLenSO (w : World) : List V → Hp → VK → Prop := fun vs H Q => ∃ (a : Addr) (S : Int → Bool) (n : Nat), vs = [V.ref a] ∧ H a = some (SetO w a S n) ∧ Q (.int (n : Nat)) H
theorem cr_lenSO : CallR X (.builtin "len") (rLenSO X.w) := by
  intro pins s σ H vs us Q I r h
  obtain ⟨a, S, n, rfl, ha, q⟩ := h
  rw [Vals.ref1 r]
  obtain ⟨o, es, ep, t, h1, h2, h3, h4, h5, h6, h7, h8, h9, _⟩ := setO_get I ha
  have hb : scanBound = 4096 := rfl
  refine call_len_set h1 h2 h3 h8 (by omega) ?_
  rw [h9]
  exact ⟨.int (n : Nat), H, I.tok _, ⟨_, rfl⟩, q⟩
/-- {e} -/
def tDispS (w : World) (te : TE) : TE := fun σ H Q => ∀ p, H p = none → te σ (upd H p (SetO w p (fun _ => false) 0)) fun x H1 => ∃ v, x = .int v ∧ H1 p = some (SetO w p (fun _ => false) 0) ∧ Q (.ref p) (upd H1 p (SetO w p (fun k => decide (k = v)) 1))
theorem pe_dispS {e : Expr} {te : TE} {pos : Pos} (hcd : PySem.W.kdsCode X.K X.env.code = true) (he : PE X e te) (hs : starEach [e] X.env = [(false, eval e X.env)] := by rfl) : PE X (.Set [e] 0 pos) (tDispS X.w te) := by
  refine ⟨fun pins s σ H Q I q => ?_⟩
  rw [arm_eval_Set]
  refine wpAny_bind (wpAny_standAt ?_)
  refine wpAny_bind (PySem.W.kds_main I.kIn hcd fun b => ?_)
  rw [hs]
  have hroad : displayRoad 0 [e] = .oneByOne := rfl
  rw [hroad]
  unfold setDisplay
  rw [if_neg (by decide)]
  refine wpAny_bind (newSet_led fun h7 => ?_)
  dsimp only
  have hn := I.hok.fresh (Nat.le_refl s.heap.objs.size)
  have I1 := I.laid (a := s.heap.objs.size) (o := SetO X.w s.heap.objs.size (fun _ => false) 0) (t' := s.toks) (h' := s.heap.push { cls := .type "set", dict := none, data := .set #[] 0 (.fresh 0 0 (!X.w.params.followText "set-order")) }) (fun _ _ z => Heap.get?_push_of_some _ z) (Nat.le_refl _) (setO_new h7.setR)
  show wpAny _ _ ((do
    holding [Value.ref s.heap.objs.size] (do
      let first ← evalAll [do let v ← eval e X.env; standAt pos; pure v]
      holding first (do
        forIn first PUnit.unit fun x __s => do
          let _ ← setAdd s.heap.objs.size x
          pure (ForInStep.yield PUnit.unit)
        pure ())
      forIn ([] : List (Bool × Sem Value)) PUnit.unit fun x __s => do
        let v ← x.snd
        if x.fst = true then do
          holding [v] (setDisplayStar s.heap.objs.size v)
          pure (ForInStep.yield PUnit.unit)
        else do
          let _ ← holding [v] (setAdd s.heap.objs.size v)
          pure (ForInStep.yield PUnit.unit)
      pure ())
    pure (Value.ref s.heap.objs.size))) _ _ _
  refine wpAny_bind (wpAny_holding (wpAny_bind ?_))
  refine PySem.W.kds_all (M := model X.prog X.w) pos [e] _ _ ?_
  refine thn (he.run pins _ σ _ _ I1 (q _ hn)) fun u s1 ⟨x, H1, I2, rx, v, ex, hp, q1⟩ => ?_
  subst ex
  obtain ⟨tk, rfl⟩ := rx
  refine wpAny_bind (wpAny_holding ?_)
  rw [List.forIn_cons]
  unfold setAdd
  refine wpAny_bind (wpAny_bind (wpAny_bind (wpAny_holding (wpAny_bind ((intKind X.prog X.w).pyHash (k := v) (intKind_is _ _ _ _) ?_)))))
  have R := setO_get I2 hp
  refine setR_add_hashed (P := X.prog) (s := { s1 with toks := s1.toks + 1 }) R (by decide) fun h' sb R2 => ?_
  refine wpAny_pure ?_
  dsimp only
  rw [List.forIn_nil]
  refine wpAny_pure (wpAny_pure ?_)
  rw [List.forIn_nil]
  refine wpAny_bind (wpAny_pure (wpAny_pure (wpAny_pure ?_)))
  have he' : ∃ u, h'.get? s.heap.objs.size = some u := by
    obtain ⟨o, _, _, _, ho, _⟩ := R2
    exact ⟨o, ho⟩
  refine ⟨.ref s.heap.objs.size, _, I2.write (e := s.heap.objs.size) (t' := s1.toks + 1) (by rw [hp]; trivial) (.inl rfl) (fun b u hb hu => (sb.2 b hb).trans hu) he' (setO_new (R2.congr fun k => ?_)), rfl, q1⟩
  simp
end
end SO

end

section
set_option maxHeartbeats 4000000
/-! Typed layer: slices, concatenation, in, len, sorted, sets, dicts. -/
namespace OS
open PySem PySem.Spec PyProof.Rows L2 GxR

/-! ### in -/
/-- x in a tuple or a list of data -/
def rInK (K : PySem.W.Frag) (neg : Bool) : R2 := fun x y H Q => ∃ d ds a xs, Td K H d x ∧ d.depth ≤ 8 ∧ y = .ref a ∧ (SqT K H a xs ∨ SqL K H a xs) ∧ Tds K H ds xs ∧ Q (.bl (if neg then !decide (d ∈ ds) else decide (d ∈ ds))) H
section
variable {X : Cx} {pins : List (Addr × Obj)} {σ : L2.St} {H : Hp} {s : Shared}
open Classical in
/-- is u the data d? -/
noncomputable def isD (h : Heap) (d : D) (u : Value) : Bool := decide (NestedIs h d u)
open Classical in
theorem isD_of {h : Heap} {d k : D} {u : Value} (hu : NestedIs h k u) : isD h d u = NestedKey.beq k d := by
  rw [← NestedKey.decide_eq]
  unfold isD
  by_cases e : k = d
  · subst e
    simp [hu]
  · rw [decide_eq_false e]
    exact decide_eq_false fun z => e (NestedIs.inj _ _ _ hu z)
theorem any_isD {h : Heap} {d : D} : ∀ {ds : List D} {us : List Value}, NestedAll h ds us → us.any (isD h d) = decide (d ∈ ds)
  | _, _, .nil => rfl
  | _, _, @NestedAll.cons _ k v ks vs r t => by
    rw [List.any_cons, any_isD t, isD_of r, ← NestedKey.decide_eq]
    rw [Bool.eq_iff_iff]
    simp only [Bool.or_eq_true, decide_eq_true_eq, List.mem_cons]
    constructor
    · rintro (e | e)
      · exact .inl e.symm
      · exact .inr e
    · rintro (e | e)
      · exact .inl e.symm
      · exact .inr e
theorem eqAt_isD {h : Heap} {A : Around} {s : Shared} (e : s.heap = h) {d : D} {v : Value} (hv : NestedIs h d v) (h8 : d.depth ≤ 8) (hu : A.units + 9 < cLine) : ∀ {ds : List D} {us : List Value}, NestedAll h ds us → ∀ u ∈ us, SeqAt.EqAt A s u v (isD h d u)
  | _, _, .nil, u, hm => by cases hm
  | _, _, @NestedAll.cons _ k w ks vs r t, u, hm => by
    subst e
    rcases List.mem_cons.mp hm with rfl | hm
    · rw [isD_of r]
      exact eqAt_key k d A s _ _ r hv (by omega)
    · exact eqAt_isD rfl hv h8 hu t u hm
theorem op_inK (hu : X.A.units + 64 < cLine) : OpR X (compareOp .In) (rInK X.K false) := by
  intro pins s σ H x y v u Q I rx ry h
  obtain ⟨d, ds, a, xs, hd, h8, rfl, hs, hds, q⟩ := h
  cases ry
  have hv := hd.nested I _ _ _ rx
  rcases hs with hs | hs
  · obtain ⟨its, rv, ht, _⟩ := I.tuple hs
    have ha := hds.nesteds I _ _ _ rv
    refine SeqAt.in_tupleAt (isD s.heap d) ht (fun w hw => eqAt_isD rfl hv h8 (by rw [Around.in1_units]; omega) ha w (by simpa using hw)) ⟨.bl _, H, I, rfl, ?_⟩
    rw [show its.toArray.any (isD s.heap d) = its.any (isD s.heap d) by simp, any_isD ha]
    exact q
  · obtain ⟨its, rv, ht, _⟩ := I.list hs
    have ha := hds.nesteds I _ _ _ rv
    refine SeqAt.in_listAt (isD s.heap d) ht.isList (fun w hw => eqAt_isD rfl hv h8 (by rw [Around.in1_units]; omega) ha w (by simpa using hw)) ⟨.bl _, H, I, rfl, ?_⟩
    rw [show its.toArray.any (isD s.heap d) = its.any (isD s.heap d) by simp, any_isD ha]
    exact q
theorem op_notInK (hu : X.A.units + 64 < cLine) : OpR X (compareOp .NotIn) (rInK X.K true) := by
  intro pins s σ H x y v u Q I rx ry h
  obtain ⟨d, ds, a, xs, hd, h8, rfl, hs, hds, q⟩ := h
  cases ry
  have hv := hd.nested I _ _ _ rx
  rcases hs with hs | hs
  · obtain ⟨its, rv, ht, _⟩ := I.tuple hs
    have ha := hds.nesteds I _ _ _ rv
    refine SeqAt.notIn_tupleAt (isD s.heap d) ht (fun w hw => eqAt_isD rfl hv h8 (by rw [Around.in1_units]; omega) ha w (by simpa using hw)) ⟨.bl _, H, I, rfl, ?_⟩
    rw [show its.toArray.any (isD s.heap d) = its.any (isD s.heap d) by simp, any_isD ha]
    exact q
  · obtain ⟨its, rv, ht, _⟩ := I.list hs
    have ha := hds.nesteds I _ _ _ rv
    refine SeqAt.notIn_listAt (isD s.heap d) ht.isList (fun w hw => eqAt_isD rfl hv h8 (by rw [Around.in1_units]; omega) ha w (by simpa using hw)) ⟨.bl _, H, I, rfl, ?_⟩
    rw [show its.toArray.any (isD s.heap d) = its.any (isD s.heap d) by simp, any_isD ha]
    exact q
end

section
variable {K : PySem.W.Frag} {P : Program} {w : World} {Γ Γ' : Gam} {T U : Ty} {ta tb te : TE} {t u : TT} {d e : D} {ds es : List D} {i j : Int} {b c : Bool} {x y : Str}
theorem rv_inT (h : d.depth ≤ 8) : RV (rInK K false) (tyD K d) (tyT K ds) (tyB (decide (d ∈ ds))) := fun x y H h1 h2 Q q => by
  obtain ⟨a, xs, rfl, s, t⟩ := h2
  exact ⟨d, ds, a, xs, h1, h, rfl, .inl s, t, q _ H (ExtS.refl H) rfl⟩
theorem rv_niT (h : d.depth ≤ 8) : RV (rInK K true) (tyD K d) (tyT K ds) (tyB (!decide (d ∈ ds))) := fun x y H h1 h2 Q q => by
  obtain ⟨a, xs, rfl, s, t⟩ := h2
  exact ⟨d, ds, a, xs, h1, h, rfl, .inl s, t, q _ H (ExtS.refl H) rfl⟩
theorem rv_inL (h : d.depth ≤ 8) : RV (rInK K false) (tyD K d) (tyL K ds) (tyB (decide (d ∈ ds))) := fun x y H h1 h2 Q q => by
  obtain ⟨a, xs, rfl, s, t⟩ := h2
  exact ⟨d, ds, a, xs, h1, h, rfl, .inr s.sq, t, q _ H (ExtS.refl H) rfl⟩
/-- the second operand a new list -/
theorem ev_inNew (ha : Ev ta Γ (tyD K d)) (hb : EvN K tb Γ ds) (h : d.depth ≤ 8) : Ev (tOp (rInK K false) ta tb) Γ (tyB (decide (d ∈ ds))) := fun σ H g Q q =>
  ha σ H g _ fun x H1 e1 r1 => hb σ H1 (g.imm e1.toImm) _ fun p xs H2 _ e2 hl r2 => ⟨d, ds, p, xs, r1.imm e2.toImm _ _, h, rfl, .inr (.inl (.inl hl)), r2, q _ H2 (e1.trans e2) rfl⟩
/-! slices -/
def cutD (ds : List D) (lo hi : Option Int) : List D := (ds.drop (HT.sIx ds.length 0 lo)).take (HT.sIx ds.length ds.length hi - HT.sIx ds.length 0 lo)
theorem tds_cut {H : Hp} {vs : List V} (h : Tds K H ds vs) (lo hi : Option Int) : Tds K H (cutD ds lo hi) (cutV vs lo hi) := by
  unfold cutD cutV
  rw [h.length]
  exact (h.drop _).take _
theorem ev_sl {tl th : TO} {lo hi : Option Int} (ha : Ev ta Γ (tyT K ds)) (h1 : EvO tl Γ lo) (h2 : EvO th Γ hi) : Ev (tSl (rSlA K) ta tl th) Γ (tyT K (cutD ds lo hi)) := fun σ H g Q q =>
  ha σ H g _ fun v H1 e1 r1 => h1 σ H1 (g.imm e1.toImm) _ fun H2 e2 => h2 σ H2 (g.imm (e1.trans e2).toImm) _ fun H3 e3 => by
    obtain ⟨a, xs, rfl, s, t⟩ := (tyT K ds).mono (e2.trans e3).toImm r1
    have e := (e1.trans e2).trans e3
    refine ⟨a, xs, rfl, s, fun hw => q _ H3 e ⟨a, xs, rfl, s, ?_⟩, fun hw p hp => q _ _ (e.trans (Ext.new hp)) ⟨p, _, rfl, .inl (.inl upd_same), (tds_cut t lo hi).imm (Ext.new hp).toImm _ _⟩⟩
    have : cutD ds lo hi = ds := by
      unfold cutD
      rw [← t.length, hw.1, hw.2, List.drop_zero, Nat.sub_zero, t.length, List.take_length]
    rw [this]
    exact t
theorem sIx_some {n k : Nat} (hk : k ≤ n) (d : Nat) : HT.sIx n d (some (k : Int)) = k := by rw [HT.sIx_nat]; omega
theorem cut_to {k : Nat} (hk : k ≤ ds.length) : cutD ds none (some (k : Int)) = ds.take k := by
  unfold cutD
  rw [HT.sIx_none, sIx_some hk, List.drop_zero, Nat.sub_zero]
theorem cut_from {k : Nat} (hk : k ≤ ds.length) : cutD ds (some (k : Int)) none = ds.drop k := by
  unfold cutD
  rw [HT.sIx_none, sIx_some hk]
  exact List.take_of_length_le (by simp)
/-! t + u -/
theorem rv_cat (hl : ds.length + es.length ≤ 10000) : RV (rCatA K) (tyT K ds) (tyT K es) (tyT K (ds ++ es)) := fun x y H h1 h2 Q q => by
  obtain ⟨a, xs, rfl, s, t⟩ := h1
  obtain ⟨a2, ys, rfl, s2, t2⟩ := h2
  refine ⟨a, a2, xs, ys, rfl, rfl, s, s2, by rw [t.length, t2.length, sizeLine_eq]; omega, fun e => q _ H (ExtS.refl H) ⟨a2, ys, rfl, s2, ?_⟩, fun _ e => q _ H (ExtS.refl H) ⟨a, xs, rfl, s, ?_⟩, fun _ _ p hp => q _ _ (Ext.new hp) ⟨p, _, rfl, .inl (.inl upd_same), (t.app t2).imm (Ext.new hp).toImm _ _⟩⟩
  · subst e
    have : ds = [] := List.length_eq_zero_iff.mp (by rw [← t.length]; rfl)
    rw [this]
    exact t2
  · subst e
    have : es = [] := List.length_eq_zero_iff.mp (by rw [← t2.length]; rfl)
    rw [this, List.append_nil]
    exact t
/-! calls of built-ins -/
def rLenS (K : PySem.W.Frag) : List V → Hp → VK → Prop := fun xs H Q => ∃ p ys, xs = [.ref p] ∧ (SqL K H p ys ∨ SqT K H p ys) ∧ Q (.int ys.length) H
def rListS (K : PySem.W.Frag) : List V → Hp → VK → Prop := fun xs H Q => ∃ p ys, xs = [.ref p] ∧ (SqL K H p ys ∨ SqT K H p ys) ∧ ∀ l, H l = none → Q (.ref l) (upd H l (.lst ys))
def rTupS (K : PySem.W.Frag) : List V → Hp → VK → Prop := fun xs H Q => ∃ p ys, xs = [.ref p] ∧ ((SqL K H p ys ∧ ∀ l, H l = none → Q (.ref l) (upd H l (.tup ys))) ∨ (SqT K H p ys ∧ Q (.ref p) H))
theorem cr_lenS {X : Cx} : CallR X (.builtin "len") (rLenS X.K) := call_len_seq
theorem cr_listS {X : Cx} : CallR X (.type "list") (rListS X.K) := call_list_of
theorem cr_tupS {X : Cx} : CallR X (.type "tuple") (rTupS X.K) := call_tuple_of
theorem rc_lenT : RC (rLenS K) [tyT K ds] (tyI K (ds.length : Int)) := fun vs H h Q q => by
  obtain ⟨v, r, rfl, ⟨a, xs, rfl, s, t⟩, rfl⟩ := h
  exact ⟨a, xs, rfl, .inr s, q _ H (ExtS.refl H) (by show V.int _ = V.int _; rw [t.length])⟩
theorem rc_lenL : RC (rLenS K) [tyL K ds] (tyI K (ds.length : Int)) := fun vs H h Q q => by
  obtain ⟨v, r, rfl, ⟨a, xs, rfl, s, t⟩, rfl⟩ := h
  exact ⟨a, xs, rfl, .inl s.sq, q _ H (ExtS.refl H) (by show V.int _ = V.int _; rw [t.length])⟩
/-- a call of one argument that is a new list -/
theorem ev_tupNew (h : EvN K te Γ ds) : Ev (tCB (rTupS K) (tCons te tNil)) Γ (tyT K ds) := fun σ H g Q q => h σ H g _ fun p xs H1 hp e hl r =>
  ⟨p, xs, rfl, .inl ⟨.inl (.inl hl), fun l hf => q _ _ (e.trans (Ext.new hf)) ⟨l, xs, rfl, .inl (.inl upd_same), r.imm (Ext.new hf).toImm _ _⟩⟩⟩
theorem ev_lenNew (h : EvN K te Γ ds) : Ev (tCB (rLenS K) (tCons te tNil)) Γ (tyI K (ds.length : Int)) := fun σ H g Q q => h σ H g _ fun p xs H1 hp e hl r =>
  ⟨p, xs, rfl, .inl (.inl (.inl hl)), q _ H1 e (by show V.int _ = V.int _; rw [r.length])⟩
theorem en_listT (h : Ev te Γ (tyT K ds)) : EvN K (tCB (rListS K) (tCons te tNil)) Γ ds := fun σ H g Q q => h σ H g _ fun v H1 e r => by
  obtain ⟨a, xs, rfl, s, t⟩ := r
  exact ⟨a, xs, rfl, .inr s, fun l hf => q l xs _ (e.dom l hf) (e.trans (Ext.new hf)) upd_same (t.imm (Ext.new hf).toImm _ _)⟩
theorem en_listL (h : Ev te Γ (tyL K ds)) : EvN K (tCB (rListS K) (tCons te tNil)) Γ ds := fun σ H g Q q => h σ H g _ fun v H1 e r => by
  obtain ⟨a, xs, rfl, s, t⟩ := r
  exact ⟨a, xs, rfl, .inl s.sq, fun l hf => q l xs _ (e.dom l hf) (e.trans (Ext.new hf)) upd_same (t.imm (Ext.new hf).toImm _ _)⟩
/-- sorted(t), t a tuple of ints: the one sorted list -/
theorem en_sortedT {ns ms : List Int} (h : Ev te Γ (tyT K (nums ns))) (hp : ms.Perm ns) (hs : ms.Pairwise (· ≤ ·)) : EvN K (tCB (rSortedTI K) (tCons te tNil)) Γ (nums ms) := fun σ H g Q q => h σ H g _ fun v H1 e r => by
  obtain ⟨a, xs, rfl, s, t⟩ := r
  obtain rfl := tds_nums t
  refine ⟨a, ns, rfl, s, fun ns' p hp' hs' hf => ?_⟩
  have : ns' = ms := by
    have pm : ns'.Perm ms := hp'.trans hp.symm
    exact pm.eq_of_pairwise (fun a b _ _ h1 h2 => Int.le_antisymm h1 h2) hs' hs
  subst this
  exact q p _ _ (e.dom p hf) (e.trans (Ext.new hf)) upd_same (tds_of_nums _)
/-- sorted(set(t)) -/
theorem en_sortedSet {ns ms : List Int} (h : Ev te Γ (tyT K (nums ns))) (hl : ns.length ≤ 60) (hm : ∀ k, k ∈ ms ↔ k ∈ ns) (hs : ms.Pairwise (· < ·)) : EvN K (tCB (rSortedSet w) (tCons (tCB (SO.rSetTI K w) (tCons te tNil)) tNil)) Γ (nums ms) := fun σ H g Q q => h σ H g _ fun v H1 e r => by
  obtain ⟨a, xs, rfl, s, t⟩ := r
  obtain rfl := tds_nums t
  refine ⟨a, ns, rfl, s, by omega, fun p c hc _ _ hf => ⟨p, _, c, rfl, upd_same, by omega, fun ns' p' hs' hm' hlen hf' => ?_⟩⟩
  have : ns' = ms := OSx.sorted_int_eq hs' hs fun k => by rw [hm k, hm' k]; simp
  subst this
  have e2 := e.trans (Ext.new (o := SetO w p (fun k => decide (k ∈ ns)) c) hf)
  exact q p' _ _ (e2.dom p' hf') (e2.trans (Ext.new hf')) upd_same (tds_of_nums _)
/-- len(set(t)) -/
theorem ev_lenSet {ns : List Int} (h : Ev te Γ (tyT K (nums ns))) (hl : ns.length ≤ 60) : Ev (tCB (SO.rLenSO w) (tCons (tCB (SO.rSetTI K w) (tCons te tNil)) tNil)) Γ (tyE (fun c : Nat => c ≤ ns.length ∧ (c = ns.length ↔ ns.Nodup)) fun c => tyI K (c : Int)) := fun σ H g Q q => h σ H g _ fun v H1 e r => by
  obtain ⟨a, xs, rfl, s, t⟩ := r
  obtain rfl := tds_nums t
  exact ⟨a, ns, rfl, s, by omega, fun p c hc h1 h2 hf => ⟨p, _, c, rfl, upd_same, q _ _ (e.trans (Ext.new hf)) ⟨c, ⟨hc, h2, h1⟩, rfl⟩⟩⟩
/-- sorted(set(t) | {v}) -/
theorem en_sortedOr {ns ms : List Int} {v : Int} (h : Ev te Γ (tyT K (nums ns))) (hv : Ev ta Γ (tyI K v)) (hl : ns.length ≤ 60) (hns : ∀ k ∈ ns, SO.Sm k) (hsv : SO.Sm v) (hm : ∀ k, k ∈ ms ↔ k ∈ ns ∨ k = v) (hs : ms.Pairwise (· < ·)) :
    EvN K (tCB (rSortedSet w) (tCons (tOp (SO.rOrS w) (tCB (SO.rSetTI K w) (tCons te tNil)) (SO.tDispS w ta)) tNil)) Γ (nums ms) := fun σ H g Q q => h σ H g _ fun x H1 e r => by
  obtain ⟨a, xs, rfl, s, t⟩ := r
  obtain rfl := tds_nums t
  refine ⟨a, ns, rfl, s, by omega, fun p c hc _ _ hf => fun p2 hf2 => ?_⟩
  have e1 := e.trans (Ext.new (o := SetO w p (fun k => decide (k ∈ ns)) c) hf)
  have e2 := e1.trans (Ext.new (o := SetO w p2 (fun _ => false) 0) hf2)
  have hp2 : p ≠ p2 := fun z => by rw [← z, upd_same] at hf2; cases hf2
  refine hv σ _ (g.imm e2.toImm) _ fun y H2 e3 r3 => ?_
  obtain rfl : y = .int v := r3
  have l1 : H2 p = some (SetO w p (fun k => decide (k ∈ ns)) c) := e3.keep p _ (fun z => z) (by rw [upd_ne hp2, upd_same]) (fun _ z => by cases z)
  have l2 : H2 p2 = some (SetO w p2 (fun _ => false) 0) := e3.keep p2 _ (fun z => z) upd_same (fun _ z => by cases z)
  refine ⟨v, rfl, l2, p, p2, _, c, v, rfl, rfl, by rw [upd_ne hp2]; exact l1, fun k hk => hns k (by simpa using hk), upd_same, hsv, hp2, fun p3 m hm5 hf3 => ⟨p3, _, m, rfl, upd_same, by omega, fun ns' p' hs' hm' hlen hf' => ?_⟩⟩
  have : ns' = ms := OSx.sorted_int_eq hs' hs fun k => by rw [hm k, hm' k]; simp
  subst this
  have e4 : Ext H (upd H2 p2 (SetO w p2 (fun k => decide (k = v)) 1)) := (e2.trans e3).mut l2 trivial (.inl (e1.dom p2 hf2))
  have e5 := e4.trans (Ext.new (o := SetO w p3 (fun k => decide (k ∈ ns) || decide (k = v)) m) hf3)
  exact q p' _ _ (e5.dom p' hf') (e5.trans (Ext.new hf')) upd_same (tds_of_nums _)
end
end OS
namespace OS
open PySem PySem.Spec PyProof.Rows L2 GxR
mutual
def okD : D → Bool
  | .none => true
  | .num _ => true
  | .text x => PyData.strOk x
  | .tup ks => okDs ks
def okDs : List D → Bool
  | [] => true
  | k :: ks => okD k && okDs ks
end
mutual
theorem canLay_ok : ∀ d : D, d.data.canLay0 = okD d
  | .none => by simp [NestedKey.data, PyData.canLay0, okD]
  | .num _ => by simp [NestedKey.data, PyData.canLay0, okD]
  | .text _ => by simp [NestedKey.data, PyData.canLay0, okD]
  | .tup ks => by simp only [NestedKey.data, PyData.canLay0, okD]; exact canLays_ok ks
theorem canLays_ok : ∀ ds : List D, PyData.canLayAll0 (NestedKey.datas ds) = okDs ds
  | [] => by simp [NestedKey.datas, PyData.canLayAll0, okDs]
  | d :: ds => by simp only [NestedKey.datas, PyData.canLayAll0, okDs]; rw [canLay_ok d, canLays_ok ds]
end
mutual
theorem depth_ok : ∀ d : D, d.data.depth ≤ d.depth
  | .none => by simp [NestedKey.data, PyData.depth]
  | .num _ => by simp [NestedKey.data, PyData.depth]
  | .text _ => by simp [NestedKey.data, PyData.depth]
  | .tup ks => by
    have := depths_ok ks
    simp only [NestedKey.data, PyData.depth, NestedKey.depth]
    omega
theorem depths_ok : ∀ ds : List D, PyData.depthAll (NestedKey.datas ds) ≤ NestedKey.depthAll ds
  | [] => by simp [NestedKey.datas, PyData.depthAll]
  | d :: ds => by
    have h1 := depth_ok d
    have h2 := depths_ok ds
    simp only [NestedKey.datas, PyData.depthAll, NestedKey.depthAll]
    omega
end
theorem shaped_D {d : D} (h : okD d = true) (h8 : d.depth ≤ 8) : SeqAt.shaped d.data = true := by
  unfold SeqAt.shaped
  rw [canLay_ok, h, Bool.true_and, decide_eq_true_eq]
  have := depth_ok d
  omega
section
variable {K : PySem.W.Frag} {P : Program} {w : World} {Γ Γ' : Gam} {T U : Ty} {ta tb te : TE} {t u : TT} {d e : D} {ds es : List D} {i j : Int} {b c : Bool} {x y : Str} {σ : L2.St} {H : Hp} {Dd : Ends} {tu tw tz : TS}
/-- data compared -/
structure Sh8 (d : D) : Prop where
  ok : okD d = true
  dp : d.depth ≤ 8
theorem Sh8.num : Sh8 (.num i) := ⟨rfl, Nat.zero_le _⟩
theorem Sh8.none : Sh8 .none := ⟨rfl, Nat.zero_le _⟩
theorem Sh8.text (h : PyData.strOk x = true) : Sh8 (.text x) := ⟨h, Nat.zero_le _⟩
theorem et_test (h : Ev te Γ (tyB b)) : EvT (tTest te) Γ b := fun σ H g Q q => h σ H g _ fun v H1 e r => ⟨b, r, q H1 e⟩
theorem ev_eq (ha : Ev ta Γ (tyD K d)) (hb : Ev tb Γ (tyD K e)) (h1 : Sh8 d) (h2 : Sh8 e) : Ev (tOp (rEqD K) ta tb) Γ (tyB (decide (d = e))) := ev_op ha hb (rv_eq (shaped_D h1.ok h1.dp) (shaped_D h2.ok h2.dp))
theorem ev_ne (ha : Ev ta Γ (tyD K d)) (hb : Ev tb Γ (tyD K e)) (h1 : Sh8 d) (h2 : Sh8 e) : Ev (tOp (rNeD K) ta tb) Γ (tyB (!decide (d = e))) := ev_op ha hb (rv_ne (shaped_D h1.ok h1.dp) (shaped_D h2.ok h2.dp))
theorem et_eq (ha : Ev ta Γ (tyD K d)) (hb : Ev tb Γ (tyD K e)) (h1 : Sh8 d) (h2 : Sh8 e) : EvT (tTest (tOp (rEqD K) ta tb)) Γ (decide (d = e)) := et_test (ev_eq ha hb h1 h2)
theorem et_ne (ha : Ev ta Γ (tyD K d)) (hb : Ev tb Γ (tyD K e)) (h1 : Sh8 d) (h2 : Sh8 e) : EvT (tTest (tOp (rNeD K) ta tb)) Γ (!decide (d = e)) := et_test (ev_ne ha hb h1 h2)
/-- t[i], i written -/
theorem ev_ix {k : Int} (ha : Ev ta Γ (tyT K ds)) (h : atI ds k = some d) : Ev (tOp (rIxT K) ta (tC (.int k))) Γ (tyD K d) := ev_op ha ev_i (rv_ixT h)
theorem ev_ixL {k : Int} (ha : Ev ta Γ (tyL K ds)) (hb : Ev tb Γ (tyI K k)) (h : atI ds k = some d) : Ev (tOp (rIxL K) ta tb) Γ (tyD K d) := ev_op ha hb (rv_ixL h)
theorem ev_ixT {k : Int} (ha : Ev ta Γ (tyT K ds)) (hb : Ev tb Γ (tyI K k)) (h : atI ds k = some d) : Ev (tOp (rIxT K) ta tb) Γ (tyD K d) := ev_op ha hb (rv_ixT h)
theorem q_yes (s : Sty Γ σ H) (h : EvT t Γ true) (k : ∀ H', Ext H H' → Sty Γ σ H' → tu { Dd with nx := tz Dd } σ H') : tSeq (tIfS t tu tw) tz Dd σ H := q_if s h (fun _ => k) fun z => by cases z
theorem q_no (s : Sty Γ σ H) (h : EvT t Γ false) (k : ∀ H', Ext H H' → Sty Γ σ H' → tw { Dd with nx := tz Dd } σ H') : tSeq (tIfS t tu tw) tz Dd σ H := q_if s h (fun z => by cases z) fun _ => k
/-- a value called: one of these defs -/
def tCallF (fs : List (Addr × Sp)) (tf : TE) (t : TA) : TE := fun σ H Q => tf σ H fun v H1 => ∃ f sp, (f, sp) ∈ fs ∧ v = .ref f ∧ t σ H1 fun vs H2 => sp vs H2 Q E0
theorem ev_callF {fs : List (Addr × Sp)} {f : Addr} {tb : List Addr} {F : List Ty → Ty → Prop} {ta' : TA} {Ts : List Ty} (hf : Ev ta Γ (tyR f)) (hm : (f, Pm tb F) ∈ fs) (h : EvA ta' Γ Ts) (hF : F Ts T) (ht : ∀ P ∈ tb, P ∈ Γ.tb) : Ev (tCallF fs ta ta') Γ T := fun σ H s Q q => hf σ H s _ fun v H1 e1 r1 =>
  ⟨f, _, hm, r1, h σ H1 (s.imm e1.toImm) _ fun vs H2 e r => ⟨Ts, T, hF, r, fun P hP => (e1.trans e).tab P (s.tab P (ht P hP)), fun v H3 e2 r2 => q v H3 ((e1.trans e).trans e2) r2⟩⟩
end
end OS

end

section
set_option maxHeartbeats 4000000
/-! A def of the text: its promise, by its body. -/
namespace OS
open PySem PySem.Spec PyProof.Rows L2 GxR

/-- a def of the module as it stands behind the top; cdv: its code object -/
structure FunC (K : PySem.W.Frag) (mg : Str → Option Value) (x : Str) (st : Stmt) (f : Addr) (fd : FuncData) (cdv : Value) : Prop where
  ex : ∃ (oc : Value) (od : Option Addr) (kV doc pm : Value) (an : Option Addr) (ct : Value) (osl : Array (Option Value)),
    fd = PySem.W.fnOf x x (defArgs st) (defBody st) (defScope st) .none kV doc pm an cdv ct ∧ K.lookup f = some ⟨oc, od, .func fd, osl⟩ ∧ PySem.W.codeIn K cdv x = true
  kp : PySem.W.keepIn K (.ref f) = true
  mgf : mg x = some (.ref f)
/-- a def that may be called by its name -/
structure Cal (P : Program) (w : World) (K : PySem.W.Frag) (mg : Str → Option Value) (base : Heap) (k : Nat) (x : Str) (sp : Sp) : Prop where
  ex : ∃ (f : Addr) (fd : FuncData) (ps : List Str), FnOk P w K mg base CX0 k f fd ps sp ∧ mg x = some (.ref f) ∧ PySem.W.keepIn K (.ref f) = true ∧ Binds K fd ps []
/-- .. by its address -/
structure CalAt (P : Program) (w : World) (K : PySem.W.Frag) (mg : Str → Option Value) (base : Heap) (k : Nat) (f : Addr) (sp : Sp) : Prop where
  ex : ∃ (fd : FuncData) (ps : List Str), FnOk P w K mg base CX0 k f fd ps sp ∧ PySem.W.keepIn K (.ref f) = true ∧ Binds K fd ps []
abbrev cx (P : Program) (w : World) (K : PySem.W.Frag) (mg : Str → Option Value) (base : Heap) (N : List Str) (x : Str) (st : Stmt) (f : Addr) (cdv : Value) (A : Around) (outer : List Env) (s : Shared) (H : Hp) (E : XK) : Cx :=
  (cxOf CX0 P w K mg base N x (defScope st) f cdv A outer s H E).nox
section
variable {P : Program} {w : World} {K : PySem.W.Frag} {mg : Str → Option Value} {base : Heap}
theorem fnok1 {x : Str} {st : Stmt} {f : Addr} {fd : FuncData} {cdv : Value} {N ps : List Str} {k : Nat} {sp : Sp} {t : TS} (F : FunC K mg x st f fd cdv) (S : FnScope N ps (defScope st)) (len : ∀ vs H Q E, sp vs H Q E → vs.length = ps.length)
    (hps : ∀ (A : Around) (outer : List Env) (s : Shared) (H : Hp) (E : XK), Room k (A.deeper (envOfC x (defScope st) s.heap.objs.size f cdv)) → PSs (cx P w K mg base N x st f cdv A outer s H E) (defBody st) t)
    (hb : ∀ vs H Q E, sp vs H Q E → t { nx := fun _ H' => Q .non H', rt := Q } (L2.start N vs) H) : FnOk P w K mg base CX0 (k + 1) f fd ps sp := by
  obtain ⟨oc, od, kV, doc, pm, an, ct, osl, rfl, lk, hcd⟩ := F.ex
  refine fn_of lk hcd S len fun A outer s H vs Q E hr hsp => ?_
  exact ⟨t, (hps A outer s H E hr).nox, hb vs H Q E hsp⟩
theorem pm_len {tb : List Addr} {F : List Ty → Ty → Prop} {n : Nat} (h : ∀ Ts T, F Ts T → Ts.length = n) : ∀ vs H Q E, Pm tb F vs H Q E → vs.length = n := fun vs H Q E ⟨Ts, T, h1, h2, _⟩ => (alls_len h2).trans (h Ts T h1)
/-- THE RULE of a def -/
theorem cal1 {x : Str} {st : Stmt} {f : Addr} {fd : FuncData} {cdv : Value} {N ps : List Str} {k : Nat} {tb : List Addr} {Fp : List Ty → Ty → Prop} {t : TS} (F : FunC K mg x st f fd cdv) (b : Binds K fd ps []) (S : FnScope N ps (defScope st)) (len : ∀ Ts T, Fp Ts T → Ts.length = ps.length)
    (hps : ∀ (A : Around) (outer : List Env) (s : Shared) (H : Hp) (E : XK), Room k (A.deeper (envOfC x (defScope st) s.heap.objs.size f cdv)) → PSs (cx P w K mg base N x st f cdv A outer s H E) (defBody st) t)
    (hb : ∀ Ts T, Fp Ts T → Bd t ⟨tb, Ts.map some ++ List.replicate (N.length - Ts.length) none⟩ T) : Cal P w K mg base (k + 1) x (Pm tb Fp) :=
  ⟨f, fd, ps, fnok1 F S (pm_len len) hps fun _ _ _ _ h => pm_body (k := 0) hb h, F.mgf, F.kp, b⟩
theorem FunC.binds {x : Str} {st : Stmt} {f : Addr} {fd : FuncData} {cdv : Value} {ps : List Str} (F : FunC K mg x st f fd cdv)
    (h : ∀ (kV doc pm : Value) (an : Option Addr) (cdv ct : Value) (us : List Value), us.length = ps.length → bindArgs (PySem.W.fnOf x x (defArgs st) (defBody st) (defScope st) .none kV doc pm an cdv ct) ⟨us, []⟩ = pure (ps.zip us)) : Binds K fd ps [] := by
  obtain ⟨oc, od, kV, doc, pm, an, ct, osl, rfl, lk, hcd⟩ := F.ex
  exact .all (h kV doc pm an cdv ct)
theorem FunC.kds {x : Str} {st : Stmt} {f : Addr} {fd : FuncData} {cdv : Value} (F : FunC K mg x st f fd cdv) : PySem.W.kdsCode K cdv = true := by
  obtain ⟨oc, od, kV, doc, pm, an, ct, osl, rfl, lk, hcd⟩ := F.ex
  exact kdsCode_of hcd
end
section
variable {X : Cx} {k j : Nat} {x : Str} {sp : Sp} {p pos : Pos} {e : Expr} {es : List Expr} {t : TA}
theorem pe_c (c : Cal X.prog X.w X.K X.mg X.base k x sp) (hr : Room j X.A) (hk : k ≤ j) (hg : Gl X x) (ha : PA X (e :: es) t)
    (hdb : (x == ("__debug__" : Str)) = false := by decide) (he : starEach (e :: es) X.env = (false, eval e X.env) :: starEach es X.env := by rfl) (hpl : (backTo pos (starEach es X.env)).any (·.1) = false := by rfl) :
    PE X (.Call (.Name x p) (e :: es) [] pos) (tCall sp [] E0 t) := by
  obtain ⟨f, fd, ps, F, hm, kp, b⟩ := c.ex
  exact pe_call F (hr.mono hk) hg hm kp b .nil (pass0 (X := X)) ha hdb he hpl
end
end OS

end

section
set_option maxHeartbeats 4000000
/-! Histories, operations, positions as data. -/
namespace OS
open PySem OSx

def cliS (c : Nat) : Str := match c with | 0 => "c" | 1 => "d" | _ => "e2"
def objS (o : Nat) : Str := match o with | 0 => "a1" | 1 => "q" | _ => "zz"
def kindS : OSx.Kind → Str | .reg => "register" | .cnt => "counter" | .set => "set" | .que => "queue"
def actS : OSx.Act → Str
  | .write _ => "write" | .read => "read" | .swap _ _ => "swap" | .add _ => "add" | .get => "get" | .insert _ => "insert" | .remove _ => "remove" | .has _ => "has" | .put _ => "put" | .take => "take"
def resD : Res → D | .int i => .num i | .ok => .text "ok" | .yes => .text "yes" | .no => .text "no" | .empty => .text "empty"
def stD : St1 → D | .n i => .num i | .l xs => .tup (nums xs)
def argsD (a : OSx.Act) : D := .tup (nums a.args)
def evD : OSx.Ev → D
  | .call c o a => .tup [.text "call", .text (cliS c), .text (objS o), .text (actS a), argsD a]
  | .ret c r => .tup [.text "return", .text (cliS c), resD r]
def objsD (ks : List OSx.Kind) : List D := ks.zipIdx.map fun p => .tup [.text (objS p.2), .text (kindS p.1)]
def histD (h : Hist) : D := .tup [.tup (objsD h.ks), .tup (h.ev.map evD)]
def optD (o : Option Nat) : D := match o with | none => .none | some n => .num (n : Int)
def ropD (r : Option Res) : D := match r with | none => .none | some r => resD r
def opD (op : Op) : D := .tup [.text (cliS op.c), .text (objS op.o), .text (actS op.a), argsD op.a, ropD op.r, .num (op.called : Int), optD op.ret]
def opsD (l : List Op) : List D := l.map opD
def statesD (s : List St1) : D := .tup (s.map stD)
abbrev nats (l : List Nat) : List Int := l.map fun (n : Nat) => (n : Int)
def posD (q : Pos (List St1)) : D := .tup [.tup (nums (nats q.1)), statesD q.2]
def modS (m : Bool) : Str := if m then "real" else "client"

theorem cliS_inj {c d : Nat} (hc : c < 3) (hd : d < 3) (h : cliS c = cliS d) : c = d := by
  match c, d, hc, hd with
  | 0, 0, _, _ => rfl
  | 1, 1, _, _ => rfl
  | 2, 2, _, _ => rfl
  | 0, 1, _, _ => exact absurd h (by decide +kernel)
  | 0, 2, _, _ => exact absurd h (by decide +kernel)
  | 1, 0, _, _ => exact absurd h (by decide +kernel)
  | 1, 2, _, _ => exact absurd h (by decide +kernel)
  | 2, 0, _, _ => exact absurd h (by decide +kernel)
  | 2, 1, _, _ => exact absurd h (by decide +kernel)
theorem objS_inj {c d : Nat} (hc : c < 3) (hd : d < 3) (h : objS c = objS d) : c = d := by
  match c, d, hc, hd with
  | 0, 0, _, _ => rfl
  | 1, 1, _, _ => rfl
  | 2, 2, _, _ => rfl
  | 0, 1, _, _ => exact absurd h (by decide +kernel)
  | 0, 2, _, _ => exact absurd h (by decide +kernel)
  | 1, 0, _, _ => exact absurd h (by decide +kernel)
  | 1, 2, _, _ => exact absurd h (by decide +kernel)
  | 2, 0, _, _ => exact absurd h (by decide +kernel)
  | 2, 1, _, _ => exact absurd h (by decide +kernel)
theorem resD_inj {a b : Res} : resD a = resD b ↔ a = b := by
  constructor
  · intro h
    cases a <;> cases b <;> first | rfl | (simp only [resD] at h; injection h with h; subst h; rfl) | (simp only [resD] at h; injection h with h; exact absurd h (by decide +kernel)) | (simp only [resD] at h; cases h)
  · rintro rfl; rfl
theorem nums_inj : ∀ {a b : List Int}, nums a = nums b ↔ a = b
  | [], [] => by simp
  | [], _ :: _ => by simp
  | _ :: _, [] => by simp
  | x :: a, y :: b => by
    have ih := nums_inj (a := a) (b := b)
    show NestedKey.num x :: nums a = NestedKey.num y :: nums b ↔ _
    rw [List.cons.injEq, List.cons.injEq, ih, NestedKey.num.injEq]
theorem stD_inj {a b : St1} : stD a = stD b ↔ a = b := by
  cases a <;> cases b <;> simp only [stD, NestedKey.num.injEq, NestedKey.tup.injEq, St1.n.injEq, St1.l.injEq, nums_inj, reduceCtorEq]
theorem statesD_inj : ∀ {a b : List St1}, a.map stD = b.map stD ↔ a = b
  | [], [] => by simp
  | [], _ :: _ => by simp
  | _ :: _, [] => by simp
  | x :: a, y :: b => by rw [List.map_cons, List.map_cons, List.cons.injEq, List.cons.injEq, stD_inj, statesD_inj]
theorem nats_inj {a b : List Nat} : nats a = nats b ↔ a = b := by
  constructor
  · intro h
    have : (nats a).map Int.toNat = (nats b).map Int.toNat := by rw [h]
    simpa [nats, List.map_map, Function.comp_def] using this
  · rintro rfl; rfl
theorem posD_inj {a b : Pos (List St1)} : posD a = posD b ↔ a = b := by
  obtain ⟨p, s⟩ := a
  obtain ⟨q, t⟩ := b
  simp only [posD, statesD, NestedKey.tup.injEq, List.cons.injEq, and_true, Prod.mk.injEq]
  rw [nums_inj, nats_inj, statesD_inj]
theorem mem_nats {n : Nat} {l : List Nat} : (n : Int) ∈ nats l ↔ n ∈ l := by
  simp only [nats, List.mem_map]
  constructor
  · rintro ⟨a, ha, e⟩
    have : a = n := by omega
    exact this ▸ ha
  · intro h
    exact ⟨n, h, rfl⟩
theorem mem_nums {i : Int} {l : List Int} : (NestedKey.num i) ∈ nums l ↔ i ∈ l := by simp [nums]
theorem depth_nums (l : List Int) : NestedKey.depthAll (nums l) = 0 := by
  induction l with
  | nil => rfl
  | cons a l ih => show max 0 (NestedKey.depthAll (nums l)) = 0; rw [ih]; rfl
theorem depth_st (s : St1) : (stD s).depth ≤ 1 := by
  cases s with
  | n i => show 0 ≤ 1; omega
  | l xs => show NestedKey.depthAll (nums xs) + 1 ≤ 1; rw [depth_nums]; omega
theorem depth_states : ∀ s : List St1, NestedKey.depthAll (s.map stD) ≤ 1
  | [] => by show 0 ≤ 1; omega
  | x :: s => by
    have h1 := depth_st x
    have h2 := depth_states s
    show max (stD x).depth (NestedKey.depthAll (s.map stD)) ≤ 1
    omega
theorem depth_pos (q : Pos (List St1)) : (posD q).depth ≤ 3 := by
  have h1 := depth_states q.2
  have h2 := depth_nums (nats q.1)
  show max (NestedKey.depthAll (nums (nats q.1)) + 1) (max (NestedKey.depthAll (q.2.map stD) + 1) 0) + 1 ≤ 3
  omega
theorem objsD_get {ks : List OSx.Kind} {j : Nat} {k : OSx.Kind} (h : ks[j]? = some k) : (objsD ks)[j]? = some (.tup [.text (objS j), .text (kindS k)]) := by
  unfold objsD
  rw [List.getElem?_map, List.getElem?_zipIdx, h]
  simp
theorem objsD_len (ks : List OSx.Kind) : (objsD ks).length = ks.length := by simp [objsD]
end OS

end

section
set_option maxHeartbeats 4000000
/-! The text by places; names of built-ins; a written dict; a called value of a dict. -/
namespace OS
open PySem PySem.Spec PyProof.Rows L2 GxR

def top (i : Nat) : Stmt := PySem.Challenge.pw_ordershown_k10_whole_an_order_or_a_table.main.body.getD i (.Pass ⟨0, 0, 0, 0⟩)
structure Nm (mg : Str → Option Value) : Prop where
  n_len : mg "len" = none
  n_sorted : mg "sorted" = none
  n_tuple : mg "tuple" = none
  n_set : mg "set" = none
  n_list : mg "list" = none
  n_int : mg "int" = none
  n_isinstance : mg "isinstance" = none
  n_min : mg "min" = none
  n_max : mg "max" = none
  n_dict : mg "dict" = none
  n_all : mg "all" = none
  n_range : mg "range" = none
  n_enumerate : mg "enumerate" = none
  n_zip : mg "zip" = none
theorem boot_set : bootBuiltins "set" = some (.type "set") := by decide +kernel
theorem boot_int : bootBuiltins "int" = some (.type "int") := by decide +kernel
theorem boot_dict : bootBuiltins "dict" = some (.type "dict") := by decide +kernel
theorem boot_all : bootBuiltins "all" = some (.builtin "all") := by decide +kernel
theorem boot_min : bootBuiltins "min" = some (.builtin "min") := by decide +kernel
theorem boot_max : bootBuiltins "max" = some (.builtin "max") := by decide +kernel
theorem boot_isinstance : bootBuiltins "isinstance" = some (.builtin "isinstance") := by decide +kernel

section
variable {K : PySem.W.Frag} {w : World} {Γ : Gam} {te ta : TE}
theorem rv_kd {p : Addr} {z : Str} {v : V} {T : Ty} (h : KDct K w p z v) (hT : ∀ H, T.is v H) : RV (rIxD K w) (tyR p) (tyS K z) T := fun x y H h1 h2 Q q =>
  ⟨p, z, v, h1, h2, h, q v H (ExtS.refl H) (hT H)⟩
theorem ev_ref {p : Addr} : Ev (tC (.ref p)) Γ (tyR p) := ev_c fun _ => rfl
end
section
variable {X : Cx} {k j : Nat} {fs : List (Addr × Sp)} {e f : Expr} {es : List Expr} {tf : TE} {t : TA} {pos : Pos}
theorem pe_callF (hfs : ∀ p ∈ fs, CalAt X.prog X.w X.K X.mg X.base k p.1 p.2) (hr : Room j X.A) (hk : k ≤ j) (hf : PE X f tf) (ha : PA X (e :: es) t)
    (he : starEach (e :: es) X.env = (false, eval e X.env) :: starEach es X.env := by rfl) (hpl : (backTo pos (starEach es X.env)).any (·.1) = false := by rfl)
    (hc : eval (.Call f (e :: es) [] pos) X.env = (do callWith pos (← eval f X.env) [] (backTo pos (starEach (e :: es) X.env)) (backToKw pos (keywordEach [] X.env))) := by rfl) :
    PE X (.Call f (e :: es) [] pos) (tCallF fs tf t) := by
  refine ⟨fun pins s σ H Q I h => Call_ (he := hc) (thn (hf.run pins s σ H _ I h) fun u s1 ⟨v, H1, I1, r, g, sp, hm, ev, q⟩ => ?_)⟩
  subst ev
  obtain rfl : u = Value.ref g := r
  obtain ⟨fd, ps, F, kp, b⟩ := (hfs _ hm).ex
  refine PySem.W.callWith_K (h₀ := X.base) I1.ok.mod.kin kp (thn (ha.run pos pins s1 σ H1 _ I1 q) fun us s2 ⟨vs, H2, I2, r2, q2⟩ => ⟨I2.kIn, ?_⟩) he hpl
  exact run_fn F (hr.mono hk) b .nil (pass0 (X := X)) I2 r2 (by rw [List.append_nil]; exact q2)
end
/-! the rules with K, w, P told -/
theorem k_ix_tup {X : Cx} (K : PySem.W.Frag)  (hK : X.K = K := by rfl) : IxR X (rIxT K) := by subst hK; exact ix_tup
theorem k_ix_list {X : Cx} (K : PySem.W.Frag)  (hK : X.K = K := by rfl) : IxR X (rIxL K) := by subst hK; exact ix_list
theorem k_ix_kdict {X : Cx} (K : PySem.W.Frag) (w : World)  (hK : X.K = K := by rfl) (hw : X.w = w := by rfl) : IxR X (rIxD K w) := by subst hK; subst hw; exact ix_kdict
theorem k_op_eqD {X : Cx} (K : PySem.W.Frag) (hu : X.A.units + 64 < cLine) (hK : X.K = K := by rfl) : OpR X (compareOp .Eq) (rEqD K) := by subst hK; exact op_eqD hu
theorem k_op_neD {X : Cx} (K : PySem.W.Frag) (hu : X.A.units + 64 < cLine) (hK : X.K = K := by rfl) : OpR X (compareOp .NotEq) (rNeD K) := by subst hK; exact op_neD hu
theorem k_op_inK {X : Cx} (K : PySem.W.Frag) (hu : X.A.units + 64 < cLine) (hK : X.K = K := by rfl) : OpR X (compareOp .In) (rInK K false) := by subst hK; exact op_inK hu
theorem k_op_notInK {X : Cx} (K : PySem.W.Frag) (hu : X.A.units + 64 < cLine) (hK : X.K = K := by rfl) : OpR X (compareOp .NotIn) (rInK K true) := by subst hK; exact op_notInK hu
theorem k_op_inN {X : Cx} (P : Program) (w : World) (K : PySem.W.Frag) (hu : X.A.units + 64 < cLine) (hP : X.prog = P := by rfl) (hw : X.w = w := by rfl) (hK : X.K = K := by rfl) : OpR X (compareOp .In) (rInN P w K false) := by subst hP; subst hw; subst hK; exact op_inN hu
theorem k_op_notInN {X : Cx} (P : Program) (w : World) (K : PySem.W.Frag) (hu : X.A.units + 64 < cLine) (hP : X.prog = P := by rfl) (hw : X.w = w := by rfl) (hK : X.K = K := by rfl) : OpR X (compareOp .NotIn) (rInN P w K true) := by subst hP; subst hw; subst hK; exact op_notInN hu
theorem k_set_N {X : Cx} (P : Program) (w : World) (K : PySem.W.Frag) (hu : X.A.units + 64 < cLine) (hP : X.prog = P := by rfl) (hw : X.w = w := by rfl) (hK : X.K = K := by rfl) : PSet X (rSetN P w K) := by subst hP; subst hw; subst hK; exact set_N hu
theorem k_op_catA {X : Cx} (K : PySem.W.Frag)  (hK : X.K = K := by rfl) : OpR X (binaryOp .Add) (rCatA K) := by subst hK; exact op_catA
theorem k_sl_tupA {X : Cx} (K : PySem.W.Frag)  (hK : X.K = K := by rfl) : SlR X (rSlA K) := by subst hK; exact sl_tupA
theorem k_sl_list {X : Cx} (K : PySem.W.Frag)  (hK : X.K = K := by rfl) : SlR X (rSlL K) := by subst hK; exact sl_list
theorem k_mt_index {X : Cx} (K : PySem.W.Frag)  (hK : X.K = K := by rfl) : MtR X "list.index" (rIndex K) := by subst hK; exact mt_index
theorem k_cr_lenS {X : Cx} (K : PySem.W.Frag)  (hK : X.K = K := by rfl) : CallR X (.builtin "len") (rLenS K) := by subst hK; exact cr_lenS
theorem k_cr_listS {X : Cx} (K : PySem.W.Frag)  (hK : X.K = K := by rfl) : CallR X (.type "list") (rListS K) := by subst hK; exact cr_listS
theorem k_cr_tupS {X : Cx} (K : PySem.W.Frag)  (hK : X.K = K := by rfl) : CallR X (.type "tuple") (rTupS K) := by subst hK; exact cr_tupS
theorem k_cr_sortedTI {X : Cx} (K : PySem.W.Frag)  (hK : X.K = K := by rfl) : CallR X (.builtin "sorted") (rSortedTI K) := by subst hK; exact cr_sortedTI
theorem k_cr_sortedI {X : Cx} (K : PySem.W.Frag)  (hK : X.K = K := by rfl) : CallR X (.builtin "sorted") (rSortedI K) := by subst hK; exact cr_sortedI
theorem k_cr_sortedSet {X : Cx} (w : World) (hc : X.calm = true) (hw : X.w = w := by rfl) : CallR X (.builtin "sorted") (rSortedSet w) := by subst hw; exact cr_sortedSet hc
theorem k_cr_sortedN {X : Cx} (P : Program) (w : World) (K : PySem.W.Frag) (hc : X.calm = true) (hu : X.A.units + 64 < cLine) (hP : X.prog = P := by rfl) (hw : X.w = w := by rfl) (hK : X.K = K := by rfl) : CallR X (.builtin "sorted") (rSortedN P w K) := by subst hP; subst hw; subst hK; exact cr_sortedN hc hu
theorem k_op_orS {X : Cx} (w : World)  (hw : X.w = w := by rfl) : OpR X (binaryOp .BitOr) (SO.rOrS w) := by subst hw; exact SO.op_orS
theorem k_cr_setTI {X : Cx} (K : PySem.W.Frag) (w : World) (hc : X.calm = true) (hK : X.K = K := by rfl) (hw : X.w = w := by rfl) : CallR X (.type "set") (SO.rSetTI K w) := by subst hK; subst hw; exact SO.cr_setTI hc
theorem k_cr_lenSO {X : Cx} (w : World)  (hw : X.w = w := by rfl) : CallR X (.builtin "len") (SO.rLenSO w) := by subst hw; exact SO.cr_lenSO
theorem k_call_isi {X : Cx} (K : PySem.W.Frag)  (hK : X.K = K := by rfl) : CallR X (.builtin "isinstance") (rIsi K) := by subst hK; exact call_isi
theorem k_pe_dispS {X : Cx} (w : World) {e : Expr} {te : TE} {pos : Pos} (hcd : PySem.W.kdsCode X.K X.env.code = true) (he : PE X e te) (hs : starEach [e] X.env = [(false, eval e X.env)] := by rfl) (hw : X.w = w := by rfl) : PE X (.Set [e] 0 pos) (SO.tDispS w te) := by subst hw; exact SO.pe_dispS hcd he (hs := hs)
theorem k_pi_tup {X : Cx} (K : PySem.W.Frag) {tg l : Expr} {tl : TE} (hl : PE X l tl) (hK : X.K = K := by rfl) : PI X tg l (iTup K tl) := by subst hK; exact pi_tup hl
theorem k_pi_list {X : Cx} (K : PySem.W.Frag) {tg l : Expr} {tl : TE} (hl : PE X l tl) (hK : X.K = K := by rfl) : PI X tg l (iList K tl) := by subst hK; exact pi_list hl
theorem k_pg_tup {X : Cx} (K : PySem.W.Frag) {es : List Expr} {k : Nat} {pos : Pos} {t : TGs} {n : Nat} (hc : X.calm = true) (h : PGs X es t) (hn : (assignEach es X.env).length = n := by rfl) (hst : (assignEach es X.env).findIdx? (·.1) = none := by rfl) (hK : X.K = K := by rfl) : PG X (.Tuple es k pos) (gTup K n t) := by subst hK; exact pg_tup hc h (hn := hn) (hst := hst)
theorem k_pi_enumT {X : Cx} (K : PySem.W.Frag) {e : Expr} {ta : TA} {p pos tpos : Pos} {elts : List Expr} {kk : Nat} (hg : Gl X "enumerate") (hm : X.mg "enumerate" = none) (ha : PA X [e] ta) (hs : starEach [e] X.env = [(false, eval e X.env)] := by rfl) (hK : X.K = K := by rfl) : PI X (.Tuple elts kk tpos) (.Call (.Name "enumerate" p) [e] [] pos) (iEnumT K ta) := by subst hK; exact pi_enumT hg hm ha (hs := hs)
theorem k_pi_zipTL {X : Cx} (K : PySem.W.Frag) {e e2 : Expr} {ta : TA} {p pos tpos : Pos} {elts : List Expr} {kk : Nat} (hg : Gl X "zip") (hm : X.mg "zip" = none) (ha : PA X [e, e2] ta) (hs : starEach [e, e2] X.env = (false, eval e X.env) :: starEach [e2] X.env := by rfl) (hpl : (backTo pos (starEach [e2] X.env)).any (·.1) = false := by rfl) (hK : X.K = K := by rfl) : PI X (.Tuple elts kk tpos) (.Call (.Name "zip" p) [e, e2] [] pos) (iZipTL K ta) := by subst hK; exact pi_zipTL hg hm ha (hs := hs) (hpl := hpl)
theorem k_pe_dnewN {X : Cx} (P : Program) (w : World) {pos : Pos} (hP : X.prog = P := by rfl) (hw : X.w = w := by rfl) : PE X (.Dict [] [] pos) (tDNewN P w) := by subst hP; subst hw; exact pe_dnewN
theorem k_pe_dispN {X : Cx} (P : Program) (w : World) (K : PySem.W.Frag) {k v : Expr} {tk tv : TE} {pos : Pos} (hu : X.A.units + 64 < cLine) (hk : PE X k tk) (hv : PE X v tv) (hP : X.prog = P := by rfl) (hw : X.w = w := by rfl) (hK : X.K = K := by rfl) : PE X (.Dict [some k] [v] pos) (tDispN P w K tk tv) := by subst hP; subst hw; subst hK; exact pe_dispN hu hk hv

theorem k_pe_dcN {X : Cx} (P : Program) (w : World) (K : PySem.W.Frag) {kx vx tg iter : Expr} {ifs : List Expr} {scope : Scope} {own : List (Str × Nat)} {pos : Pos} {wi : TI} {g : TG} {tt : TT} {tk tv : TE} (hu : X.A.units + 64 < cLine) (hc : X.calm = true) (hN : X.N.Nodup) (hi : PI X tg iter wi) (ok : BlkOk X.N X.env.scope scope own)
    (hg : ∀ (s : Shared) (H : Hp) (C : Addr) (cl : List (Str × Addr)) (fp : List Addr), PG (X.blk s H scope (compEnvC scope cl C X.env) fp) tg g) (ht : ∀ (s : Shared) (H : Hp) (C : Addr) (cl : List (Str × Addr)) (fp : List Addr), PTs (X.blk s H scope (compEnvC scope cl C X.env) fp) ifs tt)
    (hk : ∀ (s : Shared) (H : Hp) (C : Addr) (cl : List (Str × Addr)) (fp : List Addr), PE (X.blk s H scope (compEnvC scope cl C X.env) fp) kx tk)
    (he : ∀ (s : Shared) (H : Hp) (C : Addr) (cl : List (Str × Addr)) (fp : List Addr), PE (X.blk s H scope (compEnvC scope cl C X.env) fp) vx tv) (hs : ∀ x, foldedSetIterable iter X.env x = pure x := by intro _; rfl) (hP : X.prog = P := by rfl) (hw : X.w = w := by rfl) (hK : X.K = K := by rfl) :
    PE X (.DictComp kx vx [⟨tg, iter, ifs, 0⟩] scope pos) (tDcN P w K wi g tt tk tv (own.map (·.2))) := by subst hP; subst hw; subst hK; exact pe_dcN hu hc hN hi ok hg ht hk he hs
section
variable {X : Cx} {o e : Expr} {es : List Expr} {to : TE} {t : TA} {apos cpos : Pos}
theorem k_append (K : PySem.W.Frag) (ho : PE X o to) (ha : PA X (e :: es) t) (hbase : attributeBase o "append" X.env (eval o X.env) = eval o X.env := by rfl)
    (hfew : ((backTo cpos (starEach (e :: es) X.env)).all (fun x => !x.1) && (backToKw cpos (keywordEach [] X.env)).all (fun x => x.1.isSome)
      && decide ((e :: es).length + ([] : List Keyword).length + (if ([] : List Keyword).isEmpty then 0 else 1) < 30)) = true := by rfl)
    (hline : (apos.endLine == cpos.line) = true := by rfl) (hs : starEach (e :: es) X.env = (false, eval e X.env) :: starEach es X.env := by rfl) (hplain : (backTo cpos (starEach es X.env)).any (·.1) = false := by rfl) (hK : X.K = K := by rfl) :
    PE X (.Call (.Attribute o "append" apos) (e :: es) [] cpos) (tBM K "list" rAppend to t) := by subst hK; exact pe_bm PySem.F.plainAttrs_list PySem.F.slot_list_append PySem.F.type_list_append mt_append ho ha hbase hfew hline hs hplain
theorem k_index (K : PySem.W.Frag) (ho : PE X o to) (ha : PA X (e :: es) t) (hbase : attributeBase o "index" X.env (eval o X.env) = eval o X.env := by rfl)
    (hfew : ((backTo cpos (starEach (e :: es) X.env)).all (fun x => !x.1) && (backToKw cpos (keywordEach [] X.env)).all (fun x => x.1.isSome)
      && decide ((e :: es).length + ([] : List Keyword).length + (if ([] : List Keyword).isEmpty then 0 else 1) < 30)) = true := by rfl)
    (hline : (apos.endLine == cpos.line) = true := by rfl) (hs : starEach (e :: es) X.env = (false, eval e X.env) :: starEach es X.env := by rfl) (hplain : (backTo cpos (starEach es X.env)).any (·.1) = false := by rfl) (hK : X.K = K := by rfl) :
    PE X (.Call (.Attribute o "index" apos) (e :: es) [] cpos) (tBM K "list" (rIndex K) to t) := by subst hK; exact pe_bm PySem.F.plainAttrs_list PySem.F.slot_list_index PySem.F.type_list_index mt_index ho ha hbase hfew hline hs hplain
theorem k_pop (K : PySem.W.Frag) (ho : PE X o to) (hbase : attributeBase o "pop" X.env (eval o X.env) = eval o X.env := by rfl) (hline : (apos.endLine == cpos.line) = true := by rfl) (hK : X.K = K := by rfl) : PE X (.Call (.Attribute o "pop" apos) [] [] cpos) (tBM0 K "list" rPop to) := by
  subst hK; exact pe_bm0 PySem.F.plainAttrs_list PySem.F.slot_list_pop PySem.F.type_list_pop mt_pop ho hbase hline
def tTru (K : PySem.W.Frag) (ta : TE) : TT := fun σ H Q => ta σ H fun x H' => ∃ k, TruV K x H' k ∧ Q k H'
theorem k_truth (K : PySem.W.Frag) {a : Expr} {ta : TE} (ha : PE X a ta) (he : ∀ whole, isTrue a X.env whole = (do let v ← whole; standAt a.pos; holding [v] (truthy v))) (hK : X.K = K := by rfl) : PT X a (tTru K ta) := by
  subst hK; exact pt_truth ha he
end

section
open OSx
variable {K : PySem.W.Frag} {w : World} {Γ : Gam} {te ta tb : TE} {x y : Str} {b : Bool} {T : Ty}
theorem okAct (a : OSx.Act) : PyData.strOk (actS a) = true := by cases a <;> (simp only [actS]; decide +kernel)
theorem okKind (a : OSx.Kind) : PyData.strOk (kindS a) = true := by cases a <;> (simp only [kindS]; decide +kernel)
theorem okObj (o : Nat) : PyData.strOk (objS o) = true := by unfold objS; split <;> decide +kernel
theorem okCli (o : Nat) : PyData.strOk (cliS o) = true := by unfold cliS; split <;> decide +kernel
theorem sh_res (r : Res) : Sh8 (resD r) := by cases r <;> first | exact Sh8.num | exact Sh8.text (by decide +kernel)
theorem sh_rop (r : Option Res) : Sh8 (ropD r) := by cases r; exact Sh8.none; exact sh_res _
theorem sh_opt (r : Option Nat) : Sh8 (optD r) := by cases r; exact Sh8.none; exact Sh8.num
/-- e == y, y written -/
theorem et_str (ha : Ev ta Γ (tyS K x)) (hx : PyData.strOk x = true) (h : decide (x = y) = b) (hy : PyData.strOk y = true := by decide +kernel) : EvT (tTest (tOp (rEqD K) ta (tC (.str y)))) Γ b :=
  et_is (et_eq ha ev_s (.text hx) (.text hy)) (by rw [← h, Bool.eq_iff_iff]; simp)
theorem ev_str (ha : Ev ta Γ (tyS K x)) (hx : PyData.strOk x = true) (h : decide (x = y) = b) (hy : PyData.strOk y = true := by decide +kernel) : Ev (tOp (rEqD K) ta (tC (.str y))) Γ (tyB b) :=
  ev_B (ev_eq ha ev_s (.text hx) (.text hy)) (by rw [← h, Bool.eq_iff_iff]; simp)
theorem et_act {i : Nat} {a : OSx.Act} (hi : Γ.l[i]? = some (some (tyS K (actS a)))) (h : decide (actS a = y) = b := by first | (simp only [actS]; decide +kernel) | (exact decide_eq_false (by simp only [actS]; decide +kernel)) | (exact decide_eq_true (by simp only [actS]))) (hy : PyData.strOk y = true := by decide +kernel) : EvT (tTest (tOp (rEqD K) (tVar i) (tC (.str y)))) Γ b :=
  et_str (ev_var hi) (okAct a) h hy
/-- two data as a pair -/
theorem ev_two {d e : D} (ha : Ev ta Γ (tyD K d)) (hb : Ev tb Γ (tyD K e)) : Ev (tTup (tCons ta (tCons tb tNil))) Γ (tyT K [d, e]) := ev_tup (ds := [d, e]) (ea_cons ha (ea_cons hb ea_nil)) (by simp)
/-- a return at the end -/
theorem r_end {te : TE} {σ : L2.St} {H H' : Hp} {Dd : Ends} (e : Ext H H') (s : Sty Γ σ H') (h : Ev te Γ T) (q : ∀ v H1, Ext H H1 → T.is v H1 → Dd.rt v H1) : tRet te Dd σ H' := s_ret s h fun v H2 e2 r => q v H2 (e.trans e2) r
end

theorem at_nat {α : Type} {ds : List α} {k : Nat} {d : α} (h : ds[k]? = some d) : atI ds (k : Int) = some d := by
  have hk : k < ds.length := (List.getElem?_eq_some_iff.mp h).1
  unfold atI ixN
  rw [if_pos (by omega), if_pos (by omega)]
  simpa using h

/-! name = [..] frozen at once -/
def tSetF (te : TE) (i : Nat) : TS := fun D σ H => tAsg te (gName i) { D with nx := fun σ' H' => ∃ p xs, H' p = some (.lst xs) ∧ σ'[i]? = some (some (.ref p)) ∧ ∀ o, D.nx σ' (upd H' p (.frz o (.lst xs))) } σ H
theorem ps_frzL {X : Cx} {st : Stmt} {te : TE} {i : Nat} (h : PS X st (tAsg te (gName i))) : PS X st (tSetF te i) := by
  refine ⟨fun pins s σ H D I hq => thn (h.run pins s σ H _ I hq) fun fl s1 hs => ?_⟩
  cases fl with
  | next =>
    obtain ⟨σ', H', I1, p, xs, hp, _, q⟩ := hs
    obtain ⟨od, I2⟩ := I1.lock hp trivial
    exact ⟨σ', _, I2, q od⟩
  | brk => exact hs
  | cont => exact hs
  | ret u => exact hs
theorem q_setF {K : PySem.W.Frag} {Γ : Gam} {te : TE} {ds : List D} {σ : L2.St} {H : Hp} {Dd : Ends} {tz : TS} {i : Nat} (hi : i < Γ.l.length) (s : Sty Γ σ H) (h : EvN K te Γ ds) (k : ∀ σ' H', Ext H H' → Sty (Γ.set i (some (tyL K ds))) σ' H' → tz Dd σ' H') : tSeq (tSetF te i) tz Dd σ H :=
  h σ H s _ fun p xs H1 hp e hl r => ⟨p, xs, hl, List.getElem?_set_self (by rw [s.len]; exact hi), fun o => k _ _ (ExtS.freeze e hl (.inl hp)) ((s.imm (ExtS.freeze e hl (.inl hp)).toImm).set ⟨p, xs, rfl, .inl ⟨o, upd_same⟩, r.imm (Imm.mut hl trivial) _ _⟩)⟩
end OS

end

section
set_option maxHeartbeats 4000000
namespace OS
open PySem PySem.Spec PyProof.Rows L2 GxR OSx

def PYes (K : PySem.W.Frag) : List Ty → Ty → Prop := fun Ts T => ∃ b, Ts = [tyB b] ∧ T = tyD K (resD (yn b))
theorem sc_yes_or_no : FnScope ["found"] ["found"] (defScope (top 3)) := C8.fnScope_by (by decide +kernel)
theorem cal_yes_or_no {P : Program} {w : World} {K : PySem.W.Frag} {mg : Str → Option Value} {base : Heap} {f : Addr} {fd : FuncData} {cdv : Value} (F : FunC K mg "yes_or_no" (top 3) f fd cdv) (M : Nm mg)   : Cal P w K mg base (0 + 1) "yes_or_no" (Pm [] (PYes K)) := by
  have b := F.binds (ps := ["found"]) fun _ _ _ _ _ _ us hl => match us, hl with | [_], _ => rfl
  have kds := F.kds
  have S := sc_yes_or_no
  refine cal1 F b sc_yes_or_no (fun Ts T h => ?hlen) (fun A outer s H E hr => have hu := hr.units; have hu1 := hu_of hr;
      (pss_one (ps_ret (pe_ifExp (pt_val (pv 0)) pe_str pe_str)))) (fun Ts T h => ?hbd)
  case hlen =>
    obtain ⟨c, rfl, rfl⟩ := h
    rfl
  case hbd =>
    obtain ⟨c, rfl, rfl⟩ := h
    exact fun σ H s D q => s_ret s (ev_if (et_B (ev_var rfl)) (fun e => by subst e; exact ev_s) (fun e => by subst e; exact ev_s)) q
structure FirstD (K : PySem.W.Frag) (w : World) (mg : Str → Option Value) (p : Addr) : Prop where
  mgf : mg "FIRST" = some (.ref p)
  at_ : ∀ k : OSx.Kind, ∃ v, KDct K w p (kindS k) v ∧ ∀ H, (tyD K (stD (init1 k))).is v H
def PFirst (K : PySem.W.Frag) : List Ty → Ty → Prop := fun Ts T => ∃ k : OSx.Kind, Ts = [tyS K (kindS k)] ∧ T = tyD K (stD (init1 k))
theorem sc_first_state : FnScope ["kind"] ["kind"] (defScope (top 2)) := C8.fnScope_by (by decide +kernel)
theorem cal_first_state {P : Program} {w : World} {K : PySem.W.Frag} {mg : Str → Option Value} {base : Heap} {f : Addr} {fd : FuncData} {cdv : Value} (F : FunC K mg "first_state" (top 2) f fd cdv) (M : Nm mg)  {a_FIRST : Addr} (FD : FirstD K w mg a_FIRST) : Cal P w K mg base (0 + 1) "first_state" (Pm [] (PFirst K)) := by
  have b := F.binds (ps := ["kind"]) fun _ _ _ _ _ _ us hl => match us, hl with | [_], _ => rfl
  have kds := F.kds
  have c_FIRST := FD.mgf
  have S := sc_first_state
  refine cal1 F b sc_first_state (fun Ts T h => ?hlen) (fun A outer s H E hr => have hu := hr.units; have hu1 := hu_of hr;
      (pss_one (ps_ret (pe_ix (k_ix_kdict K w) (pe_glob (v := V.ref a_FIRST) (by rfl) c_FIRST rfl) (pv 0) (fun _ _ => rfl))))) (fun Ts T h => ?hbd)
  case hlen =>
    obtain ⟨c, rfl, rfl⟩ := h
    rfl
  case hbd =>
    obtain ⟨c, rfl, rfl⟩ := h
    obtain ⟨v, h1, h2⟩ := FD.at_ c
    exact fun σ H s D q => s_ret s (ev_op ev_ref (ev_var rfl) (rv_kd h1 h2)) q
def PStep (K : PySem.W.Frag) (kd : OSx.Kind) : List Ty → Ty → Prop := fun Ts T => ∃ (a : OSx.Act) (s : St1) (n : Nat), a.kind = kd ∧ a.small ∧ Good1 n kd s ∧ n ≤ 48 ∧ Ts = [tyD K (stD s), tyS K (actS a), tyD K (argsD a)] ∧ T = tyT K [stD (step1 a s).1, resD (step1 a s).2]
theorem sc_step_register : FnScope ["state", "operation", "arguments"] ["state", "operation", "arguments"] (defScope (top 4)) := C8.fnScope_by (by decide +kernel)
theorem cal_step_register {P : Program} {w : World} {K : PySem.W.Frag} {mg : Str → Option Value} {base : Heap} {f : Addr} {fd : FuncData} {cdv : Value} (F : FunC K mg "step_register" (top 4) f fd cdv) (M : Nm mg)   : Cal P w K mg base (1 + 1) "step_register" (Pm [] (PStep K .reg)) := by
  have b := F.binds (ps := ["state", "operation", "arguments"]) fun _ _ _ _ _ _ us hl => match us, hl with | [_, _, _], _ => rfl
  have kds := F.kds
  have S := sc_step_register
  refine cal1 F b sc_step_register (fun Ts T h => ?hlen) (fun A outer s H E hr => have hu := hr.units; have hu1 := hu_of hr;
      (pss_cons (ps_if (pt_cmpR (k_op_eqD K hu) (pv 1) pe_str (nomark _))
        (pss_one (ps_ret (pe_tup (pa_cons (pe_ix (k_ix_tup K) (pv 2) pe_int (fun _ _ => rfl)) (pa_cons pe_str pa_nil)))))
        pss_nil)
      (pss_cons (ps_if (pt_cmpR (k_op_eqD K hu) (pv 1) pe_str (nomark _))
        (pss_one (ps_ret (pe_tup (pa_cons (pv 0) (pa_cons (pv 0) pa_nil)))))
        pss_nil)
      (pss_cons (ps_if (pt_cmpR (k_op_eqD K hu) (pv 0) (pe_ix (k_ix_tup K) (pv 2) pe_int (fun _ _ => rfl)) (nomark _))
        (pss_one (ps_ret (pe_tup (pa_cons (pe_ix (k_ix_tup K) (pv 2) pe_int (fun _ _ => rfl)) (pa_cons pe_str pa_nil)))))
        pss_nil)
      (pss_one (ps_ret (pe_tup (pa_cons (pv 0) (pa_cons pe_str pa_nil))))))))) (fun Ts T h => ?hbd)
  case hlen =>
    obtain ⟨a, s, n, _, _, _, _, rfl, rfl⟩ := h
    rfl
  case hbd =>
    obtain ⟨a, s, n, hk, hs, ⟨i, rfl⟩, hn, rfl, rfl⟩ := h
    intro σ H s D q
    cases a with
    | write v => exact q_yes s (et_act rfl) fun H' e s' => r_end e s' (ev_two (ev_ix (ev_var rfl) rfl) ev_s) q
    | read => exact q_no s (et_act rfl) fun H' e s' => q_yes s' (et_act rfl) fun H2 e2 s2 => r_end (e.trans e2) s2 (ev_two (ev_var rfl) (ev_var rfl)) q
    | swap u v =>
      refine q_no s (et_act rfl) fun H' e s' => q_no s' (et_act rfl) fun H2 e2 s2 => ?_
      refine q_when s2 (et_eq (ev_var rfl) (ev_ix (ev_var rfl) rfl) Sh8.num Sh8.num) (fun hb H3 e3 s3 => ?_) (fun hb H3 e3 s3 => ?_)
      · have hb : i = u := by simpa using hb
        subst hb
        refine r_end ((e.trans e2).trans e3) s3 (ev_D (ev_two (ev_ix (ev_var rfl) rfl) ev_s) ?_) q
        show _ = NestedKey.tup [stD (if i = i then (St1.n v, Res.yes) else (St1.n i, Res.no)).1, resD (if i = i then (St1.n v, Res.yes) else (St1.n i, Res.no)).2]
        rw [if_pos rfl] <;> rfl
      · have hb : ¬ i = u := by simpa using hb
        refine r_end ((e.trans e2).trans e3) s3 (ev_D (ev_two (ev_var rfl) ev_s) ?_) q
        show _ = NestedKey.tup [stD (if i = u then (St1.n v, Res.yes) else (St1.n i, Res.no)).1, resD (if i = u then (St1.n v, Res.yes) else (St1.n i, Res.no)).2]
        rw [if_neg hb] <;> rfl
    | _ => cases hk
theorem sc_step_counter : FnScope ["state", "operation", "arguments"] ["state", "operation", "arguments"] (defScope (top 5)) := C8.fnScope_by (by decide +kernel)
theorem cal_step_counter {P : Program} {w : World} {K : PySem.W.Frag} {mg : Str → Option Value} {base : Heap} {f : Addr} {fd : FuncData} {cdv : Value} (F : FunC K mg "step_counter" (top 5) f fd cdv) (M : Nm mg)   : Cal P w K mg base (1 + 1) "step_counter" (Pm [] (PStep K .cnt)) := by
  have b := F.binds (ps := ["state", "operation", "arguments"]) fun _ _ _ _ _ _ us hl => match us, hl with | [_, _, _], _ => rfl
  have kds := F.kds
  have S := sc_step_counter
  refine cal1 F b sc_step_counter (fun Ts T h => ?hlen) (fun A outer s H E hr => have hu := hr.units; have hu1 := hu_of hr;
      (pss_cons (ps_if (pt_cmpR (k_op_eqD K hu) (pv 1) pe_str (nomark _))
        (pss_one (ps_ret (pe_tup (pa_cons (pe_op op_add (pv 0) (pe_ix (k_ix_tup K) (pv 2) pe_int (fun _ _ => rfl))) (pa_cons pe_str pa_nil)))))
        pss_nil)
      (pss_one (ps_ret (pe_tup (pa_cons (pv 0) (pa_cons (pv 0) pa_nil))))))) (fun Ts T h => ?hbd)
  case hlen =>
    obtain ⟨a, s, n, _, _, _, _, rfl, rfl⟩ := h
    rfl
  case hbd =>
    obtain ⟨a, s, n, hk, hs, ⟨i, rfl⟩, hn, rfl, rfl⟩ := h
    intro σ H s D q
    cases a with
    | add v => exact q_yes s (et_act rfl) fun H' e s' => r_end e s' (ev_two (ev_op (ev_var rfl) (ev_ix (ev_var rfl) rfl) rv_I0) ev_s) q
    | get => exact q_no s (et_act rfl) fun H' e s' => r_end e s' (ev_two (ev_var rfl) (ev_var rfl)) q
    | _ => cases hk
theorem nums_drop1 (x : Int) (xs : List Int) : (nums (x :: xs)).drop 1 = nums xs := rfl
theorem sc_step_queue : FnScope ["state", "operation", "arguments"] ["state", "operation", "arguments"] (defScope (top 7)) := C8.fnScope_by (by decide +kernel)
theorem cal_step_queue {P : Program} {w : World} {K : PySem.W.Frag} {mg : Str → Option Value} {base : Heap} {f : Addr} {fd : FuncData} {cdv : Value} (F : FunC K mg "step_queue" (top 7) f fd cdv) (M : Nm mg)   : Cal P w K mg base (1 + 1) "step_queue" (Pm [] (PStep K .que)) := by
  have b := F.binds (ps := ["state", "operation", "arguments"]) fun _ _ _ _ _ _ us hl => match us, hl with | [_, _, _], _ => rfl
  have kds := F.kds
  have S := sc_step_queue
  refine cal1 F b sc_step_queue (fun Ts T h => ?hlen) (fun A outer s H E hr => have hu := hr.units; have hu1 := hu_of hr;
      (pss_cons (ps_if (pt_cmpR (k_op_eqD K hu) (pv 1) pe_str (nomark _))
        (pss_one (ps_ret (pe_tup (pa_cons (pe_op (k_op_catA K) (pv 0) (pe_tup (pa_cons (pe_ix (k_ix_tup K) (pv 2) pe_int (fun _ _ => rfl)) pa_nil))) (pa_cons pe_str pa_nil)))))
        pss_nil)
      (pss_cons (ps_if (pt_cmpR (k_op_eqD K hu) (pe_callB (k_cr_lenS K) (by rfl) M.n_len boot_len (pa_cons (pv 0) pa_nil)) pe_int (nomark _))
        (pss_one (ps_ret (pe_tup (pa_cons (pv 0) (pa_cons pe_str pa_nil)))))
        pss_nil)
      (pss_one (ps_ret (pe_tup (pa_cons (pe_slice (k_sl_tupA K) (pv 0) (po_some pe_int) po_none) (pa_cons (pe_ix (k_ix_tup K) (pv 0) pe_int (fun _ _ => rfl)) pa_nil)))))))) (fun Ts T h => ?hbd)
  case hlen =>
    obtain ⟨a, s, n, _, _, _, _, rfl, rfl⟩ := h
    rfl
  case hbd =>
    obtain ⟨a, s, n, hk, hs, ⟨xs, rfl, hl⟩, hn, rfl, rfl⟩ := h
    intro σ H s D q
    cases a with
    | put v =>
      refine q_yes s (et_act rfl) fun H' e s' => r_end e s' (ev_D (ev_two (ev_op (ev_var rfl) (ev_tup (ds := [.num v]) (ea_cons (ev_ix (ev_var rfl) rfl) ea_nil) (by simp)) (rv_cat (ds := nums xs) (es := [.num v]) (by simp; omega))) ev_s) ?_) q
      show NestedKey.tup [.tup (nums xs ++ [NestedKey.num v]), _] = NestedKey.tup [.tup (nums (xs ++ [v])), _]
      rw [show nums xs ++ [NestedKey.num v] = nums (xs ++ [v]) by simp [nums]] <;> rfl
    | take =>
      refine q_no s (et_act rfl) fun H' e s' => ?_
      have hlen : Ev _ _ (tyI K ((nums xs).length : Int)) := ev_cb (ea_cons (ev_var (Γ := ⟨[], [some (tyD K (stD (St1.l xs))), some (tyS K (actS OSx.Act.take)), some (tyD K (argsD OSx.Act.take))]⟩) (i := 0) rfl) ea_nil) rc_lenT
      cases xs with
      | nil => exact q_yes s' (et_is (et_eq hlen ev_i Sh8.num Sh8.num) (by simp)) fun H2 e2 s2 => r_end (e.trans e2) s2 (ev_two (ev_var rfl) ev_s) q
      | cons x xs =>
        refine q_no s' (et_is (et_eq hlen ev_i Sh8.num Sh8.num) (by simp; omega)) fun H2 e2 s2 => ?_
        refine r_end (e.trans e2) s2 (ev_D (ev_two (ev_sl (ds := nums (x :: xs)) (ev_var rfl) (eo_some (K := K) ev_i) eo_none) (ev_ix (ds := nums (x :: xs)) (d := .num x) (ev_var rfl) (at_nat (k := 0) rfl))) ?_) q
        rw [show cutD (nums (x :: xs)) (some (1 : Int)) none = nums xs from (cut_from (k := 1) (by simp)).trans rfl] <;> rfl
    | _ => cases hk
end OS

end

section
set_option maxHeartbeats 4000000
namespace OS
open PySem PySem.Spec PyProof.Rows L2 GxR OSx

theorem mem_numsB {v : Int} {xs : List Int} : decide (NestedKey.num v ∈ nums xs) = xs.contains v := by
  rw [Bool.eq_iff_iff, decide_eq_true_eq, List.contains_iff_mem]
  exact mem_nums
theorem gvn_filter (xs : List Int) (f : Int → Bool) : gvn xs.length (fun i => f (xs.getD i 0)) (fun i => .num (xs.getD i 0)) = nums (xs.filter f) := by
  have key : ∀ (n : Nat) (ys : List Int), n ≤ ys.length → gvn n (fun i => f (ys.getD i 0)) (fun i => .num (ys.getD i 0)) = nums ((ys.take n).filter f) := by
    intro n ys
    induction n with
    | zero => intro _; rfl
    | succ n ih =>
      intro h
      have hn : n < ys.length := by omega
      have e : ys.getD n 0 = ys[n] := by rw [List.getD_eq_getElem?_getD, List.getElem?_eq_getElem hn]; rfl
      have et : ys.take (n + 1) = ys.take n ++ [ys[n]] := by rw [List.take_add_one, List.getElem?_eq_getElem hn]; rfl
      rw [et, List.filter_append]
      cases hf : f (ys[n]) with
      | true =>
        rw [gvn_yes (by rw [e]; exact hf), ih (by omega), e, List.filter_cons, if_pos hf]
        simp [nums]
      | false =>
        rw [gvn_no (by rw [e]; exact hf), ih (by omega), List.filter_cons, if_neg (by rw [hf]; decide)]
        simp
  have := key xs.length xs (Nat.le_refl _)
  rw [List.take_length] at this
  exact this
theorem nums_getD (xs : List Int) (i : Nat) (h : i < xs.length) : (nums xs).getD i .none = .num (xs.getD i 0) := by
  rw [List.getD_eq_getElem?_getD, List.getD_eq_getElem?_getD, List.getElem?_map, List.getElem?_eq_getElem h]
  rfl
theorem sorted4_len {xs : List Int} (h : xs.Pairwise (· < ·)) (h4 : ∀ x ∈ xs, 0 ≤ x ∧ x < 4) : xs.length ≤ 4 := by
  have hn : xs.Nodup := h.imp fun h => by omega
  have := OSx.sub_len (m := [0, 1, 2, 3]) hn fun x hx => by
    have := h4 x hx
    have : x = 0 ∨ x = 1 ∨ x = 2 ∨ x = 3 := by omega
    simp; exact this
  exact this
theorem sm4 {x : Int} (h : 0 ≤ x ∧ x < 4) : SO.Sm x := by unfold SO.Sm; omega
theorem sc_step_set : FnScope ["state", "operation", "arguments", "value", "found", "other"] ["state", "operation", "arguments"] (defScope (top 6)) := C8.fnScope_by (by decide +kernel)
theorem cal_step_set {P : Program} {w : World} {K : PySem.W.Frag} {mg : Str → Option Value} {base : Heap} {f : Addr} {fd : FuncData} {cdv : Value} (F : FunC K mg "step_set" (top 6) f fd cdv) (M : Nm mg) (c_yes_or_no : Cal P w K mg base 1 "yes_or_no" (Pm [] (PYes K)))  : Cal P w K mg base (1 + 1) "step_set" (Pm [] (PStep K .set)) := by
  have b := F.binds (ps := ["state", "operation", "arguments"]) fun _ _ _ _ _ _ us hl => match us, hl with | [_, _, _], _ => rfl
  have kds := F.kds
  have S := sc_step_set
  refine cal1 F b sc_step_set (fun Ts T h => ?hlen) (fun A outer s H E hr => have hu := hr.units; have hu1 := hu_of hr;
      (pss_cons (ps_set (i := 3) S.nd rfl (by first | exact .inl rfl | exact .inr rfl) (pe_ix (k_ix_tup K) (pv 2) pe_int (fun _ _ => rfl)))
      (pss_cons (ps_set (i := 4) S.nd rfl (by first | exact .inl rfl | exact .inr rfl) (pe_cmpR (k_op_inK K hu) (pv 3) (pv 0) (by rfl)))
      (pss_cons (ps_if (pt_cmpR (k_op_eqD K hu) (pv 1) pe_str (nomark _))
        (pss_one (ps_ret (pe_tup (pa_cons (pe_callTy (k_cr_tupS K) (by rfl) M.n_tuple boot_tuple (pa_cons (pe_callB (k_cr_sortedSet w rfl) (by rfl) M.n_sorted boot_sorted (pa_cons (pe_op (k_op_orS w) (pe_callTy (k_cr_setTI K w rfl) (by rfl) M.n_set boot_set (pa_cons (pv 0) pa_nil)) (k_pe_dispS w kds (pv 3))) pa_nil)) pa_nil)) (pa_cons (pe_c c_yes_or_no hr (by decide) (by rfl) (pa_cons (pe_not (pv 4)) pa_nil)) pa_nil)))))
        pss_nil)
      (pss_cons (ps_if (pt_cmpR (k_op_eqD K hu) (pv 1) pe_str (nomark _))
        (pss_one (ps_ret (pe_tup (pa_cons (pe_callTy (k_cr_tupS K) (by rfl) M.n_tuple boot_tuple (pa_cons (pe_lc (own := [("other", 5)]) rfl S.nd (k_pi_tup K (pv 0)) (blkOk_by (N := ["state", "operation", "arguments", "value", "found", "other"]) (sc := defScope (top 6)) (by decide +kernel)) (fun s H C cl fp => (pg_name (i := 5) S.nd rfl (by first | exact .inl rfl | exact .inr rfl))) (fun s H C cl fp => (pts_one (pt_cmpR (k_op_neD K hu) (pv 5) (pv 3) (nomark _)))) (fun s H C cl fp => (pv 5))) pa_nil)) (pa_cons (pe_c c_yes_or_no hr (by decide) (by rfl) (pa_cons (pv 4) pa_nil)) pa_nil)))))
        pss_nil)
      (pss_one (ps_ret (pe_tup (pa_cons (pv 0) (pa_cons (pe_c c_yes_or_no hr (by decide) (by rfl) (pa_cons (pv 4) pa_nil)) pa_nil)))))))))) (fun Ts T h => ?hbd)
  case hlen =>
    obtain ⟨a, s, n, _, _, _, _, rfl, rfl⟩ := h
    rfl
  case hbd =>
    obtain ⟨a, s, n, hk, hs, ⟨xs, rfl, hso, h4⟩, hn, rfl, rfl⟩ := h
    have hlen := sorted4_len hso h4
    obtain ⟨v, hv⟩ : ∃ v, a.args = [v] := by cases a <;> first | exact ⟨_, rfl⟩ | cases hk
    intro σ H s D q
    have hd : argsD a = .tup [.num v] := by unfold argsD; rw [hv]; rfl
    rw [hd] at s
    refine q_set s (ev_ix (d := .num v) (ev_var rfl) rfl) fun σ1 H1 e1 s1 => ?_
    refine q_set s1 (ev_B (ev_op (ev_var rfl) (ev_var rfl) (rv_inT (ds := nums xs) (Nat.zero_le _))) mem_numsB) fun σ2 H2 e2 s2 => ?_
    have e12 := e1.trans e2
    have key : ∀ (te : TE) (Γ : Gam) (b : Bool), Ev te Γ (tyB b) → Ev (tCall (Pm [] (PYes K)) [] E0 (tCons te tNil)) Γ (tyD K (resD (yn b))) := fun te Γ b h => ev_call (Ts := [tyB b]) (ea_cons h ea_nil) ⟨b, rfl, rfl⟩ (by simp)
    cases a with
    | insert u =>
      obtain rfl : u = v := by cases hv; rfl
      refine q_yes s2 (et_act rfl) fun H3 e3 s3 => ?_
      refine r_end (e12.trans e3) s3 (ev_two (ev_tupNew (en_sortedOr (ns := xs) (ms := insS u xs) (v := u) (ev_var rfl) (ev_var rfl) (by omega) (fun k hk => sm4 (h4 k hk)) (sm4 (hs u (by simp [Act.args]))) (fun k => by rw [mem_insS]; exact or_comm) (insS_sorted hso))) (key _ _ (!xs.contains u) (ev_notV (ev_var rfl)))) q
    | remove u =>
      obtain rfl : u = v := by cases hv; rfl
      refine q_no s2 (et_act rfl) fun H3 e3 s3 => q_yes s3 (et_act rfl) fun H4 e4 s4 => ?_
      refine r_end ((e12.trans e3).trans e4) s4 (ev_D (ev_two (ev_tupNew (en_lc (fun i => decide (xs.getD i 0 ≠ u)) (fun i => .num (xs.getD i 0)) (iv_tup (ds := nums xs) (ev_var rfl)) (by simp; omega) (fun i hi => gt_name (by simp)) (fun i hi => ?_) (fun i hi hf => ?_))) (key _ _ _ (ev_var rfl))) ?_) q
      · refine et_is (et_ne (d := .num (xs.getD i 0)) (e := .num u) ?_ (ev_var rfl) Sh8.num Sh8.num) (by rw [Bool.eq_iff_iff]; simp)
        exact ev_D (ev_var rfl) (nums_getD xs i (by simpa using hi))
      · exact ev_D (ev_var rfl) (nums_getD xs i (by simpa using hi))
      · rw [List.length_map, gvn_filter xs fun x => decide (x ≠ u)] <;> rfl
    | has u =>
      obtain rfl : u = v := by cases hv; rfl
      refine q_no s2 (et_act rfl) fun H3 e3 s3 => q_no s3 (et_act rfl) fun H4 e4 s4 => ?_
      exact r_end ((e12.trans e3).trans e4) s4 (ev_two (ev_var rfl) (key _ _ _ (ev_var rfl))) q
    | _ => cases hk
structure StepD (K : PySem.W.Frag) (w : World) (mg : Str → Option Value) (p f4 f5 f6 f7 : Addr) : Prop where
  mgf : mg "STEPPERS" = some (.ref p)
  m4 : mg "step_register" = some (.ref f4)
  m5 : mg "step_counter" = some (.ref f5)
  m6 : mg "step_set" = some (.ref f6)
  m7 : mg "step_queue" = some (.ref f7)
  k4 : KDct K w p "register" (.ref f4)
  k5 : KDct K w p "counter" (.ref f5)
  k6 : KDct K w p "set" (.ref f6)
  k7 : KDct K w p "queue" (.ref f7)
theorem Cal.at' {P : Program} {w : World} {K : PySem.W.Frag} {mg : Str → Option Value} {base : Heap} {k : Nat} {x : Str} {sp : Sp} {f : Addr} (c : Cal P w K mg base k x sp) (h : mg x = some (.ref f)) : CalAt P w K mg base k f sp := by
  obtain ⟨g, fd, ps, F, hm, kp, b⟩ := c.ex
  rw [h] at hm
  cases hm
  exact ⟨fd, ps, F, kp, b⟩
def PStepA (K : PySem.W.Frag) : List Ty → Ty → Prop := fun Ts T => ∃ (a : OSx.Act) (s : St1) (n : Nat), a.small ∧ Good1 n a.kind s ∧ n ≤ 48 ∧ Ts = [tyS K (kindS a.kind), tyD K (stD s), tyS K (actS a), tyD K (argsD a)] ∧ T = tyT K [stD (step1 a s).1, resD (step1 a s).2]
def stFs (K : PySem.W.Frag) (f4 f5 f6 f7 : Addr) : List (Addr × Sp) := [(f4, Pm [] (PStep K .reg)), (f5, Pm [] (PStep K .cnt)), (f6, Pm [] (PStep K .set)), (f7, Pm [] (PStep K .que))]
theorem cS_of {P : Program} {w : World} {K : PySem.W.Frag} {mg : Str → Option Value} {base : Heap} {p f4 f5 f6 f7 : Addr} (SD : StepD K w mg p f4 f5 f6 f7) (c4 : Cal P w K mg base 2 "step_register" (Pm [] (PStep K .reg))) (c5 : Cal P w K mg base 2 "step_counter" (Pm [] (PStep K .cnt)))
    (c6 : Cal P w K mg base 2 "step_set" (Pm [] (PStep K .set))) (c7 : Cal P w K mg base 2 "step_queue" (Pm [] (PStep K .que))) : ∀ q ∈ stFs K f4 f5 f6 f7, CalAt P w K mg base 2 q.1 q.2 := by
  intro q hq
  simp only [stFs, List.mem_cons, List.not_mem_nil, or_false] at hq
  rcases hq with rfl | rfl | rfl | rfl
  · exact c4.at' SD.m4
  · exact c5.at' SD.m5
  · exact c6.at' SD.m6
  · exact c7.at' SD.m7
theorem sc_step : FnScope ["kind", "state", "operation", "arguments"] ["kind", "state", "operation", "arguments"] (defScope (top 9)) := C8.fnScope_by (by decide +kernel)
theorem cal_step {P : Program} {w : World} {K : PySem.W.Frag} {mg : Str → Option Value} {base : Heap} {f : Addr} {fd : FuncData} {cdv : Value} (F : FunC K mg "step" (top 9) f fd cdv) (M : Nm mg)  {a_STEPPERS f4 f5 f6 f7 : Addr} (SD : StepD K w mg a_STEPPERS f4 f5 f6 f7) (cS : ∀ q ∈ stFs K f4 f5 f6 f7, CalAt P w K mg base 2 q.1 q.2) : Cal P w K mg base (2 + 1) "step" (Pm [] (PStepA K)) := by
  have b := F.binds (ps := ["kind", "state", "operation", "arguments"]) fun _ _ _ _ _ _ us hl => match us, hl with | [_, _, _, _], _ => rfl
  have kds := F.kds
  have c_STEPPERS := SD.mgf
  have S := sc_step
  refine cal1 F b sc_step (fun Ts T h => ?hlen) (fun A outer s H E hr => have hu := hr.units; have hu1 := hu_of hr;
      (pss_one (ps_ret (pe_callF cS hr (by decide) (pe_ix (k_ix_kdict K w) (pe_glob (v := V.ref a_STEPPERS) (by rfl) c_STEPPERS rfl) (pv 0) (fun _ _ => rfl)) (pa_cons (pv 1) (pa_cons (pv 2) (pa_cons (pv 3) pa_nil))))))) (fun Ts T h => ?hbd)
  case hlen =>
    obtain ⟨a, s, n, _, _, _, rfl, rfl⟩ := h
    rfl
  case hbd =>
    obtain ⟨a, s, n, hs, hg, hn, rfl, rfl⟩ := h
    intro σ H s' D q
    cases hk : a.kind with
    | reg =>
      rw [hk] at s' hg
      exact s_ret s' (ev_callF (tb := []) (f := f4) (F := PStep K .reg) (Ts := [tyD K (stD s), tyS K (actS a), tyD K (argsD a)]) (ev_op ev_ref (ev_var rfl) (rv_kd SD.k4 fun _ => rfl)) (by simp [stFs]) (ea_cons (ev_var rfl) (ea_cons (ev_var rfl) (ea_cons (ev_var rfl) ea_nil))) ⟨a, s, n, hk, hs, hg, hn, rfl, rfl⟩ (by simp)) q
    | cnt =>
      rw [hk] at s' hg
      exact s_ret s' (ev_callF (tb := []) (f := f5) (F := PStep K .cnt) (Ts := [tyD K (stD s), tyS K (actS a), tyD K (argsD a)]) (ev_op ev_ref (ev_var rfl) (rv_kd SD.k5 fun _ => rfl)) (by simp [stFs]) (ea_cons (ev_var rfl) (ea_cons (ev_var rfl) (ea_cons (ev_var rfl) ea_nil))) ⟨a, s, n, hk, hs, hg, hn, rfl, rfl⟩ (by simp)) q
    | set =>
      rw [hk] at s' hg
      exact s_ret s' (ev_callF (tb := []) (f := f6) (F := PStep K .set) (Ts := [tyD K (stD s), tyS K (actS a), tyD K (argsD a)]) (ev_op ev_ref (ev_var rfl) (rv_kd SD.k6 fun _ => rfl)) (by simp [stFs]) (ea_cons (ev_var rfl) (ea_cons (ev_var rfl) (ea_cons (ev_var rfl) ea_nil))) ⟨a, s, n, hk, hs, hg, hn, rfl, rfl⟩ (by simp)) q
    | que =>
      rw [hk] at s' hg
      exact s_ret s' (ev_callF (tb := []) (f := f7) (F := PStep K .que) (Ts := [tyD K (stD s), tyS K (actS a), tyD K (argsD a)]) (ev_op ev_ref (ev_var rfl) (rv_kd SD.k7 fun _ => rfl)) (by simp [stFs]) (ea_cons (ev_var rfl) (ea_cons (ev_var rfl) (ea_cons (ev_var rfl) ea_nil))) ⟨a, s, n, hk, hs, hg, hn, rfl, rfl⟩ (by simp)) q
end OS

end

section
set_option maxHeartbeats 4000000
namespace OS
open PySem PySem.Spec PyProof.Rows L2 GxR OSx

/-! getters of the data -/
theorem ops_get {l : List Op} {i : Nat} (h : i < l.length) : (opsD l)[i]? = some (opD (opAt l i)) := by
  unfold opsD opAt
  rw [List.getElem?_map, List.getD_eq_getElem?_getD, List.getElem?_eq_getElem h] <;> rfl
def PBef (K : PySem.W.Frag) : List Ty → Ty → Prop := fun Ts T => ∃ (h : Hist) (m : Bool) (i j : Nat), h.Ok ∧ i < h.ops.length ∧ j < h.ops.length ∧ Ts = [tyL K (opsD h.ops), tyS K (modS m), tyI K (i : Int), tyI K (j : Int)] ∧ T = tyB (bef m h.ops i j)
theorem okMod (m : Bool) : PyData.strOk (modS m) = true := by cases m <;> (simp only [modS]; decide +kernel)
section
variable {K : PySem.W.Frag} {Γ : Gam} {te ta tb : TE} {l : List Op} {op : Op}
theorem ev_listed (h1 : Ev ta Γ (tyL K (opsD l))) {i : Nat} (h2 : Ev tb Γ (tyI K (i : Int))) (hi : i < l.length) : Ev (tOp (rIxL K) ta tb) Γ (tyD K (opD (opAt l i))) := ev_ixL h1 h2 (at_nat (ops_get hi))
theorem ev_op0 (h : Ev te Γ (tyD K (opD op))) : Ev (tOp (rIxT K) te (tC (.int 0))) Γ (tyS K (cliS op.c)) := ev_ix h rfl
theorem ev_op1 (h : Ev te Γ (tyD K (opD op))) : Ev (tOp (rIxT K) te (tC (.int 1))) Γ (tyS K (objS op.o)) := ev_ix h rfl
theorem ev_op2 (h : Ev te Γ (tyD K (opD op))) : Ev (tOp (rIxT K) te (tC (.int 2))) Γ (tyS K (actS op.a)) := ev_ix h rfl
theorem ev_op3 (h : Ev te Γ (tyD K (opD op))) : Ev (tOp (rIxT K) te (tC (.int 3))) Γ (tyD K (argsD op.a)) := ev_ix h rfl
theorem ev_op4 (h : Ev te Γ (tyD K (opD op))) : Ev (tOp (rIxT K) te (tC (.int 4))) Γ (tyD K (ropD op.r)) := ev_ix h rfl
theorem ev_op5 (h : Ev te Γ (tyD K (opD op))) : Ev (tOp (rIxT K) te (tC (.int 5))) Γ (tyI K (op.called : Int)) := ev_ix h rfl
theorem ev_op6 (h : Ev te Γ (tyD K (opD op))) : Ev (tOp (rIxT K) te (tC (.int 6))) Γ (tyD K (optD op.ret)) := ev_ix h rfl
theorem ev_h0 {h : Hist} (e : Ev te Γ (tyD K (histD h))) : Ev (tOp (rIxT K) te (tC (.int 0))) Γ (tyT K (objsD h.ks)) := ev_ix e rfl
theorem ev_h1 {h : Hist} (e : Ev te Γ (tyD K (histD h))) : Ev (tOp (rIxT K) te (tC (.int 1))) Γ (tyT K (h.ev.map evD)) := ev_ix e rfl
theorem ret_none (o : Option Nat) : decide (optD o = .none) = o.isNone := by cases o <;> simp [optD]
end
theorem sc_is_before : FnScope ["listed", "model", "number", "other", "first", "second"] ["listed", "model", "number", "other"] (defScope (top 14)) := C8.fnScope_by (by decide +kernel)
theorem cal_is_before {P : Program} {w : World} {K : PySem.W.Frag} {mg : Str → Option Value} {base : Heap} {f : Addr} {fd : FuncData} {cdv : Value} (F : FunC K mg "is_before" (top 14) f fd cdv) (M : Nm mg)   : Cal P w K mg base (2 + 1) "is_before" (Pm [] (PBef K)) := by
  have b := F.binds (ps := ["listed", "model", "number", "other"]) fun _ _ _ _ _ _ us hl => match us, hl with | [_, _, _, _], _ => rfl
  have kds := F.kds
  have S := sc_is_before
  refine cal1 F b sc_is_before (fun Ts T h => ?hlen) (fun A outer s H E hr => have hu := hr.units; have hu1 := hu_of hr;
      (pss_cons (ps_set (i := 4) S.nd rfl (by first | exact .inl rfl | exact .inr rfl) (pe_ix (k_ix_list K) (pv 0) (pv 2) (fun _ _ => rfl)))
      (pss_cons (ps_set (i := 5) S.nd rfl (by first | exact .inl rfl | exact .inr rfl) (pe_ix (k_ix_list K) (pv 0) (pv 3) (fun _ _ => rfl)))
      (pss_cons (ps_if (pt_cmpR (k_op_eqD K hu) (pv 1) pe_str (nomark _))
        (pss_one (ps_ret (pe_and (pe_cmp (pc_notN (pe_ix (k_ix_tup K) (pv 4) pe_int (fun _ _ => rfl)))) (pe_one (pe_cmpR op_lt (pe_ix (k_ix_tup K) (pv 4) pe_int (fun _ _ => rfl)) (pe_ix (k_ix_tup K) (pv 5) pe_int (fun _ _ => rfl)) (nomark _))))))
        pss_nil)
      (pss_one (ps_ret (pe_and (pe_cmpR (k_op_eqD K hu) (pe_ix (k_ix_tup K) (pv 4) pe_int (fun _ _ => rfl)) (pe_ix (k_ix_tup K) (pv 5) pe_int (fun _ _ => rfl)) (nomark _)) (pe_one (pe_cmpR op_lt (pe_ix (k_ix_tup K) (pv 4) pe_int (fun _ _ => rfl)) (pe_ix (k_ix_tup K) (pv 5) pe_int (fun _ _ => rfl)) (nomark _)))))))))) (fun Ts T h => ?hbd)
  case hlen =>
    obtain ⟨h, m, i, j, _, _, _, rfl, rfl⟩ := h
    rfl
  case hbd =>
    obtain ⟨h, m, i, j, ok, hi, hj, rfl, rfl⟩ := h
    intro σ H s D q
    refine q_set s (ev_listed (ev_var rfl) (ev_var rfl) hi) fun σ1 H1 e1 s1 => ?_
    refine q_set s1 (ev_listed (ev_var rfl) (ev_var rfl) hj) fun σ2 H2 e2 s2 => ?_
    have e12 := e1.trans e2
    cases m with
    | true =>
      refine q_yes s2 (et_str (ev_var rfl) (okMod true) (decide_eq_true rfl)) fun H3 e3 s3 => ?_
      refine r_end (e12.trans e3) s3 ?_ q
      cases hr : (opAt h.ops i).ret with
      | none =>
        refine ev_B (ev_andV (c := false) (ev_B (ev_notN (ev_op6 (ev_var rfl))) (c := false) (by rw [hr]; rfl)) (fun z => by cases z)) ?_
        show false = befR h.ops i j
        unfold befR
        rw [hr]
      | some r =>
        refine ev_B (ev_andV (b := true) (ev_B (ev_notN (ev_op6 (ev_var rfl))) (by rw [hr]; rfl)) (fun _ => ev_op (ev_D (ev_op6 (ev_var rfl)) (e := .num (r : Int)) (by rw [hr]; rfl)) (ev_op5 (ev_var rfl)) rv_C0)) ?_
        show (true && decide ((r : Int) < ((opAt h.ops j).called : Int))) = befR h.ops i j
        unfold befR
        rw [hr, Bool.true_and, Bool.eq_iff_iff]
        simp
    | false =>
      refine q_no s2 (et_str (ev_var rfl) (okMod false) (decide_eq_false (by simp only [modS]; decide +kernel))) fun H3 e3 s3 => ?_
      refine r_end (e12.trans e3) s3 (ev_B (ev_andV (ev_B (ev_eq (ev_op0 (ev_var rfl)) (ev_op0 (ev_var rfl)) (.text (okCli _)) (.text (okCli _))) (c := decide ((opAt h.ops i).c = (opAt h.ops j).c)) ?_) (fun _ => ev_op (ev_op5 (ev_var rfl)) (ev_op5 (ev_var rfl)) rv_C0)) ?_) q
      · rw [Bool.eq_iff_iff, decide_eq_true_eq, decide_eq_true_eq, NestedKey.text.injEq]
        exact ⟨fun z => cliS_inj (ok.op hi).2.2.2 (ok.op hj).2.2.2 z, fun z => by rw [z]⟩
      · show (_ && _) = befC h.ops i j
        unfold befC
        congr 1
        rw [Bool.eq_iff_iff]
        simp
def PFirsts (K : PySem.W.Frag) : List Ty → Ty → Prop := fun Ts T => ∃ h : Hist, h.Ok ∧ Ts = [tyD K (histD h)] ∧ T = tyD K (statesD (h.ks.map init1))
theorem gvn_all {α : Type} (l : List α) (d : Nat → D) (g : α → D) (hd : ∀ (i : Nat) (x : α), l[i]? = some x → d i = g x) : gvn l.length (fun _ => true) d = l.map g := by
  unfold gvn
  rw [List.filter_eq_self.mpr fun _ _ => rfl]
  refine List.ext_getElem? fun i => ?_
  rw [List.getElem?_map, List.getElem?_map]
  by_cases hi : i < l.length
  · rw [List.getElem?_range hi, List.getElem?_eq_getElem hi]
    show some (d i) = some _
    rw [hd i _ (List.getElem?_eq_getElem hi)]
  · rw [List.getElem?_eq_none (by simp; omega), List.getElem?_eq_none (by omega)]
    rfl
theorem et_true {Γ : Gam} : EvT tYes Γ true := fun σ H _ Q q => q H (ExtS.refl H)
theorem objsD_getD {ks : List OSx.Kind} {j : Nat} (h : j < ks.length) : (objsD ks).getD j .none = .tup [.text (objS j), .text (kindS (ks[j]))] := by
  rw [List.getD_eq_getElem?_getD, objsD_get (List.getElem?_eq_getElem h)]; rfl
theorem sc_first_states : FnScope ["some_history", "name", "kind"] ["some_history"] (defScope (top 15)) := C8.fnScope_by (by decide +kernel)
theorem cal_first_states {P : Program} {w : World} {K : PySem.W.Frag} {mg : Str → Option Value} {base : Heap} {f : Addr} {fd : FuncData} {cdv : Value} (F : FunC K mg "first_states" (top 15) f fd cdv) (M : Nm mg) (c_first_state : Cal P w K mg base 1 "first_state" (Pm [] (PFirst K)))  : Cal P w K mg base (2 + 1) "first_states" (Pm [] (PFirsts K)) := by
  have b := F.binds (ps := ["some_history"]) fun _ _ _ _ _ _ us hl => match us, hl with | [_], _ => rfl
  have kds := F.kds
  have S := sc_first_states
  refine cal1 F b sc_first_states (fun Ts T h => ?hlen) (fun A outer s H E hr => have hu := hr.units; have hu1 := hu_of hr;
      (pss_one (ps_ret (pe_callTy (k_cr_tupS K) (by rfl) M.n_tuple boot_tuple (pa_cons (pe_lc (own := [("name", 1), ("kind", 2)]) rfl S.nd (k_pi_tup K (pe_ix (k_ix_tup K) (pv 0) pe_int (fun _ _ => rfl))) (blkOk_by (N := ["some_history", "name", "kind"]) (sc := defScope (top 15)) (by decide +kernel)) (fun s H C cl fp => (k_pg_tup K (n := 2) rfl (pgs_cons (pg_name (i := 1) S.nd rfl (by first | exact .inl rfl | exact .inr rfl)) (pgs_cons (pg_name (i := 2) S.nd rfl (by first | exact .inl rfl | exact .inr rfl)) pgs_nil)))) (fun s H C cl fp => pts_nil) (fun s H C cl fp => (pe_c c_first_state hr (by decide) (by rfl) (pa_cons (pv 2) pa_nil)))) pa_nil))))) (fun Ts T h => ?hbd)
  case hlen =>
    obtain ⟨h, _, rfl, rfl⟩ := h
    rfl
  case hbd =>
    obtain ⟨h, ok, rfl, rfl⟩ := h
    intro σ H s D q
    refine s_ret s (ev_D (ev_tupNew (en_lc (Γ1 := fun i => ⟨[], [some (tyD K (histD h)), some (tyS K (objS i)), some (tyS K (kindS (h.ks.getD i .reg)))]⟩) (fun _ => true) (fun i => stD (init1 (h.ks.getD i .reg))) (iv_tup (ev_h0 (ev_var rfl))) (by rw [objsD_len]; have := ok.k3; omega) (fun i hi => ?_) (fun i hi => et_true) (fun i hi _ => ?_))) ?_) q
    · rw [objsD_len] at hi
      rw [objsD_getD hi]
      have : h.ks.getD i .reg = h.ks[i] := by rw [List.getD_eq_getElem?_getD, List.getElem?_eq_getElem hi]; rfl
      rw [this]
      exact gt_tup2 (gt_name (by simp)) (gt_name (by simp))
    · exact ev_call (tb := []) (F := PFirst K) (ea_cons (ev_var rfl) ea_nil) ⟨h.ks.getD i .reg, rfl, rfl⟩ (by simp)
    · rw [objsD_len, gvn_all h.ks _ (fun k => stD (init1 k)) fun i x hx => by rw [List.getD_eq_getElem?_getD, hx]; rfl]
      unfold statesD
      rw [List.map_map] <;> rfl

/-! done -/
def stepO (h : Hist) (i : Nat) (s : List St1) : List St1 × Res := stpO (opAt h.ops i) s
def PDone (K : PySem.W.Frag) : List Ty → Ty → Prop := fun Ts T => ∃ (h : Hist) (s : List St1) (n i : Nat), h.Ok ∧ Good h.ks n s ∧ n ≤ 48 ∧ i < h.ops.length ∧ Ts = [tyD K (histD h), tyL K (opsD h.ops), tyD K (statesD s), tyI K (i : Int)] ∧ T = tyT K [statesD (stepO h i s).1, resD (stepO h i s).2]
theorem names_len (ks : List OSx.Kind) : (gvn ks.length (fun _ => true) (fun i => .text (objS i))).length = ks.length := by
  unfold gvn
  rw [List.filter_eq_self.mpr fun _ _ => rfl]
  simp
theorem names_get (ks : List OSx.Kind) (i : Nat) (h : i < ks.length) : (gvn ks.length (fun _ => true) (fun i => .text (objS i)))[i]? = some (.text (objS i)) := by
  unfold gvn
  rw [List.filter_eq_self.mpr fun _ _ => rfl, List.getElem?_map, List.getElem?_range h] <;> rfl
/-- names.index(name) -/
theorem ev_index {K : PySem.W.Frag} {Γ : Gam} {ta tb : TE} {n o : Nat} (h1 : Ev ta Γ (tyL K (gvn n (fun _ => true) (fun i => .text (objS i))))) (h2 : Ev tb Γ (tyS K (objS o))) (ho : o < n) (hn : n ≤ 3) :
    Ev (tBM K "list" (rIndex K) ta (tCons tb tNil)) Γ (tyI K (o : Int)) := fun σ H s Q q => h1 σ H s _ fun v H1 e1 r1 => by
  obtain ⟨a, xs, rfl, sq, t⟩ := r1
  refine ⟨.inl ⟨rfl, xs, sq.sq⟩, h2 σ H1 (s.imm e1.toImm) _ fun y H2 e2 r2 => ?_⟩
  obtain rfl : y = .str (objS o) := r2
  have hx : xs = (List.range n).map fun i => V.str (objS i) := by
    have hl : xs.length = n := by
      rw [t.length]
      unfold gvn
      rw [List.filter_eq_self.mpr fun _ _ => rfl]
      simp
    refine List.ext_getElem? fun i => ?_
    by_cases hi : i < n
    · have e : (gvn n (fun _ => true) (fun i => .text (objS i)))[i]? = some (.text (objS i)) := by
        unfold gvn
        rw [List.filter_eq_self.mpr fun _ _ => rfl, List.getElem?_map, List.getElem?_range hi] <;> rfl
      obtain ⟨v, e1, e2⟩ := t.get e
      rw [e1, List.getElem?_map, List.getElem?_range hi]
      rw [show v = _ from e2] <;> rfl
    · rw [List.getElem?_eq_none (by omega), List.getElem?_eq_none (by simp; omega)]
  subst hx
  refine ⟨a, _, .str (objS o), o, .str (objS o), rfl, rfl, (sq.imm e2.toImm).sq, rfl, ?_, ?_, ?_, ?_, ?_⟩
  · rw [List.all_eq_true]
    intro v hv
    obtain ⟨i, _, rfl⟩ := List.mem_map.mp hv
    rfl
  · rw [List.getElem?_map, List.getElem?_range ho] <;> rfl
  · show (objS o == objS o) = true
    simp
  · intro m z' hm hz
    rw [List.getElem?_map, List.getElem?_range (by omega)] at hz
    injection hz with hz
    rw [← hz]
    show (objS m == objS o) = false
    rw [beq_eq_false_iff_ne]
    intro z
    have := objS_inj (by omega) (by omega) z
    omega
  · exact q _ H2 (e1.trans e2) rfl
theorem set_cut {α : Type} {l : List α} {o : Nat} (h : o < l.length) (x : α) : l.take o ++ [x] ++ l.drop (o + 1) = l.set o x := by
  rw [List.set_eq_take_append_cons_drop, if_pos h, List.append_assoc]; rfl
theorem sc_done : FnScope ["some_history", "listed", "states", "number", "names", "name", "kind", "place", "state", "result"] ["some_history", "listed", "states", "number"] (defScope (top 16)) := C8.fnScope_by (by decide +kernel)
theorem cal_done {P : Program} {w : World} {K : PySem.W.Frag} {mg : Str → Option Value} {base : Heap} {f : Addr} {fd : FuncData} {cdv : Value} (F : FunC K mg "done" (top 16) f fd cdv) (M : Nm mg) (c_step : Cal P w K mg base 3 "step" (Pm [] (PStepA K)))  : Cal P w K mg base (3 + 1) "done" (Pm [] (PDone K)) := by
  have b := F.binds (ps := ["some_history", "listed", "states", "number"]) fun _ _ _ _ _ _ us hl => match us, hl with | [_, _, _, _], _ => rfl
  have kds := F.kds
  have S := sc_done
  refine cal1 F b sc_done (fun Ts T h => ?hlen) (fun A outer s H E hr => have hu := hr.units; have hu1 := hu_of hr;
      (pss_cons (ps_frzL (ps_setLc (i := 4) (own := [("name", 5), ("kind", 6)]) rfl S.nd rfl rfl (sw_true rfl rfl rfl rfl) (k_pi_tup K (pe_ix (k_ix_tup K) (pv 0) pe_int (fun _ _ => rfl))) (blkOk_by (N := ["some_history", "listed", "states", "number", "names", "name", "kind", "place", "state", "result"]) (sc := defScope (top 16)) (by decide +kernel)) (fun s H C cl fp => (k_pg_tup K (n := 2) rfl (pgs_cons (pg_name (i := 5) S.nd rfl (by first | exact .inl rfl | exact .inr rfl)) (pgs_cons (pg_name (i := 6) S.nd rfl (by first | exact .inl rfl | exact .inr rfl)) pgs_nil)))) (fun s H C cl fp => pts_nil) (fun s H C cl fp => (pv 5))))
      (pss_cons (ps_set (i := 7) S.nd rfl (by first | exact .inl rfl | exact .inr rfl) (k_index K (pv 4) (pa_cons (pe_ix (k_ix_tup K) (pe_ix (k_ix_list K) (pv 1) (pv 3) (fun _ _ => rfl)) pe_int (fun _ _ => rfl)) pa_nil)))
      (pss_cons (ps_set (i := 6) S.nd rfl (by first | exact .inl rfl | exact .inr rfl) (pe_ix (k_ix_tup K) (pe_ix (k_ix_tup K) (pe_ix (k_ix_tup K) (pv 0) pe_int (fun _ _ => rfl)) (pv 7) (fun _ _ => rfl)) pe_int (fun _ _ => rfl)))
      (pss_cons (ps_asg (pe_c c_step hr (by decide) (by rfl) (pa_cons (pv 6) (pa_cons (pe_ix (k_ix_tup K) (pv 2) (pv 7) (fun _ _ => rfl)) (pa_cons (pe_ix (k_ix_tup K) (pe_ix (k_ix_list K) (pv 1) (pv 3) (fun _ _ => rfl)) pe_int (fun _ _ => rfl)) (pa_cons (pe_ix (k_ix_tup K) (pe_ix (k_ix_list K) (pv 1) (pv 3) (fun _ _ => rfl)) pe_int (fun _ _ => rfl)) pa_nil))))) (k_pg_tup K (n := 2) rfl (pgs_cons (pg_name (i := 8) S.nd rfl (by first | exact .inl rfl | exact .inr rfl)) (pgs_cons (pg_name (i := 9) S.nd rfl (by first | exact .inl rfl | exact .inr rfl)) pgs_nil))))
      (pss_one (ps_ret (pe_tup (pa_cons (pe_op (k_op_catA K) (pe_op (k_op_catA K) (pe_slice (k_sl_tupA K) (pv 2) po_none (po_some (pv 7))) (pe_tup (pa_cons (pv 8) pa_nil))) (pe_slice (k_sl_tupA K) (pv 2) (po_some (pe_op op_add (pv 7) pe_int)) po_none)) (pa_cons (pv 9) pa_nil)))))))))) (fun Ts T h => ?hbd)
  case hlen =>
    obtain ⟨h, s, n, i, _, _, _, _, rfl, rfl⟩ := h
    rfl
  case hbd =>
    obtain ⟨h, s, n, i, ok, hg, hn, hi, rfl, rfl⟩ := h
    intro σ H s0 D q
    obtain ⟨_, ho, hsm, _⟩ := ok.op hi
    have hol : (opAt h.ops i).o < h.ks.length := (List.getElem?_eq_some_iff.mp ho).1
    have hsl : (opAt h.ops i).o < s.length := by rw [hg.1]; exact hol
    have k3 := ok.k3
    refine q_setF (by simp) s0 (en_lc (Γ1 := fun i' => ⟨[], [some (tyD K (histD h)), some (tyL K (opsD h.ops)), some (tyD K (statesD s)), some (tyI K (i : Int)), none, some (tyS K (objS i')), some (tyS K (kindS (h.ks.getD i' .reg))), none, none, none]⟩)
      (fun _ => true) (fun i => .text (objS i)) (iv_tup (ev_h0 (ev_var rfl))) (by rw [objsD_len]; omega) (fun j hj => ?_) (fun j hj => et_true) (fun j hj _ => ev_var rfl)) fun σ1 H1 e1 s1 => ?_
    · rw [objsD_len] at hj
      rw [objsD_getD hj]
      have : h.ks.getD j .reg = h.ks[j] := by rw [List.getD_eq_getElem?_getD, List.getElem?_eq_getElem hj]; rfl
      rw [this]
      exact gt_tup2 (gt_name (by simp)) (gt_name (by simp))
    · rw [objsD_len] at s1
      refine q_set s1 (ev_index (ev_var rfl) (ev_op1 (ev_listed (ev_var rfl) (ev_var rfl) hi)) hol k3) fun σ2 H2 e2 s2 => ?_
      refine q_set s2 (T := tyS K (kindS (opAt h.ops i).a.kind)) (ev_ix (ev_ixT (ev_h0 (ev_var rfl)) (ev_var rfl) (at_nat (objsD_get ho))) rfl) fun σ3 H3 e3 s3 => ?_
      have hst : (s.map stD)[(opAt h.ops i).o]? = some (stD (s.getD (opAt h.ops i).o (.n 0))) := by
        rw [List.getElem?_map, List.getD_eq_getElem?_getD, List.getElem?_eq_getElem hsl]; rfl
      have hgd : Good1 n (opAt h.ops i).a.kind (s.getD (opAt h.ops i).o (.n 0)) := hg.2 _ _ _ ho (by rw [List.getD_eq_getElem?_getD, List.getElem?_eq_getElem hsl]; rfl)
      refine q_asg (vs := [8, 9]) s3 (ev_call (tb := []) (F := PStepA K) (ea_cons (ev_var rfl) (ea_cons (ev_ixT (ds := s.map stD) (ev_var rfl) (ev_var rfl) (at_nat hst)) (ea_cons (ev_op2 (ev_listed (ev_var rfl) (ev_var rfl) hi)) (ea_cons (ev_op3 (ev_listed (ev_var rfl) (ev_var rfl) hi)) ea_nil)))) ⟨_, _, n, hsm, hgd, hn, rfl, rfl⟩ (by simp)) (gt_tup2 (gt_name (by simp)) (gt_name (by simp))) fun σ4 H4 e4 s4 => ?_
      refine r_end (((e1.trans e2).trans e3).trans e4) s4 (ev_D (ev_two (ev_op (ev_op (ev_sl (ds := s.map stD) (ev_var rfl) eo_none (eo_some (K := K) (ev_var rfl))) (ev_tup (ds := [_]) (ea_cons (ev_var rfl) ea_nil) (by simp)) (rv_cat ?_)) (ev_sl (ds := s.map stD) (ev_var rfl) (eo_some (K := K) (ev_op (ev_var rfl) ev_i rv_I0)) eo_none) (rv_cat ?_)) (ev_var rfl)) ?_) q
      · rw [cut_to (by simp; omega)]
        have := hg.1
        simp; omega
      · rw [cut_to (by simp; omega)]
        rw [show ((((opAt h.ops i).o : Nat) : Int) + 1) = (((opAt h.ops i).o + 1 : Nat) : Int) by omega, cut_from (by simp; omega)]
        have := hg.1
        simp; omega
      · rw [cut_to (by simp; omega)]
        rw [show ((((opAt h.ops i).o : Nat) : Int) + 1) = (((opAt h.ops i).o + 1 : Nat) : Int) by omega, cut_from (by simp; omega), set_cut (by simp; omega)]
        unfold stepO stpO statesD
        rw [← List.map_set] <;> rfl
end OS

end

section
set_option maxHeartbeats 4000000
/-! Typed layer: lists and dicts that change; evaluation from a heap on. -/
namespace OS
open PySem PySem.Spec PyProof.Rows L2 GxR

/-- a list that changes: its data -/
def Lst (K : PySem.W.Frag) (p : Addr) (ds : List D) (H : Hp) : Prop := ∃ xs, H p = some (.lst xs) ∧ Tds K H ds xs
def VD (K : PySem.W.Frag) (H : Hp) : Option V → Option D → Prop
  | none, none => True
  | some v, some d => Td K H d v
  | _, _ => False
/-- a dict with str keys: what stands at a key -/
structure DctV (K : PySem.W.Frag) (H : Hp) (n : Nat) (f : Str → Option D) (kvs : List (Key × V)) : Prop where
  len : kvs.length ≤ n
  str : ∀ kv ∈ kvs, ∃ x : Str, kv.1 = .inr x
  val : ∀ x : Str, VD K H (valV kvs (.inr x)) (f x)
def Dct (K : PySem.W.Frag) (d : Addr) (n : Nat) (f : Str → Option D) (H : Hp) : Prop := ∃ kvs, H d = some (.dK kvs) ∧ DctV K H n f kvs
section
variable {K : PySem.W.Frag} {H H' H0 H1 : Hp} {p q : Addr} {ds : List D} {n : Nat} {f : Str → Option D} {d : D} {S : Addr → Prop}
theorem VD.imm (e : Imm H H') : ∀ {o : Option V} {c : Option D}, VD K H o c → VD K H' o c
  | none, none, h => h
  | some _, some _, h => Td.imm e _ _ h
  | none, some _, h => h
  | some _, none, h => h
theorem DctV.imm {kvs : List (Key × V)} (h : DctV K H n f kvs) (e : Imm H H') : DctV K H' n f kvs := ⟨h.len, h.str, fun x => (h.val x).imm e⟩
theorem Lst.upS (h : Lst K p ds H) (e : ExtS S H H') (hs : ¬ S p) : Lst K p ds H' := by
  obtain ⟨xs, a, b⟩ := h
  exact ⟨xs, e.keep p _ hs a (fun _ z => by cases z), b.imm e.toImm _ _⟩
theorem Lst.up (h : Lst K p ds H) (e : Ext H H') : Lst K p ds H' := h.upS e fun z => z
theorem Dct.upS (h : Dct K p n f H) (e : ExtS S H H') (hs : ¬ S p) : Dct K p n f H' := by
  obtain ⟨xs, a, b⟩ := h
  exact ⟨xs, e.keep p _ hs a (fun _ z => by cases z), b.imm e.toImm⟩
theorem Dct.up (h : Dct K p n f H) (e : Ext H H') : Dct K p n f H' := h.upS e fun z => z
theorem Lst.len (h : Lst K p ds H) : ∃ xs, H p = some (.lst xs) ∧ Tds K H ds xs ∧ xs.length = ds.length := by obtain ⟨xs, a, b⟩ := h; exact ⟨xs, a, b, b.length⟩
theorem Lst.ne (h : Lst K p ds H) (g : Dct K q n f H) : p ≠ q := by
  obtain ⟨xs, a, b⟩ := h
  obtain ⟨ys, c, _⟩ := g
  intro z
  rw [z, c] at a
  cases a
theorem Lst.dom (h : Lst K p ds H) : H p ≠ none := by obtain ⟨xs, a, _⟩ := h; rw [a]; simp
theorem Dct.dom (h : Dct K p n f H) : H p ≠ none := by obtain ⟨xs, a, _⟩ := h; rw [a]; simp
/-- only p, that was not there, has changed -/
theorem Ext.only (e : Ext H0 H) (hp : H0 p = none) (m : ExtS (· = p) H H') : Ext H0 H' :=
  ⟨e.toImm.trans m.toImm, fun a o _ ha nt => m.keep a o (fun z => by rw [z, hp] at ha; cases ha) (e.keep a o (fun z => z) ha nt) nt⟩
theorem ExtS.only (e : ExtS S H0 H) (hp : H0 p = none ∨ S p) (m : ExtS (· = p) H H') : ExtS S H0 H' :=
  ⟨e.toImm.trans m.toImm, fun a o hs ha nt => m.keep a o (fun z => by
    rcases hp with hp | hp
    · rw [z, hp] at ha; cases ha
    · exact hs (z ▸ hp)) (e.keep a o hs ha nt) nt⟩
theorem mut1 {u o : HO} (h : H p = some u) (m : Mu u) : ExtS (· = p) H (upd H p o) := (ExtS.refl H).mut h m (.inr rfl)
theorem Dct.get {x : Str} (h : Dct K p n f H) (e : f x = some d) : ∃ v, Td K H d v ∧ DGet H p (.str x) (some v) := by
  obtain ⟨kvs, a, b⟩ := h
  have := b.val x
  rw [e] at this
  cases hv : valV kvs (.inr x) with
  | none => rw [hv] at this; exact this.elim
  | some v =>
    rw [hv] at this
    exact ⟨v, this, by rw [← hv]; exact DGet.k (k := .inr x) a⟩
theorem Dct.is {x : Str} (h : Dct K p n f H) : ∃ o, DGet H p (.str x) o ∧ o.isSome = (f x).isSome := by
  obtain ⟨kvs, a, b⟩ := h
  refine ⟨_, DGet.k (k := .inr x) a, ?_⟩
  have := b.val x
  cases hv : valV kvs (.inr x) <;> cases hf : f x <;> rw [hv, hf] at this <;> first | rfl | exact this.elim
theorem DctV.put {kvs : List (Key × V)} {v : V} (b : DctV K H n f kvs) (x : Str) (hv : Td K H d v) : DctV K H (n + 1) (fun y => if y = x then some d else f y) (putK kvs (.inr x) v) := by
  refine ⟨Nat.le_trans (length_putK kvs _ v) (Nat.succ_le_succ b.len), fun kv hkv => ?_, fun y => ?_⟩
  · unfold putK at hkv
    split at hkv
    · obtain ⟨kv', h1, rfl⟩ := List.mem_map.mp hkv
      by_cases e : kv'.1 = .inr x
      · rw [if_pos e]; exact ⟨x, e⟩
      · rw [if_neg e]; exact b.str kv' h1
    · rcases List.mem_append.mp hkv with h1 | h1
      · exact b.str kv h1
      · rw [List.mem_singleton] at h1
        subst h1
        exact ⟨x, rfl⟩
  · rw [valV_put]
    by_cases e : y = x
    · subst e
      rw [if_pos rfl, if_pos rfl]
      exact hv
    · rw [if_neg e, if_neg fun z => e (Sum.inr.inj z)]
      exact b.val y
theorem Dct.put {v : V} (h : Dct K p n f H) (x : Str) (hv : Td K H d v) (hn : n < 2000000) : ∃ H', DPut H p (.str x) v H' ∧ ExtS (· = p) H H' ∧ Dct K p (n + 1) (fun y => if y = x then some d else f y) H' := by
  obtain ⟨kvs, a, b⟩ := h
  have m := mut1 (o := .dK (putK kvs (.inr x) v)) a trivial
  exact ⟨_, DPut.k (k := .inr x) a (by rw [sizeLine_eq]; have := b.len; omega), m, _, upd_same, (b.put x hv).imm m.toImm⟩
theorem Dct.mono (h : Dct K p n f H) {m : Nat} (hm : n ≤ m) : Dct K p m f H := let ⟨kvs, a, b⟩ := h; ⟨kvs, a, Nat.le_trans b.len hm, b.str, b.val⟩
theorem Dct.as (h : Dct K p n f H) {g : Str → Option D} (e : ∀ x, f x = g x) : Dct K p n g H := (funext e : f = g) ▸ h
theorem Dct.new {p : Addr} {H : Hp} (h : H p = some (.dK [])) : Dct K p 0 (fun _ => none) H := ⟨[], h, Nat.le_refl _, fun _ z => by simp at z, fun _ => trivial⟩
end

/-! ### evaluation from a heap on -/
def EvL (te : TE) (σ : L2.St) (H : Hp) (T : Ty) : Prop := ∀ H1, Ext H H1 → ∀ Q : VK, (∀ v H', Ext H1 H' → T.is v H' → Q v H') → te σ H1 Q
def EvTL (tt : TT) (σ : L2.St) (H : Hp) (b : Bool) : Prop := ∀ H1, Ext H H1 → ∀ Q : Bool → Hp → Prop, (∀ H', Ext H1 H' → Q b H') → tt σ H1 Q
def EvAL (ta : TA) (σ : L2.St) (H : Hp) (Ts : List Ty) : Prop := ∀ H1, Ext H H1 → ∀ Q : List V → Hp → Prop, (∀ vs H', Ext H1 H' → Alls Ts vs H' → Q vs H') → ta σ H1 Q
section
variable {K : PySem.W.Frag} {Γ Γ' : Gam} {T U W : Ty} {ta tb te : TE} {t u : TT} {d e : D} {ds es : List D} {b c : Bool} {x y : Str} {σ : L2.St} {H H0 H1 : Hp} {p q : Addr} {n : Nat} {f : Str → Option D} {Ts : List Ty} {tr : TA} {k : Int}
theorem Ev.loc (h : Ev te Γ T) (s : Sty Γ σ H) : EvL te σ H T := fun H1 e1 Q q => h σ H1 (s.imm e1.toImm) Q q
theorem EvT.loc (h : EvT t Γ b) (s : Sty Γ σ H) : EvTL t σ H b := fun H1 e1 Q q => h σ H1 (s.imm e1.toImm) Q q
theorem EvA.loc (h : EvA tr Γ Ts) (s : Sty Γ σ H) : EvAL tr σ H Ts := fun H1 e1 Q q => h σ H1 (s.imm e1.toImm) Q q
theorem EvL.up (h : EvL te σ H T) (e : Ext H H1) : EvL te σ H1 T := fun H2 e2 Q q => h H2 (e.trans e2) Q q
theorem EvTL.up (h : EvTL t σ H b) (e : Ext H H1) : EvTL t σ H1 b := fun H2 e2 Q q => h H2 (e.trans e2) Q q
theorem EvL.isD (h : EvL te σ H (tyD K d)) (q : d = e) : EvL te σ H (tyD K e) := q ▸ h
theorem EvL.isB (h : EvL te σ H (tyB b)) (q : b = c) : EvL te σ H (tyB c) := q ▸ h
theorem EvTL.is (h : EvTL t σ H b) (q : b = c) : EvTL t σ H c := q ▸ h
theorem la_nil : EvAL tNil σ H [] := fun H1 _ Q q => q [] H1 (ExtS.refl _) rfl
theorem la_cons (h : EvL te σ H T) (hr : EvAL tr σ H Ts) : EvAL (tCons te tr) σ H (T :: Ts) := fun H1 e1 Q q =>
  h H1 e1 _ fun v H2 e2 r2 => hr H2 (e1.trans e2) _ fun vs H3 e3 r3 => q _ H3 (e2.trans e3) ⟨v, vs, rfl, T.mono e3.toImm r2, r3⟩
theorem l_op {r : R2} (ha : EvL ta σ H T) (hb : EvL tb σ H U) (hr : RV r T U W) : EvL (tOp r ta tb) σ H W := fun H1 e1 Q q =>
  ha H1 e1 _ fun x H2 e2 r1 => hb H2 (e1.trans e2) _ fun y H3 e3 r2 => hr x y H3 (T.mono e3.toImm r1) r2 Q fun v H4 e4 r4 => q v H4 ((e2.trans e3).trans e4) r4
theorem l_tup {ta : TA} (h : EvAL ta σ H (ds.map (tyD K))) (hl : ds.length ≤ 1000) : EvL (tTup ta) σ H (tyT K ds) := fun H1 e1 Q q =>
  h H1 e1 _ fun vs H2 e2 r1 => by
    have r2 := alls_tds r1
    refine ⟨by rw [r2.length, sizeLine_eq]; omega, fun p hp => q _ _ (e2.trans (Ext.new hp)) ⟨p, vs, rfl, .inl (.inl upd_same), r2.imm (Ext.new hp).toImm _ _⟩⟩
theorem l_cb {r : List V → Hp → VK → Prop} {ta : TA} (h : EvAL ta σ H Ts) (hr : RC r Ts W) : EvL (tCB r ta) σ H W := fun H1 e1 Q q =>
  h H1 e1 _ fun vs H2 e2 r1 => hr vs H2 r1 Q fun v H3 e3 r3 => q v H3 (e2.trans e3) r3
theorem l_call {tb : List Addr} {F : List Ty → Ty → Prop} {ta : TA} {E : XK} (s : Sty Γ σ H) (h : EvAL ta σ H Ts) (hF : F Ts T) (ht : ∀ P ∈ tb, P ∈ Γ.tb) : EvL (tCall (Pm tb F) [] E ta) σ H T := fun H1 e1 Q q => h H1 e1 _ fun vs H2 e2 r => by
  refine ⟨Ts, T, hF, by rw [List.append_nil]; exact r, fun P hP => (e1.trans e2).tab P (s.tab P (ht P hP)), fun v H3 e3 r2 => q v H3 (e2.trans e3) r2⟩
theorem l_ix {k : Int} (ha : EvL ta σ H (tyT K ds)) (h : atI ds k = some d) : EvL (tOp (rIxT K) ta (tC (.int k))) σ H (tyD K d) := l_op ha (fun H1 _ Q q => q _ H1 (ExtS.refl _) rfl) (rv_ixT h)
theorem l_sl {tl th : TO} {lo hi : Option Int} (s : Sty Γ σ H) (ha : EvL ta σ H (tyT K ds)) (h1 : EvO tl Γ lo) (h2 : EvO th Γ hi) : EvL (tSl (rSlA K) ta tl th) σ H (tyT K (cutD ds lo hi)) := fun H0 e0 Q q =>
  ha H0 e0 _ fun v H1 e1 r1 => h1 σ H1 (s.imm (e0.trans e1).toImm) _ fun H2 e2 => h2 σ H2 (s.imm ((e0.trans e1).trans e2).toImm) _ fun H3 e3 => by
    obtain ⟨a, xs, rfl, sq, t⟩ := (tyT K ds).mono (e2.trans e3).toImm r1
    have e := (e1.trans e2).trans e3
    refine ⟨a, xs, rfl, sq, fun hw => q _ H3 e ⟨a, xs, rfl, sq, ?_⟩, fun hw p hp => q _ _ (e.trans (Ext.new hp)) ⟨p, _, rfl, .inl (.inl upd_same), (tds_cut t lo hi).imm (Ext.new hp).toImm _ _⟩⟩
    have : cutD ds lo hi = ds := by
      unfold cutD
      rw [← t.length, hw.1, hw.2, List.drop_zero, Nat.sub_zero, t.length, List.take_length]
    rw [this]
    exact t
/-- l[i] of a list that changes -/
theorem l_ixM (L : Lst K p ds H) (ha : EvL ta σ H (tyR p)) (hb : EvL tb σ H (tyI K k)) (h : atI ds k = some d) : EvL (tOp (rIxL K) ta tb) σ H (tyD K d) := fun H1 e1 Q q =>
  ha H1 e1 _ fun x H2 e2 r1 => hb H2 (e1.trans e2) _ fun y H3 e3 r2 => by
    obtain rfl : x = .ref p := r1
    obtain rfl : y = .int k := r2
    obtain ⟨xs, a, t⟩ := L.up ((e1.trans e2).trans e3)
    obtain ⟨m, g1, g2, _, _⟩ := atI_get h
    obtain ⟨v, g3, g4⟩ := t.get g2
    refine ⟨p, xs, k, v, rfl, rfl, .inl (.inl a), ?_, q v H3 (e2.trans e3) g4⟩
    unfold atI at h ⊢
    rw [t.length]
    cases e5 : ixN ds.length k with
    | none => rw [e5] at h; cases h
    | some n =>
      rw [e5] at h
      have : m = n := by
        have := (ixN_seq e5).1
        rw [g1] at this
        exact Option.some.inj this
      subst this
      exact g3
theorem l_lenM (L : Lst K p ds H) (ha : EvL ta σ H (tyR p)) : EvL (tCB (rLenS K) (tCons ta tNil)) σ H (tyI K (ds.length : Int)) := fun H1 e1 Q q =>
  ha H1 e1 _ fun x H2 e2 r1 => by
    obtain rfl : x = .ref p := r1
    obtain ⟨xs, a, t⟩ := L.up (e1.trans e2)
    exact ⟨p, xs, rfl, .inl (.inl (.inl a)), q _ H2 e2 (by show V.int _ = V.int _; rw [t.length])⟩
theorem l_dget (L : Dct K p n f H) (ha : EvL ta σ H (tyR p)) (hb : EvL tb σ H (tyS K x)) (h : f x = some d) : EvL (tDGet ta tb) σ H (tyD K d) := fun H1 e1 Q q =>
  ha H1 e1 _ fun a H2 e2 r1 => hb H2 (e1.trans e2) _ fun y H3 e3 r2 => by
    obtain rfl : a = .ref p := r1
    obtain rfl : y = .str x := r2
    obtain ⟨v, g1, g2⟩ := (L.up ((e1.trans e2).trans e3)).get h
    exact ⟨p, v, rfl, g2, q v H3 (e2.trans e3) g1⟩
theorem l_din (L : Dct K p n f H) (hb : EvL tb σ H (tyS K x)) (ha : EvL ta σ H (tyR p)) : EvL (tDIn tb ta) σ H (tyB (f x).isSome) := fun H1 e1 Q q =>
  hb H1 e1 _ fun y H2 e2 r2 => ha H2 (e1.trans e2) _ fun a H3 e3 r1 => by
    obtain rfl : a = .ref p := r1
    obtain rfl : y = .str x := r2
    obtain ⟨o, g1, g2⟩ := (L.up ((e1.trans e2).trans e3)).is (x := x)
    exact ⟨p, o, rfl, g1, q _ H3 (e2.trans e3) (by rw [g2]; rfl)⟩
theorem l_dnin (L : Dct K p n f H) (hb : EvL tb σ H (tyS K x)) (ha : EvL ta σ H (tyR p)) : EvL (tDNotIn tb ta) σ H (tyB (!(f x).isSome)) := fun H1 e1 Q q =>
  hb H1 e1 _ fun y H2 e2 r2 => ha H2 (e1.trans e2) _ fun a H3 e3 r1 => by
    obtain rfl : a = .ref p := r1
    obtain rfl : y = .str x := r2
    obtain ⟨o, g1, g2⟩ := (L.up ((e1.trans e2).trans e3)).is (x := x)
    exact ⟨p, o, rfl, g1, q _ H3 (e2.trans e3) (by rw [g2]; rfl)⟩
theorem lt_test (h : EvL te σ H (tyB b)) : EvTL (tTest te) σ H b := fun H1 e1 Q q => h H1 e1 _ fun v H2 e r => ⟨b, r, q H2 e⟩
theorem lt_B (h : EvL te σ H (tyB b)) : EvTL (tB te) σ H b := fun H1 e1 Q q => h H1 e1 _ fun v H2 e r => ⟨b, r, q H2 e⟩
theorem lt_and (h1 : EvTL t σ H b) (h2 : b = true → EvTL u σ H c) : EvTL (tAnd t u) σ H (b && c) := fun H0 e0 Q q => h1 H0 e0 _ fun H1 e1 => by
  cases b with
  | true =>
    show u σ H1 Q
    exact h2 rfl H1 (e0.trans e1) Q fun H2 e2 => q H2 (e1.trans e2)
  | false => exact q H1 e1
theorem lt_or (h1 : EvTL t σ H b) (h2 : b = false → EvTL u σ H c) : EvTL (tOr t u) σ H (b || c) := fun H0 e0 Q q => h1 H0 e0 _ fun H1 e1 => by
  cases b with
  | false =>
    show u σ H1 Q
    exact h2 rfl H1 (e0.trans e1) Q fun H2 e2 => q H2 (e1.trans e2)
  | true => exact q H1 e1
theorem l_var {i : Nat} (s : Sty Γ σ H) (h : Γ.l[i]? = some (some T)) : EvL (tVar i) σ H T := (ev_var h).loc s

/-! statements -/
variable {Dd : Ends} {tu tw tz ts : TS} {vs : List Nat} {g : TG}
theorem m_asg (s : Sty Γ σ H) (h : EvL te σ H T) (hg : Gt g vs Γ T Γ') (k : ∀ σ' H', Ext H H' → Sty Γ' σ' H' → Dd.nx σ' H') : tAsg te g Dd σ H :=
  h H (ExtS.refl _) _ fun v H1 e r => hg v σ H1 (s.imm e.toImm) r _ fun σ' s' _ => k σ' H1 e s'
theorem p_asg (s : Sty Γ σ H) (h : EvL te σ H T) (hg : Gt g vs Γ T Γ') (k : ∀ σ' H', Ext H H' → Sty Γ' σ' H' → tz Dd σ' H') : tSeq (tAsg te g) tz Dd σ H := m_asg (Dd := { Dd with nx := tz Dd }) s h hg k
theorem p_set {i : Nat} (s : Sty Γ σ H) (h : EvL te σ H T) (k : ∀ σ' H', Ext H H' → Sty (Γ.set i (some T)) σ' H' → tz Dd σ' H') : tSeq (tAsg te (gName i)) tz Dd σ H := p_asg (vs := [i]) s h (gt_name (by simp)) k
theorem m_set {i : Nat} (s : Sty Γ σ H) (h : EvL te σ H T) (k : ∀ σ' H', Ext H H' → Sty (Γ.set i (some T)) σ' H' → Dd.nx σ' H') : tAsg te (gName i) Dd σ H := m_asg (vs := [i]) s h (gt_name (by simp)) k
theorem m_if (s : Sty Γ σ H) (h : EvTL t σ H b) (h1 : b = true → ∀ H', Ext H H' → Sty Γ σ H' → tu Dd σ H') (h2 : b = false → ∀ H', Ext H H' → Sty Γ σ H' → tw Dd σ H') : tIfS t tu tw Dd σ H := h H (ExtS.refl _) _ fun H1 e => by
  cases b with
  | true =>
    show tu Dd σ H1
    exact h1 rfl H1 e (s.imm e.toImm)
  | false =>
    show tw Dd σ H1
    exact h2 rfl H1 e (s.imm e.toImm)
theorem p_if (s : Sty Γ σ H) (h : EvTL t σ H b) (h1 : b = true → ∀ H', Ext H H' → Sty Γ σ H' → tu { Dd with nx := tz Dd } σ H') (h2 : b = false → ∀ H', Ext H H' → Sty Γ σ H' → tw { Dd with nx := tz Dd } σ H') : tSeq (tIfS t tu tw) tz Dd σ H := m_if (Dd := { Dd with nx := tz Dd }) s h h1 h2
/-- l.append(e) -/
theorem m_app (s : Sty Γ σ H) (L : Lst K p ds H) (ha : Ev ta Γ (tyR p)) (h : EvL te σ H (tyD K d)) (hz : ds.length < 2000000) (k : ∀ H', ExtS (· = p) H H' → Sty Γ σ H' → Lst K p (ds ++ [d]) H' → Dd.nx σ H') :
    tDrop (tBM K "list" rAppend ta (tCons te tNil)) Dd σ H := ha σ H s _ fun w H1 e1 r1 => by
  obtain rfl : w = .ref p := r1
  obtain ⟨xs, a, t, hl⟩ := (L.up e1).len
  refine ⟨.inl ⟨rfl, xs, .inl (.inl a)⟩, h H1 e1 _ fun v H2 e2 r2 => ?_⟩
  have a2 := e2.keep p _ (fun z => z) a (fun _ z => by cases z)
  have m := mut1 (o := .lst (xs ++ [v])) a2 trivial
  have mm : ExtS (· = p) H (upd H2 p (.lst (xs ++ [v]))) := (Ext.to (e1.trans e2)).trans m
  exact ⟨p, xs, v, rfl, rfl, a2, by rw [sizeLine_eq]; omega, k _ mm (s.imm mm.toImm) ⟨_, upd_same, ((t.imm e2.toImm _ _).snoc r2).imm m.toImm _ _⟩⟩
theorem p_app (s : Sty Γ σ H) (L : Lst K p ds H) (ha : Ev ta Γ (tyR p)) (h : EvL te σ H (tyD K d)) (hz : ds.length < 2000000) (k : ∀ H', ExtS (· = p) H H' → Sty Γ σ H' → Lst K p (ds ++ [d]) H' → tz Dd σ H') :
    tSeq (tDrop (tBM K "list" rAppend ta (tCons te tNil))) tz Dd σ H := m_app (Dd := { Dd with nx := tz Dd }) s L ha h hz k
/-- l[i] = e -/
theorem m_setL {j : Nat} (s : Sty Γ σ H) (L : Lst K p ds H) (h : EvL te σ H (tyD K d)) (ho : Ev ta Γ (tyR p)) (hi : Ev tb Γ (tyI K (j : Int))) (hj : j < ds.length) (k : ∀ H', ExtS (· = p) H H' → Sty Γ σ H' → Lst K p (ds.set j d) H' → Dd.nx σ H') :
    tAsg te (gSub ta tb rSetL) Dd σ H := h H (ExtS.refl _) _ fun v H1 e1 r1 => ho σ H1 (s.imm e1.toImm) _ fun w H2 e2 r2 => hi σ H2 (s.imm (e1.trans e2).toImm) _ fun y H3 e3 r3 => by
  obtain rfl : w = .ref p := r2
  obtain rfl : y = .int (j : Int) := r3
  have e := (e1.trans e2).trans e3
  obtain ⟨xs, a, t, hl⟩ := (L.up e).len
  have m := mut1 (o := .lst (xs.set j v)) a trivial
  have mm : ExtS (· = p) H (upd H3 p (.lst (xs.set j v))) := (Ext.to e).trans m
  refine ⟨p, xs, (j : Int), j, rfl, rfl, a, ?_, k _ mm (s.imm mm.toImm) ⟨_, upd_same, (t.set j (r1.imm (e2.trans e3).toImm _ _)).imm m.toImm _ _⟩⟩
  unfold ixN
  rw [if_pos (by omega), if_pos (by omega)]
  simp
/-- d[x] = e -/
theorem m_setD (s : Sty Γ σ H) (L : Dct K p n f H) (h : EvL te σ H (tyD K d)) (ho : Ev ta Γ (tyR p)) (hi : Ev tb Γ (tyS K x)) (hn : n < 2000000) (k : ∀ H', ExtS (· = p) H H' → Sty Γ σ H' → Dct K p (n + 1) (fun y => if y = x then some d else f y) H' → Dd.nx σ H') :
    tAsg te (gSub ta tb rSetD) Dd σ H := h H (ExtS.refl _) _ fun v H1 e1 r1 => ho σ H1 (s.imm e1.toImm) _ fun w H2 e2 r2 => hi σ H2 (s.imm (e1.trans e2).toImm) _ fun y H3 e3 r3 => by
  obtain rfl : w = .ref p := r2
  obtain rfl : y = .str x := r3
  have e := (e1.trans e2).trans e3
  obtain ⟨H', g1, g2, g3⟩ := (L.up e).put x (r1.imm (e2.trans e3).toImm _ _) hn
  have mm : ExtS (· = p) H H' := (Ext.to e).trans g2
  exact ⟨p, H', rfl, g1, k _ mm (s.imm mm.toImm) g3⟩
theorem p_setD (s : Sty Γ σ H) (L : Dct K p n f H) (h : EvL te σ H (tyD K d)) (ho : Ev ta Γ (tyR p)) (hi : Ev tb Γ (tyS K x)) (hn : n < 2000000) (k : ∀ H', ExtS (· = p) H H' → Sty Γ σ H' → Dct K p (n + 1) (fun y => if y = x then some d else f y) H' → tz Dd σ H') :
    tSeq (tAsg te (gSub ta tb rSetD)) tz Dd σ H := m_setD (Dd := { Dd with nx := tz Dd }) s L h ho hi hn k
/-- a new list that changes -/
theorem p_new {i : Nat} (s : Sty Γ σ H) (h : EvN K te Γ ds) (k : ∀ p σ' H', H p = none → Ext H H' → Lst K p ds H' → Sty (Γ.set i (some (tyR p))) σ' H' → tz Dd σ' H') : tSeq (tAsg te (gName i)) tz Dd σ H :=
  q_new s h fun p xs σ' H' hp e a r s' => k p σ' H' hp e ⟨xs, a, r⟩ s'
theorem p_newK {i : Nat} (s : Sty Γ σ H) (k : ∀ p σ' H', H p = none → Ext H H' → Dct K p 0 (fun _ => none) H' → Sty (Γ.set i (some (tyR p))) σ' H' → tz Dd σ' H') : tSeq (tAsg tDNewK (gName i)) tz Dd σ H :=
  q_newK s fun p σ' H' hp e a s' => k p σ' H' hp e (Dct.new a) s'
theorem p_nil (K : PySem.W.Frag) {i : Nat} (s : Sty Γ σ H) (k : ∀ p σ' H', H p = none → Ext H H' → Lst K p [] H' → Sty (Γ.set i (some (tyR p))) σ' H' → tz Dd σ' H') : tSeq (tAsg (tLst tNil) (gName i)) tz Dd σ H := p_new (ds := []) s (en_lst ea_nil (by simp)) k
/-- return of a list that changed -/
theorem m_retF (s : Sty Γ σ H) (e0 : Ext H0 H) (h0 : H0 p = none) (L : Lst K p ds H) (ha : Ev ta Γ (tyR p)) (k : ∀ v H', Ext H0 H' → (tyL K ds).is v H' → Dd.rt v H') : tRet (tFrz ta) Dd σ H := ha σ H s _ fun w H1 e1 r1 => by
  obtain rfl : w = .ref p := r1
  obtain ⟨xs, a, t⟩ := L.up e1
  exact ⟨p, xs, rfl, a, fun o => k _ _ (ExtS.freeze (e0.trans e1) a (.inl h0)) ⟨p, xs, rfl, .inl ⟨o, upd_same⟩, t.imm (Imm.mut a trivial) _ _⟩⟩
end
end OS

end

section
set_option maxHeartbeats 4000000
namespace OS
open PySem PySem.Spec PyProof.Rows L2 GxR OSx

/-! ### numbered, operations -/
/-- the place of the operation of event i -/
def numAt (ev : List OSx.Ev) (i : Nat) : Nat := match ev[i]? with
  | some (.call _ _ _) => (accOf (ev.take i)).l.length
  | some (.ret c _) => (accOf (ev.take i)).w c
  | none => 0
def numsOf (ev : List OSx.Ev) (n : Nat) : List Int := (List.range n).map fun i => (numAt ev i : Int)
theorem numsOf_succ (ev : List OSx.Ev) (n : Nat) : nums (numsOf ev (n + 1)) = nums (numsOf ev n) ++ [.num (numAt ev n : Int)] := by
  unfold numsOf nums
  rw [List.range_succ, List.map_append, List.map_append] <;> rfl
def PNum (K : PySem.W.Frag) : List Ty → Ty → Prop := fun Ts T => ∃ h : Hist, h.Ok ∧ Ts = [tyD K (histD h)] ∧ T = tyL K (nums (numsOf h.ev h.ev.length))
/-- the waiting dict: who has called, where -/
def wtF (x : Acc) (g : Nat → Bool) : Str → Option D := fun s => if s = "c" then (if g 0 then some (.num (x.w 0 : Int)) else none) else if s = "d" then (if g 1 then some (.num (x.w 1 : Int)) else none) else if s = "e2" then (if g 2 then some (.num (x.w 2 : Int)) else none) else none
theorem wtF_at (x : Acc) (g : Nat → Bool) {c : Nat} (hc : c < 3) : wtF x g (cliS c) = if g c then some (.num (x.w c : Int)) else none := by
  match c, hc with
  | 0, _ => rfl
  | 1, _ => rfl
  | 2, _ => rfl
theorem cli_cases (s : Str) : (∃ c, c < 3 ∧ s = cliS c) ∨ (s ≠ "c" ∧ s ≠ "d" ∧ s ≠ "e2") := by
  by_cases h1 : s = "c"
  · exact .inl ⟨0, by decide, h1⟩
  · by_cases h2 : s = "d"
    · exact .inl ⟨1, by decide, h2⟩
    · by_cases h3 : s = "e2"
      · exact .inl ⟨2, by decide, h3⟩
      · exact .inr ⟨h1, h2, h3⟩
theorem evD_getD {ev : List OSx.Ev} {i : Nat} {e : OSx.Ev} (h : ev[i]? = some e) : (ev.map evD).getD i .none = evD e := by
  rw [List.getD_eq_getElem?_getD, List.getElem?_map, h]; rfl
theorem cliS_lit {c : Nat} (hc : c < 3) : cliS c = "c" ∨ cliS c = "d" ∨ cliS c = "e2" := by
  match c, hc with
  | 0, _ => exact .inl rfl
  | 1, _ => exact .inr (.inl rfl)
  | 2, _ => exact .inr (.inr rfl)
theorem sc_numbered : FnScope ["some_history", "numbers", "waiting", "many", "event"] ["some_history"] (defScope (top 11)) := C8.fnScope_by (by decide +kernel)
theorem cal_numbered {P : Program} {w : World} {K : PySem.W.Frag} {mg : Str → Option Value} {base : Heap} {f : Addr} {fd : FuncData} {cdv : Value} (F : FunC K mg "numbered" (top 11) f fd cdv) (M : Nm mg)   : Cal P w K mg base (2 + 1) "numbered" (Pm [] (PNum K)) := by
  have b := F.binds (ps := ["some_history"]) fun _ _ _ _ _ _ us hl => match us, hl with | [_], _ => rfl
  have kds := F.kds
  have S := sc_numbered
  refine cal1 F b sc_numbered (fun Ts T h => ?hlen) (fun A outer s H E hr => have hu := hr.units; have hu1 := hu_of hr;
      (pss_cons (ps_set (i := 1) S.nd rfl (by first | exact .inl rfl | exact .inr rfl) (pe_lst pa_nil))
      (pss_cons (ps_set (i := 2) S.nd rfl (by first | exact .inl rfl | exact .inr rfl) pe_dnewK)
      (pss_cons (ps_set (i := 3) S.nd rfl (by first | exact .inl rfl | exact .inr rfl) pe_int)
      (pss_cons (ps_for PassesOwn.never rfl (k_pi_tup K (pe_ix (k_ix_tup K) (pv 0) pe_int (fun _ _ => rfl))) (pg_name (i := 4) S.nd rfl (by first | exact .inl rfl | exact .inr rfl))
        (pss_cons (ps_if (pt_cmpR (k_op_eqD K hu) (pe_ix (k_ix_tup K) (pv 4) pe_int (fun _ _ => rfl)) pe_str (nomark _))
          (pss_cons (ps_asg (pv 3) (pg_sub (pv 2) (pe_ix (k_ix_tup K) (pv 4) pe_int (fun _ _ => rfl)) (set_dict hu1)))
          (pss_one (ps_aug (i := 3) S.nd rfl (by first | exact .inl rfl | exact .inr rfl) pe_int ip_add)))
          pss_nil)
        (pss_one (ps_expr (k_append K (pv 1) (pa_cons (pe_dget hu1 (pv 2) (pe_ix (k_ix_tup K) (pv 4) pe_int (fun _ _ => rfl)) (fun _ _ => rfl)) pa_nil))))))
      (pss_one (ps_ret (pe_frz (pv 1))))))))) (fun Ts T h => ?hbd)
  case hlen =>
    obtain ⟨h, _, rfl, rfl⟩ := h
    rfl
  case hbd =>
    obtain ⟨h, ok, rfl, rfl⟩ := h
    intro σ H s D q
    refine p_nil K s fun p σ1 H1 hp1 e1 L1 s1 => ?_
    refine p_newK (K := K) s1 fun d σ2 H2 hd2 e2 D2 s2 => ?_
    refine q_set s2 (ev_i (K := K)) fun σ3 H3 e3 s3 => ?_
    have L3 := L1.up (e2.trans e3)
    have D3 := D2.up e3
    have hpd : p ≠ d := fun z => L1.dom (z ▸ hd2)
    have hd0 : H d = none := e1.dom d hd2
    have e03 := (e1.trans e2).trans e3
    refine q_for s3 (iv_tup (ev_h1 (ev_var rfl))) fun H4 e4 s4 => ?_
    let Γi : Nat → Gam := fun i => ⟨[], [some (tyD K (histD h)), some (tyR p), some (tyR d), some (tyI K ((accOf (h.ev.take i)).l.length : Int)), none]⟩
    let M : Nat → Hp → Prop := fun i H' => Imm H4 H' ∧ Ext H H' ∧ Lst K p (nums (numsOf h.ev i)) H' ∧ ∃ g : Nat → Bool, Dct K d i (wtF (accOf (h.ev.take i)) g) H' ∧ ∀ c, (accOf (h.ev.take i)).f c = true → g c = true
    refine ⟨Γi, M, ⟨s4.len, s4.at_, s4.tab⟩, ⟨Imm.refl _, e03.trans e4, L3.up e4, fun _ => false, (D3.up e4).as fun x => by simp [wtF], fun c z => (by cases z)⟩, fun i H' m => m.1, fun i σ' H' hi si mi x H2' ex rx s' => ?_, fun σ' H' sn mn => ?_⟩
    · obtain ⟨m1, m2, mL, g, mD, mg'⟩ := mi
      rw [List.length_map] at hi
      obtain ⟨ev, hev⟩ : ∃ e, h.ev[i]? = some e := get_lt hi
      have hacc := accOf_take hev
      rw [evD_getD hev] at rx
      have mL' := mL.up ex
      have mD' := mD.up ex
      have few := ok.few
      have hokev := ok.wf i ev hev
      have snx : Sty ((Γi i).set 4 (some (tyD K (evD ev)))) (σ'.set 4 (some x)) H2' := s'.set rx
      show tSeq _ _ _ (σ'.set 4 (some x)) H2'
      cases ev with
      | call c o a =>
        obtain ⟨hc, hf, ho, hsm⟩ := hokev
        refine q_yes snx (et_str (ev_ix (ev_var rfl) rfl) (by decide +kernel) (decide_eq_true rfl)) fun H5 e5 s5 => ?_
        refine p_setD s5 (mD'.up e5) (ev_var rfl |>.loc s5) (ev_var rfl) (ev_ix (d := .text (cliS c)) (ev_var rfl) rfl) (by omega) fun H6 e6 s6 D6 => ?_
        refine s_aug s6 rfl ev_i fun σ7 H7 e7 s7 => ?_
        have L7 := ((mL'.up e5).upS e6 hpd).up e7
        have D7 := D6.up e7
        have hval : (fun y => if y = cliS c then some (NestedKey.num ((accOf (h.ev.take i)).l.length : Int)) else wtF (accOf (h.ev.take i)) g y) (cliS c) = some (.num ((accOf (h.ev.take i)).l.length : Int)) := if_pos rfl
        refine m_app s7 L7 (ev_var rfl) (l_dget D7 (l_var s7 rfl) ((ev_ix (d := .text (cliS c)) (ev_var rfl) rfl).loc s7) hval) (by simp [nums, numsOf]; omega) fun H8 e8 s8 L8 => ?_
        have eall : ExtS (fun a => a = p ∨ a = d) H2' H8 := ((((Ext.to e5).trans (e6.mono fun a z => .inr z)).trans (Ext.to e7)).trans (e8.mono fun a z => .inl z))
        have e28 : Ext H H8 := Ext.only ((Ext.only ((m2.trans ex).trans e5) hd0 e6).trans e7) hp1 e8
        refine ⟨?_, m1.trans (ex.toImm.trans eall.toImm), e28, ?_, fun y => if y = c then true else g y, ((D7.upS e8 hpd.symm).as fun y => ?_), fun y hy => ?_⟩
        · have hlen : (((accOf (h.ev.take (i + 1))).l.length : Nat) : Int) = ((accOf (h.ev.take i)).l.length : Int) + 1 := by
            rw [hacc]
            show (((accOf (h.ev.take i)).l ++ [_]).length : Int) = _
            rw [List.length_append]; simp
          show Sty ⟨[], [some (tyD K (histD h)), some (tyR p), some (tyR d), some (tyI K (((accOf (h.ev.take (i + 1))).l.length : Nat) : Int)), none]⟩ _ _
          rw [hlen]
          exact s8.lose (i := 4)
        · rw [numsOf_succ]
          have : numAt h.ev i = (accOf (h.ev.take i)).l.length := by unfold numAt; rw [hev]
          rw [this]
          exact L8
        · have hw : (accOf (h.ev.take (i + 1))).w = fun z => if z = c then (accOf (h.ev.take i)).l.length else (accOf (h.ev.take i)).w z := by rw [hacc]; rfl
          rcases cli_cases y with ⟨c', hc', rfl⟩ | ⟨h1, h2, h3⟩
          · rw [wtF_at _ _ hc', wtF_at _ _ hc', hw]
            by_cases e : c' = c
            · subst e
              simp
            · rw [if_neg fun z => e (cliS_inj hc' hc z), if_neg e]
              simp [e]
          · have hne : ¬ y = cliS c := fun z => by
              rcases cliS_lit hc with g | g | g <;> rw [g] at z
              · exact h1 z
              · exact h2 z
              · exact h3 z
            rw [if_neg hne]
            unfold wtF
            rw [if_neg h1, if_neg h2, if_neg h3, if_neg h1, if_neg h2, if_neg h3]
        · by_cases e : y = c
          · show (if y = c then true else g y) = true
            rw [if_pos e]
          · show (if y = c then true else g y) = true
            rw [if_neg e]
            rw [hacc] at hy
            have : (if y = c then true else (accOf (h.ev.take i)).f y) = true := hy
            rw [if_neg e] at this
            exact mg' y this
      | ret c r =>
        obtain ⟨hc, hf⟩ := hokev
        refine q_no snx (et_str (ev_ix (ev_var rfl) rfl) (by decide +kernel) (decide_eq_false (by decide +kernel))) fun H5 e5 s5 => ?_
        have L5 := mL'.up e5
        have D5 := mD'.up e5
        have hval : wtF (accOf (h.ev.take i)) g (cliS c) = some (.num ((accOf (h.ev.take i)).w c : Int)) := by rw [wtF_at _ _ hc, if_pos (mg' c hf)]
        refine m_app s5 L5 (ev_var rfl) (l_dget D5 (l_var s5 rfl) ((ev_ix (d := .text (cliS c)) (ev_var rfl) rfl).loc s5) hval) (by simp [nums, numsOf]; omega) fun H8 e8 s8 L8 => ?_
        have e28 : Ext H H8 := Ext.only ((m2.trans ex).trans e5) hp1 e8
        refine ⟨?_, m1.trans ((ex.toImm.trans e5.toImm).trans e8.toImm), e28, ?_, g, ((D5.upS e8 hpd.symm).as fun y => ?_).mono (Nat.le_succ _), fun y hy => ?_⟩
        · have hlen : (((accOf (h.ev.take (i + 1))).l.length : Nat) : Int) = ((accOf (h.ev.take i)).l.length : Int) := by
            rw [hacc]
            show (((accOf (h.ev.take i)).l.modify _ _).length : Int) = _
            rw [List.length_modify]
          show Sty ⟨[], [some (tyD K (histD h)), some (tyR p), some (tyR d), some (tyI K (((accOf (h.ev.take (i + 1))).l.length : Nat) : Int)), none]⟩ _ _
          rw [hlen]
          exact s8.lose (i := 4)
        · rw [numsOf_succ]
          have : numAt h.ev i = (accOf (h.ev.take i)).w c := by unfold numAt; rw [hev]
          rw [this]
          exact L8
        · have hw : (accOf (h.ev.take (i + 1))).w = (accOf (h.ev.take i)).w := by rw [hacc]; rfl
          unfold wtF
          rw [hw]
        · rw [hacc] at hy
          have : (if y = c then false else (accOf (h.ev.take i)).f y) = true := hy
          by_cases e : y = c
          · rw [if_pos e] at this; cases this
          · rw [if_neg e] at this; exact mg' y this
    · rw [List.length_map] at sn mn
      exact m_retF sn mn.2.1 hp1 mn.2.2.1 (ev_var rfl) q

theorem modify_set {α β : Type} {l : List α} {j : Nat} {x : α} (f : α → α) (g : α → β) (h : l[j]? = some x) : (l.modify j f).map g = (l.map g).set j (g (f x)) := by
  refine List.ext_getElem? fun i => ?_
  rw [List.getElem?_map]
  by_cases e : j = i
  · subst e
    rw [List.getElem?_modify_eq, h, List.getElem?_set_self (by simp; exact (List.getElem?_eq_some_iff.mp h).1)] <;> rfl
  · rw [List.getElem?_modify_ne _ _ e, List.getElem?_set_ne e, List.getElem?_map]
def POps (K : PySem.W.Frag) : List Ty → Ty → Prop := fun Ts T => ∃ h : Hist, h.Ok ∧ Ts = [tyD K (histD h)] ∧ T = tyL K (opsD h.ops)
theorem numsOf_get (ev : List OSx.Ev) {n i : Nat} (h : i < n) : (nums (numsOf ev n))[i]? = some (.num (numAt ev i : Int)) := by
  unfold nums numsOf
  rw [List.getElem?_map, List.getElem?_map, List.getElem?_range h] <;> rfl
theorem ops_few {h : Hist} (ok : h.Ok) (i : Nat) : (accOf (h.ev.take i)).l.length ≤ i := by
  induction i with
  | zero => exact Nat.le_refl _
  | succ i ih =>
    by_cases hi : i < h.ev.length
    · rw [accOf_take (List.getElem?_eq_getElem hi)]
      cases h.ev[i] with
      | call c o a =>
        show ((accOf (h.ev.take i)).l ++ [_]).length ≤ _
        rw [List.length_append]; simp; omega
      | ret c r =>
        show ((accOf (h.ev.take i)).l.modify _ _).length ≤ _
        rw [List.length_modify]; omega
    · rw [List.take_of_length_le (by omega), ← List.take_of_length_le (l := h.ev) (i := i) (by omega)]
      omega
theorem sc_operations : FnScope ["some_history", "found", "numbers", "place", "event", "number"] ["some_history"] (defScope (top 12)) := C8.fnScope_by (by decide +kernel)
theorem cal_operations {P : Program} {w : World} {K : PySem.W.Frag} {mg : Str → Option Value} {base : Heap} {f : Addr} {fd : FuncData} {cdv : Value} (F : FunC K mg "operations" (top 12) f fd cdv) (M : Nm mg) (c_numbered : Cal P w K mg base 3 "numbered" (Pm [] (PNum K)))  : Cal P w K mg base (3 + 1) "operations" (Pm [] (POps K)) := by
  have b := F.binds (ps := ["some_history"]) fun _ _ _ _ _ _ us hl => match us, hl with | [_], _ => rfl
  have kds := F.kds
  have S := sc_operations
  refine cal1 F b sc_operations (fun Ts T h => ?hlen) (fun A outer s H E hr => have hu := hr.units; have hu1 := hu_of hr;
      (pss_cons (ps_set (i := 1) S.nd rfl (by first | exact .inl rfl | exact .inr rfl) (pe_lst pa_nil))
      (pss_cons (ps_set (i := 2) S.nd rfl (by first | exact .inl rfl | exact .inr rfl) (pe_c c_numbered hr (by decide) (by rfl) (pa_cons (pv 0) pa_nil)))
      (pss_cons (ps_for PassesOwn.never rfl (k_pi_enumT K (by rfl) M.n_enumerate (pa_cons (pe_ix (k_ix_tup K) (pv 0) pe_int (fun _ _ => rfl)) pa_nil)) (k_pg_tup K (n := 2) rfl (pgs_cons (pg_name (i := 3) S.nd rfl (by first | exact .inl rfl | exact .inr rfl)) (pgs_cons (pg_name (i := 4) S.nd rfl (by first | exact .inl rfl | exact .inr rfl)) pgs_nil)))
        (pss_one (ps_if (pt_cmpR (k_op_eqD K hu) (pe_ix (k_ix_tup K) (pv 4) pe_int (fun _ _ => rfl)) pe_str (nomark _))
          (pss_one (ps_expr (k_append K (pv 1) (pa_cons (pe_op (k_op_catA K) (pe_slice (k_sl_tupA K) (pv 4) (po_some pe_int) po_none) (pe_tup (pa_cons pe_non (pa_cons (pv 3) (pa_cons pe_non pa_nil))))) pa_nil))))
          (pss_cons (ps_set (i := 5) S.nd rfl (by first | exact .inl rfl | exact .inr rfl) (pe_ix (k_ix_list K) (pv 2) (pv 3) (fun _ _ => rfl)))
          (pss_one (ps_asg (pe_op (k_op_catA K) (pe_slice (k_sl_tupA K) (pe_ix (k_ix_list K) (pv 1) (pv 5) (fun _ _ => rfl)) po_none (po_some pe_int)) (pe_tup (pa_cons (pe_ix (k_ix_tup K) (pv 4) pe_int (fun _ _ => rfl)) (pa_cons (pe_ix (k_ix_tup K) (pe_ix (k_ix_list K) (pv 1) (pv 5) (fun _ _ => rfl)) pe_int (fun _ _ => rfl)) (pa_cons (pv 3) pa_nil))))) (pg_sub (pv 1) (pv 5) set_list)))))))
      (pss_one (ps_ret (pe_frz (pv 1)))))))) (fun Ts T h => ?hbd)
  case hlen =>
    obtain ⟨h, _, rfl, rfl⟩ := h
    rfl
  case hbd =>
    obtain ⟨h, ok, rfl, rfl⟩ := h
    intro σ H s D q
    refine p_nil K s fun p σ1 H1 hp1 e1 L1 s1 => ?_
    refine q_set s1 (ev_call (tb := []) (F := PNum K) (ea_cons (ev_var rfl) ea_nil) ⟨h, ok, rfl, rfl⟩ (by simp)) fun σ3 H3 e3 s3 => ?_
    have L3 := L1.up e3
    have e03 := e1.trans e3
    refine q_for s3 (iv_enum (ea_cons (ev_h1 (ev_var rfl)) ea_nil)) fun H4 e4 s4 => ?_
    let Γi : Nat → Gam := fun i => ⟨[], [some (tyD K (histD h)), some (tyR p), some (tyL K (nums (numsOf h.ev h.ev.length))), none, none, none]⟩
    let M : Nat → Hp → Prop := fun i H' => Imm H4 H' ∧ Ext H H' ∧ Lst K p (opsD (accOf (h.ev.take i)).l) H'
    refine ⟨Γi, M, ⟨s4.len, s4.at_, s4.tab⟩, ⟨Imm.refl _, e03.trans e4, L3.up e4⟩, fun i H' m => m.1, fun i σ' H' hi si mi x H2' ex rx s' => ?_, fun σ' H' sn mn => ?_⟩
    · obtain ⟨m1, m2, mL⟩ := mi
      rw [List.length_map] at hi
      obtain ⟨ev, hev⟩ : ∃ e, h.ev[i]? = some e := get_lt hi
      have hacc := accOf_take hev
      rw [evD_getD hev] at rx
      have mL' := mL.up ex
      have few := ok.few
      have hlen := ops_few ok i
      have hokev := ok.wf i ev hev
      have hp' : (accOf (h.ev.take i)).p = i := by rw [acc_p, List.length_take]; omega
      refine gt_tup2 (vs := [3, 4]) (gt_name (by simp)) (gt_name (by simp)) x σ' H2' s' rx _ fun σ3' snx _ => ?_
      have snx : Sty ⟨[], [some (tyD K (histD h)), some (tyR p), some (tyL K (nums (numsOf h.ev h.ev.length))), some (tyI K (i : Int)), some (tyD K (evD ev)), none]⟩ σ3' H2' := snx
      cases ev with
      | call c o a =>
        obtain ⟨hc, hf, ho, hsm⟩ := hokev
        refine s_if snx (et_str (ev_ix (ev_var rfl) rfl) (by decide +kernel) (decide_eq_true rfl)) (fun _ H5 e5 s5 => ?_) (fun z => by cases z)
        refine m_app s5 (mL'.up e5) (ev_var rfl) (d := opD ⟨c, o, a, none, (accOf (h.ev.take i)).p, none⟩) ((ev_D (ev_op (ev_sl (ev_var rfl) (eo_some (K := K) ev_i) eo_none) (ev_tup (ds := [.none, .num (i : Int), .none]) (ea_cons ev_n (ea_cons (ev_var rfl) (ea_cons ev_n ea_nil))) (by simp)) (rv_cat ?_)) ?_).loc s5) ?_ fun H8 e8 s8 L8 => ?_
        · rw [show cutD [NestedKey.text "call", .text (cliS c), .text (objS o), .text (actS a), argsD a] (some (1 : Int)) none = [.text (cliS c), .text (objS o), .text (actS a), argsD a] from (cut_from (k := 1) (by simp)).trans rfl]
          simp
        · rw [show cutD [NestedKey.text "call", .text (cliS c), .text (objS o), .text (actS a), argsD a] (some (1 : Int)) none = [.text (cliS c), .text (objS o), .text (actS a), argsD a] from (cut_from (k := 1) (by simp)).trans rfl, hp']
          rfl
        · simp [opsD]; omega
        · refine ⟨((s8.lose (i := 3)).lose (i := 4)), m1.trans ((ex.toImm.trans e5.toImm).trans e8.toImm), Ext.only ((m2.trans ex).trans e5) hp1 e8, ?_⟩
          rw [hacc]
          show Lst K p (opsD ((accOf (h.ev.take i)).l ++ [_])) H8
          unfold opsD
          rw [List.map_append]
          exact L8
      | ret c r =>
        obtain ⟨hc, hf⟩ := hokev
        obtain ⟨op, w1, w2, w3⟩ := (told_of (ok.wf.take i)).wf c hf
        have hnum : numAt h.ev i = (accOf (h.ev.take i)).w c := by unfold numAt; rw [hev]
        have hj : (accOf (h.ev.take i)).w c < (accOf (h.ev.take i)).l.length := (List.getElem?_eq_some_iff.mp w1).1
        refine s_if snx (et_str (ev_ix (ev_var rfl) rfl) (by decide +kernel) (decide_eq_false (by decide +kernel))) (fun z => by cases z) (fun _ H5 e5 s5 => ?_)
        refine q_set s5 (ev_ixL (d := .num ((accOf (h.ev.take i)).w c : Int)) (ev_var rfl) (ev_var rfl) (at_nat (by rw [← hnum]; exact numsOf_get h.ev hi))) fun σ6 H6 e6 s6 => ?_
        have L6 := (mL'.up e5).up e6
        have hget : (opsD (accOf (h.ev.take i)).l)[(accOf (h.ev.take i)).w c]? = some (opD op) := by unfold opsD; rw [List.getElem?_map, w1] <;> rfl
        have lfound : EvL (tOp (rIxL K) (tVar 1) (tVar 5)) σ6 H6 (tyD K (opD op)) := l_ixM L6 (l_var s6 rfl) (l_var s6 rfl) (at_nat hget)
        refine m_setL s6 L6 (d := opD { op with r := some r, ret := some (accOf (h.ev.take i)).p }) ((l_op (l_sl s6 lfound eo_none (eo_some (K := K) ev_i)) (l_tup (ds := [resD r, .num (op.called : Int), .num (i : Int)]) (la_cons ((ev_ix (ev_var rfl) rfl).loc s6) (la_cons (l_ix lfound rfl) (la_cons (l_var s6 rfl) la_nil))) (by simp)) (rv_cat ?_)).isD ?_) (ev_var rfl) (ev_var rfl) (by unfold opsD; rw [List.length_map]; exact hj) fun H8 e8 s8 L8 => ?_
        · rw [show cutD [NestedKey.text (cliS op.c), .text (objS op.o), .text (actS op.a), argsD op.a, ropD op.r, .num (op.called : Int), optD op.ret] none (some (4 : Int)) = [.text (cliS op.c), .text (objS op.o), .text (actS op.a), argsD op.a] from (cut_to (k := 4) (by simp)).trans rfl]
          simp
        · rw [show cutD [NestedKey.text (cliS op.c), .text (objS op.o), .text (actS op.a), argsD op.a, ropD op.r, .num (op.called : Int), optD op.ret] none (some (4 : Int)) = [.text (cliS op.c), .text (objS op.o), .text (actS op.a), argsD op.a] from (cut_to (k := 4) (by simp)).trans rfl, hp']
          rfl
        · refine ⟨(((s8.lose (i := 3)).lose (i := 4)).lose (i := 5)), m1.trans (((ex.toImm.trans e5.toImm).trans e6.toImm).trans e8.toImm), Ext.only (((m2.trans ex).trans e5).trans e6) hp1 e8, ?_⟩
          rw [hacc]
          show Lst K p (opsD ((accOf (h.ev.take i)).l.modify _ _)) H8
          unfold opsD
          rw [modify_set _ _ w1]
          exact L8
    · rw [List.length_map] at mn
      have mn : Imm H4 H' ∧ Ext H H' ∧ Lst K p (opsD (accOf (h.ev.take h.ev.length)).l) H' := mn
      rw [List.take_length] at mn
      exact m_retF sn mn.2.1 hp1 mn.2.2 (ev_var rfl) q
end OS

end

section
set_option maxHeartbeats 4000000
namespace OS
open PySem PySem.Spec PyProof.Rows L2 GxR OSx

/-! ### first_position, can_come, is_whole -/
def PFp (K : PySem.W.Frag) : List Ty → Ty → Prop := fun Ts T => ∃ (h : Hist) (m : Bool), h.Ok ∧ Ts = [tyD K (histD h)] ∧ T = tyD K (posD (OSx.first (h.sys m)))
theorem sc_first_position : FnScope ["some_history"] ["some_history"] (defScope (top 21)) := C8.fnScope_by (by decide +kernel)
theorem cal_first_position {P : Program} {w : World} {K : PySem.W.Frag} {mg : Str → Option Value} {base : Heap} {f : Addr} {fd : FuncData} {cdv : Value} (F : FunC K mg "first_position" (top 21) f fd cdv) (M : Nm mg)  (c_first_states : Cal P w K mg base 3 "first_states" (Pm [] (PFirsts K))) : Cal P w K mg base (3 + 1) "first_position" (Pm [] (PFp K)) := by
  have b := F.binds (ps := ["some_history"]) fun _ _ _ _ _ _ us hl => match us, hl with | [_], _ => rfl
  have kds := F.kds
  have S := sc_first_position
  refine cal1 F b sc_first_position (fun Ts T h => ?hlen) (fun A outer s H E hr => have hu := hr.units; have hu1 := hu_of hr;
      (pss_one (ps_ret (pe_tup (pa_cons (pe_tup pa_nil) (pa_cons (pe_c c_first_states hr (by decide) (by rfl) (pa_cons (pv 0) pa_nil)) pa_nil)))))) (fun Ts T h => ?hbd)
  case hlen =>
    obtain ⟨h, m, _, rfl, rfl⟩ := h
    rfl
  case hbd =>
    obtain ⟨h, m, ok, rfl, rfl⟩ := h
    intro σ H s D q
    exact s_ret s (ev_two (ev_tup (ds := []) ea_nil (by simp)) (ev_call (tb := []) (F := PFirsts K) (ea_cons (ev_var rfl) ea_nil) ⟨h, ok, rfl, rfl⟩ (by simp))) q
theorem mem_natsB {i : Nat} {p : List Nat} : decide (NestedKey.num (i : Int) ∈ nums (nats p)) = p.contains i := by
  rw [Bool.eq_iff_iff, decide_eq_true_eq, List.contains_iff_mem]
  exact mem_nums.trans mem_nats
section
variable {K : PySem.W.Frag} {Γ : Gam} {te ta tb : TE} {h : Hist}
theorem ev_lenL (e : Ev te Γ (tyL K (opsD h.ops))) : EvA (tCons (tCB (rLenS K) (tCons te tNil)) tNil) Γ [tyI K (h.ops.length : Int)] := by
  have := ea_cons (ev_cb (ea_cons e ea_nil) rc_lenL) ea_nil
  rw [show (opsD h.ops).length = h.ops.length by simp [opsD]] at this
  exact this
theorem ev_inNat {i : Nat} {p : List Nat} (ha : Ev ta Γ (tyI K (i : Int))) (hb : Ev tb Γ (tyT K (nums (nats p)))) : Ev (tOp (rInK K false) ta tb) Γ (tyB (p.contains i)) := ev_B (ev_op ha hb (rv_inT (Nat.zero_le _))) mem_natsB
theorem ev_notNone {i : Nat} (hi : i < h.ops.length) (ha : Ev ta Γ (tyL K (opsD h.ops))) (hb : Ev tb Γ (tyI K (i : Int))) : Ev (tNotN (tOp (rIxT K) (tOp (rIxL K) ta tb) (tC (.int 6)))) Γ (tyB (opAt h.ops i).ret.isSome) :=
  ev_B (ev_notN (ev_op6 (ev_listed ha hb hi))) (by rw [ret_none]; cases (opAt h.ops i).ret <;> rfl)
end
def PCan (K : PySem.W.Frag) : List Ty → Ty → Prop := fun Ts T => ∃ (h : Hist) (m : Bool) (p : List Nat) (i : Nat), h.Ok ∧ i < h.ops.length ∧ Ts = [tyL K (opsD h.ops), tyS K (modS m), tyT K (nums (nats p)), tyI K (i : Int)] ∧ T = tyB (can (h.sys m) p i)
theorem sc_can_come : FnScope ["listed", "model", "placed", "number", "other"] ["listed", "model", "placed", "number"] (defScope (top 22)) := C8.fnScope_by (by decide +kernel)
theorem cal_can_come {P : Program} {w : World} {K : PySem.W.Frag} {mg : Str → Option Value} {base : Heap} {f : Addr} {fd : FuncData} {cc : Addr} (F : FunC K mg "can_come" (top 22) f fd (.ref cc)) (M : Nm mg) {Tb : Addr} {tabs : List Addr} (TB : TabB base mg cc Tb) (hT : Tb ∈ tabs)  (c_is_before : Cal P w K mg base 3 "is_before" (Pm [] (PBef K))) : Cal P w K mg base (5 + 1) "can_come" (Pm tabs (PCan K)) := by
  have b := F.binds (ps := ["listed", "model", "placed", "number"]) fun _ _ _ _ _ _ us hl => match us, hl with | [_, _, _, _], _ => rfl
  have kds := F.kds
  have S := sc_can_come
  refine cal1 F b sc_can_come (fun Ts T h => ?hlen) (fun A outer s H E hr => have hu := hr.units; have hu1 := hu_of hr;
      (pss_cons (ps_if (pt_cmpR (k_op_inK K hu) (pv 3) (pv 2) (by rfl))
        (pss_one (ps_ret pe_bl))
        pss_nil)
      (pss_one (ps_ret (GA.pe_allG (own := [("other", 4)]) (k := 4) (hr.mono (by decide)) rfl S.nd (by rfl) M.n_all boot_all TB rfl (pi_range1 (by rfl) M.n_range (pa_cons (pe_callB (k_cr_lenS K) (by rfl) M.n_len boot_len (pa_cons (pv 0) pa_nil)) pa_nil)) (blkOk_by (N := ["listed", "model", "placed", "number", "other"]) (sc := defScope (top 22)) (by decide +kernel)) (by decide +kernel) (by rfl) (by rfl) (fun A' s H C cl code fp hr => have hu := hr.units; (pg_name (i := 4) S.nd rfl (by first | exact .inl rfl | exact .inr rfl))) (fun A' s H C cl code fp hr => have hu := hr.units; (pts_one (pt_val (pe_c c_is_before hr (by decide) (by rfl) (pa_cons (pv 0) (pa_cons (pv 1) (pa_cons (pv 4) (pa_cons (pv 3) pa_nil)))))))) (fun A' s H C cl code fp hr => have hu := hr.units; (pe_cmpR (k_op_inK K hu) (pv 4) (pv 2) (by rfl))) (by intro _; rfl)))))) (fun Ts T h => ?hbd)
  case hlen =>
    obtain ⟨h, m, p, i, _, _, rfl, rfl⟩ := h
    rfl
  case hbd =>
    obtain ⟨h, m, p, i, ok, hi, rfl, rfl⟩ := h
    intro σ H s D q
    have nine : h.ops.length ≤ 9 := ok.nine
    refine q_when s (et_test (ev_inNat (ev_var rfl) (ev_var rfl))) (fun hb H1 e1 s1 => r_end e1 s1 (ev_B ev_b ?_) q) (fun hb H1 e1 s1 => ?_)
    · show false = (!p.contains i && _)
      rw [hb] <;> rfl
    · refine r_end e1 s1 (ev_B (et_all (Γ1 := fun j => ⟨tabs, [some (tyL K (opsD h.ops)), some (tyS K (modS m)), some (tyT K (nums (nats p))), some (tyI K (i : Int)), some (tyI K (j : Int))]⟩) (fun j => bef m h.ops j i) (fun j => p.contains j) hT (iv_rng (ev_lenL (ev_var rfl)) (by omega)) (fun j hj => gt_name (by simp)) (fun j hj => ?_) (fun j hj _ => ev_inNat (ev_var rfl) (ev_var rfl))) ?_) q
      · exact et_B (ev_call (tb := []) (F := PBef K) (ea_cons (ev_var rfl) (ea_cons (ev_var rfl) (ea_cons (ev_var rfl) (ea_cons (ev_var rfl) ea_nil)))) ⟨h, m, j, i, ok, hj, hi, rfl, rfl⟩ (by simp))
      · show _ = (!p.contains i && _)
        rw [hb] <;> rfl
def PWhole (K : PySem.W.Frag) : List Ty → Ty → Prop := fun Ts T => ∃ (h : Hist) (m : Bool) (q : Pos (List St1)), h.Ok ∧ Ts = [tyL K (opsD h.ops), tyD K (posD q)] ∧ T = tyB (whole (h.sys m) q.1)
theorem sc_is_whole : FnScope ["listed", "position", "number"] ["listed", "position"] (defScope (top 24)) := C8.fnScope_by (by decide +kernel)
theorem cal_is_whole {P : Program} {w : World} {K : PySem.W.Frag} {mg : Str → Option Value} {base : Heap} {f : Addr} {fd : FuncData} {cc : Addr} (F : FunC K mg "is_whole" (top 24) f fd (.ref cc)) (M : Nm mg) {Tb : Addr} {tabs : List Addr} (TB : TabB base mg cc Tb) (hT : Tb ∈ tabs)   : Cal P w K mg base (5 + 1) "is_whole" (Pm tabs (PWhole K)) := by
  have b := F.binds (ps := ["listed", "position"]) fun _ _ _ _ _ _ us hl => match us, hl with | [_, _], _ => rfl
  have kds := F.kds
  have S := sc_is_whole
  refine cal1 F b sc_is_whole (fun Ts T h => ?hlen) (fun A outer s H E hr => have hu := hr.units; have hu1 := hu_of hr;
      (pss_one (ps_ret (GA.pe_allG (own := [("number", 2)]) (k := 4) (hr.mono (by decide)) rfl S.nd (by rfl) M.n_all boot_all TB rfl (pi_range1 (by rfl) M.n_range (pa_cons (pe_callB (k_cr_lenS K) (by rfl) M.n_len boot_len (pa_cons (pv 0) pa_nil)) pa_nil)) (blkOk_by (N := ["listed", "position", "number"]) (sc := defScope (top 24)) (by decide +kernel)) (by decide +kernel) (by rfl) (by rfl) (fun A' s H C cl code fp hr => have hu := hr.units; (pg_name (i := 2) S.nd rfl (by first | exact .inl rfl | exact .inr rfl))) (fun A' s H C cl code fp hr => have hu := hr.units; (pts_one (pt_cmp (pc_notN (pe_ix (k_ix_tup K) (pe_ix (k_ix_list K) (pv 0) (pv 2) (fun _ _ => rfl)) pe_int (fun _ _ => rfl)))))) (fun A' s H C cl code fp hr => have hu := hr.units; (pe_cmpR (k_op_inK K hu) (pv 2) (pe_ix (k_ix_tup K) (pv 1) pe_int (fun _ _ => rfl)) (by rfl))) (by intro _; rfl))))) (fun Ts T h => ?hbd)
  case hlen =>
    obtain ⟨h, m, q, _, rfl, rfl⟩ := h
    rfl
  case hbd =>
    obtain ⟨h, m, p, ok, rfl, rfl⟩ := h
    intro σ H s D q
    have nine : h.ops.length ≤ 9 := ok.nine
    exact s_ret s (et_all (Γ1 := fun j => ⟨tabs, [some (tyL K (opsD h.ops)), some (tyD K (posD p)), some (tyI K (j : Int))]⟩) (fun j => (opAt h.ops j).ret.isSome) (fun j => p.1.contains j) hT (iv_rng (ev_lenL (ev_var rfl)) (by omega)) (fun j hj => gt_name (by simp)) (fun j hj => et_B (ev_notNone hj (ev_var rfl) (ev_var rfl))) (fun j hj _ => ev_inNat (ev_var rfl) (ev_ix (ev_var rfl) rfl))) q

/-! ### moves -/
def movD (q : Nat × Pos (List St1)) : D := .tup [.num (q.1 : Int), posD q.2]
def PMoves (K : PySem.W.Frag) : List Ty → Ty → Prop := fun Ts T => ∃ (h : Hist) (m : Bool) (q : Pos (List St1)), h.Ok ∧ Reach (h.sys m) q ∧ Ts = [tyD K (histD h), tyL K (opsD h.ops), tyS K (modS m), tyD K (posD q)] ∧ T = tyL K ((mv (h.sys m) q).map movD)
theorem ropD_eq {r : Option Res} {x : Res} : ropD r = resD x ↔ r = some x := by
  cases r with
  | none => constructor
            · intro z; cases x <;> cases z
            · intro z; cases z
  | some y => exact resD_inj.trans ⟨fun z => by rw [z], fun z => Option.some.inj z⟩
theorem ret_r {h : Hist} (ok : h.Ok) {i : Nat} (hi : i < h.ops.length) : (opAt h.ops i).ret = none ↔ (opAt h.ops i).r = none := ((told_of ok.wf).lt i _ (ok.op hi).1).2.2.2.2.2
theorem movs_succ {Y : Sys (List St1)} {q : Pos (List St1)} (i : Nat) : (List.range (i + 1)).filterMap (mv1 Y q) = (List.range i).filterMap (mv1 Y q) ++ (mv1 Y q i).toList := by
  rw [List.range_succ, List.filterMap_append]
  cases h : mv1 Y q i <;> simp [h]
theorem movs_len {Y : Sys (List St1)} {q : Pos (List St1)} (i : Nat) : ((List.range i).filterMap (mv1 Y q)).length ≤ i := by
  have := List.length_filterMap_le (mv1 Y q) (List.range i)
  rwa [List.length_range] at this
theorem sc_moves : FnScope ["some_history", "listed", "model", "position", "placed", "states", "found", "number", "later", "result"] ["some_history", "listed", "model", "position"] (defScope (top 23)) := C8.fnScope_by (by decide +kernel)
theorem cal_moves {P : Program} {w : World} {K : PySem.W.Frag} {mg : Str → Option Value} {base : Heap} {f : Addr} {fd : FuncData} {cdv : Value} (F : FunC K mg "moves" (top 23) f fd cdv) (M : Nm mg) {tabs : List Addr}  (c_can_come : Cal P w K mg base 6 "can_come" (Pm tabs (PCan K))) (c_done : Cal P w K mg base 4 "done" (Pm [] (PDone K))) : Cal P w K mg base (6 + 1) "moves" (Pm tabs (PMoves K)) := by
  have b := F.binds (ps := ["some_history", "listed", "model", "position"]) fun _ _ _ _ _ _ us hl => match us, hl with | [_, _, _, _], _ => rfl
  have kds := F.kds
  have S := sc_moves
  refine cal1 F b sc_moves (fun Ts T h => ?hlen) (fun A outer s H E hr => have hu := hr.units; have hu1 := hu_of hr;
      (pss_cons (ps_asg (pv 3) (k_pg_tup K (n := 2) rfl (pgs_cons (pg_name (i := 4) S.nd rfl (by first | exact .inl rfl | exact .inr rfl)) (pgs_cons (pg_name (i := 5) S.nd rfl (by first | exact .inl rfl | exact .inr rfl)) pgs_nil))))
      (pss_cons (ps_set (i := 6) S.nd rfl (by first | exact .inl rfl | exact .inr rfl) (pe_lst pa_nil))
      (pss_cons (ps_for PassesOwn.never rfl (pi_range1 (by rfl) M.n_range (pa_cons (pe_callB (k_cr_lenS K) (by rfl) M.n_len boot_len (pa_cons (pv 1) pa_nil)) pa_nil)) (pg_name (i := 7) S.nd rfl (by first | exact .inl rfl | exact .inr rfl))
        (pss_one (ps_if (pt_val (pe_c c_can_come hr (by decide) (by rfl) (pa_cons (pv 1) (pa_cons (pv 2) (pa_cons (pv 4) (pa_cons (pv 7) pa_nil))))))
          (pss_cons (ps_asg (pe_c c_done hr (by decide) (by rfl) (pa_cons (pv 0) (pa_cons (pv 1) (pa_cons (pv 5) (pa_cons (pv 7) pa_nil))))) (k_pg_tup K (n := 2) rfl (pgs_cons (pg_name (i := 8) S.nd rfl (by first | exact .inl rfl | exact .inr rfl)) (pgs_cons (pg_name (i := 9) S.nd rfl (by first | exact .inl rfl | exact .inr rfl)) pgs_nil))))
          (pss_one (ps_if (PW.pt (pw_or (pt_cmp (pc_isN (pe_ix (k_ix_tup K) (pe_ix (k_ix_list K) (pv 1) (pv 7) (fun _ _ => rfl)) pe_int (fun _ _ => rfl)))) (pw_or1 (pt_cmpR (k_op_eqD K hu) (pe_ix (k_ix_tup K) (pe_ix (k_ix_list K) (pv 1) (pv 7) (fun _ _ => rfl)) pe_int (fun _ _ => rfl)) (pv 9) (nomark _)))))
            (pss_one (ps_expr (k_append K (pv 6) (pa_cons (pe_tup (pa_cons (pv 7) (pa_cons (pe_tup (pa_cons (pe_callTy (k_cr_tupS K) (by rfl) M.n_tuple boot_tuple (pa_cons (pe_callB (k_cr_sortedTI K) (by rfl) M.n_sorted boot_sorted (pa_cons (pe_op (k_op_catA K) (pv 4) (pe_tup (pa_cons (pv 7) pa_nil))) pa_nil)) pa_nil)) (pa_cons (pv 8) pa_nil))) pa_nil))) pa_nil))))
            pss_nil)))
          pss_nil)))
      (pss_one (ps_ret (pe_frz (pv 6)))))))) (fun Ts T h => ?hbd)
  case hlen =>
    obtain ⟨h, m, q, _, _, rfl, rfl⟩ := h
    rfl
  case hbd =>
    obtain ⟨h, m, p, ok, hr, rfl, rfl⟩ := h
    intro σ H s D q
    have nine : h.ops.length ≤ 9 := ok.nine
    have hgood := reach_good ok hr
    obtain ⟨_, _, hplen⟩ := reach_sorted _ hr
    have hplen : p.1.length ≤ h.ops.length := hplen
    refine q_asg (vs := [4, 5]) s (ev_var rfl) (gt_tup2 (d := .tup (nums (nats p.1))) (e := statesD p.2) (gt_name (by simp)) (gt_name (by simp))) fun σ1 H1 e1 s1 => ?_
    refine p_nil K s1 fun l σ2 H2 hl2 e2 L2 s2 => ?_
    have hl0 : H l = none := e1.dom l hl2
    refine q_for s2 (iv_rng (ev_lenL (ev_var rfl)) (by omega)) fun H4 e4 s4 => ?_
    let Γi : Nat → Gam := fun i => ⟨tabs, [some (tyD K (histD h)), some (tyL K (opsD h.ops)), some (tyS K (modS m)), some (tyD K (posD p)), some (tyT K (nums (nats p.1))), some (tyD K (statesD p.2)), some (tyR l), none, none, none]⟩
    let Mi : Nat → Hp → Prop := fun i H' => Imm H4 H' ∧ Ext H H' ∧ Lst K l (((List.range i).filterMap (mv1 (h.sys m) p)).map movD) H'
    refine ⟨Γi, Mi, ⟨s4.len, s4.at_, s4.tab⟩, ⟨Imm.refl _, (e1.trans e2).trans e4, L2.up e4⟩, fun i H' m => m.1, fun i σ' H' hi si mi x H2' ex rx s' => ?_, fun σ' H' sn mn => ?_⟩
    · obtain ⟨m1, m2, mL⟩ := mi
      have mL' := mL.up ex
      have snx : Sty ⟨tabs, [some (tyD K (histD h)), some (tyL K (opsD h.ops)), some (tyS K (modS m)), some (tyD K (posD p)), some (tyT K (nums (nats p.1))), some (tyD K (statesD p.2)), some (tyR l), some (tyI K (i : Int)), none, none]⟩ (σ'.set 7 (some x)) H2' := Sty.set (i := 7) s' rx
      have hml := movs_len (Y := h.sys m) (q := p) i
      show tIfS _ _ _ _ (σ'.set 7 (some x)) H2'
      refine s_when snx (et_B (ev_call (tb := tabs) (F := PCan K) (ea_cons (ev_var rfl) (ea_cons (ev_var rfl) (ea_cons (ev_var rfl) (ea_cons (ev_var rfl) ea_nil)))) ⟨h, m, p.1, i, ok, hi, rfl, rfl⟩ (fun _ z => z))) (fun hc H5 e5 s5 => ?_) (fun hc H5 e5 s5 => ?_)
      · refine q_asg (vs := [8, 9]) s5 (ev_call (tb := []) (F := PDone K) (ea_cons (ev_var rfl) (ea_cons (ev_var rfl) (ea_cons (ev_var rfl) (ea_cons (ev_var rfl) ea_nil)))) ⟨h, p.2, p.1.length, i, ok, hgood, by omega, hi, rfl, rfl⟩ (by simp)) (gt_tup2 (gt_name (by simp)) (gt_name (by simp))) fun σ6 H6 e6 s6 => ?_
        have L6 := (mL'.up e5).up e6
        have e26 := ((m2.trans ex).trans e5).trans e6
        have i16 := m1.trans ((ex.toImm.trans e5.toImm).trans e6.toImm)
        refine s_when (b := ((h.sys m).stp i p.2).2) s6 (et_is (et_or (et_B (ev_B (ev_isN (ev_op6 (ev_listed (ev_var rfl) (ev_var rfl) hi))) (ret_none _))) (fun _ => et_eq (ev_op4 (ev_listed (ev_var rfl) (ev_var rfl) hi)) (ev_var rfl) (sh_rop _) (sh_res _))) ?_) (fun hs H7 e7 s7 => ?_) (fun hs H7 e7 s7 => ?_)
        · show (_ || _) = ((opAt h.ops i).ret.isNone || decide ((opAt h.ops i).r = some (stpO (opAt h.ops i) p.2).2))
          congr 1
          rw [Bool.eq_iff_iff, decide_eq_true_eq, decide_eq_true_eq]
          exact ropD_eq
        · have hms : mv1 (h.sys m) p i = some (i, (ins i p.1, ((h.sys m).stp i p.2).1)) := by unfold mv1; rw [hc, hs]; rfl
          refine m_app s7 (L6.up e7) (ev_var rfl) (d := movD (i, (ins i p.1, ((h.sys m).stp i p.2).1))) ((ev_two (ev_var rfl) (ev_two (ev_tupNew (en_sortedT (ns := nats p.1 ++ [(i : Int)]) (ms := nats (ins i p.1)) (ev_D (ev_op (ev_var rfl) (ev_tup (ds := [.num (i : Int)]) (ea_cons (ev_var rfl) ea_nil) (by simp)) (rv_cat (ds := nums (nats p.1)) (by simp; omega))) (by simp [nums])) ?_ ?_)) (ev_var rfl))).loc s7) (by simp; omega) fun H8 e8 s8 L8 => ?_
          · have := (ins_perm i p.1).map fun (n : Nat) => (n : Int)
            rw [List.map_append] at this
            exact this
          · exact List.Pairwise.map _ (fun a b hab => by omega) (ins_sorted i p.1)
          · refine ⟨((s8.lose (i := 7)).lose (i := 8)).lose (i := 9), (i16.trans e7.toImm).trans e8.toImm, Ext.only (e26.trans e7) hl0 e8, ?_⟩
            rw [movs_succ, hms, List.map_append]
            exact L8
        · have hms : mv1 (h.sys m) p i = none := by unfold mv1; rw [hs, Bool.and_false] <;> rfl
          refine ⟨((s7.lose (i := 7)).lose (i := 8)).lose (i := 9), i16.trans e7.toImm, e26.trans e7, ?_⟩
          rw [movs_succ, hms, Option.toList_none, List.append_nil]
          exact L6.up e7
      · have hms : mv1 (h.sys m) p i = none := by unfold mv1; rw [hc, Bool.false_and] <;> rfl
        refine ⟨((s5.lose (i := 7)).lose (i := 8)).lose (i := 9), m1.trans (ex.toImm.trans e5.toImm), (m2.trans ex).trans e5, ?_⟩
        rw [movs_succ, hms, Option.toList_none, List.append_nil]
        exact mL'.up e5
    · exact m_retF sn mn.2.1 hl0 mn.2.2 (ev_var rfl) q
end OS

end

section
set_option maxHeartbeats 4000000
namespace OS
open PySem PySem.Spec PyProof.Rows L2 GxR OSx

/-! ### results -/
def resL (h : Hist) : List Nat → List St1 → List Res
  | [], _ => []
  | i :: r, s => (stepO h i s).2 :: resL h r (stepO h i s).1
theorem resL_len (h : Hist) : ∀ (r : List Nat) (s : List St1), (resL h r s).length = r.length
  | [], _ => rfl
  | i :: r, s => by show (resL h r _).length + 1 = _; rw [resL_len h r]; rfl
theorem resL_snoc (h : Hist) (m : Bool) (i : Nat) : ∀ (r : List Nat) (s : List St1), resL h (r ++ [i]) s = resL h r s ++ [(stepO h i (runs (h.sys m) r s)).2]
  | [], s => rfl
  | j :: r, s => by
    show (stepO h j s).2 :: resL h (r ++ [i]) _ = (stepO h j s).2 :: (resL h r _ ++ _)
    rw [resL_snoc h m i r]
    rfl
theorem runs_snoc (Y : Sys (List St1)) (i : Nat) (r : List Nat) (s : List St1) : runs Y (r ++ [i]) s = (Y.stp i (runs Y r s)).1 := by
  rw [runs_append]; rfl
def PRes (K : PySem.W.Frag) : List Ty → Ty → Prop := fun Ts T => ∃ (h : Hist) (r : List Nat), h.Ok ∧ (∀ i ∈ r, i < h.ops.length) ∧ r.length ≤ 40 ∧ Ts = [tyD K (histD h), tyT K (nums (nats r))] ∧ T = tyL K ((resL h r (h.ks.map init1)).map resD)
theorem take_lt {r : List Nat} {n : Nat} (hr : ∀ i ∈ r, i < n) (k : Nat) : ∀ i ∈ r.take k, i < n := fun i hi => hr i (List.mem_of_mem_take hi)
theorem nums_nats_getD {r : List Nat} {k i : Nat} (h : r[k]? = some i) : (nums (nats r)).getD k .none = .num (i : Int) := by
  rw [List.getD_eq_getElem?_getD, List.getElem?_map, List.getElem?_map, h] <;> rfl
theorem sc_results : FnScope ["some_history", "row", "listed", "states", "found", "number", "result"] ["some_history", "row"] (defScope (top 17)) := C8.fnScope_by (by decide +kernel)
theorem cal_results {P : Program} {w : World} {K : PySem.W.Frag} {mg : Str → Option Value} {base : Heap} {f : Addr} {fd : FuncData} {cdv : Value} (F : FunC K mg "results" (top 17) f fd cdv) (M : Nm mg)  (c_operations : Cal P w K mg base 4 "operations" (Pm [] (POps K))) (c_first_states : Cal P w K mg base 3 "first_states" (Pm [] (PFirsts K))) (c_done : Cal P w K mg base 4 "done" (Pm [] (PDone K))) : Cal P w K mg base (4 + 1) "results" (Pm [] (PRes K)) := by
  have b := F.binds (ps := ["some_history", "row"]) fun _ _ _ _ _ _ us hl => match us, hl with | [_, _], _ => rfl
  have kds := F.kds
  have S := sc_results
  refine cal1 F b sc_results (fun Ts T h => ?hlen) (fun A outer s H E hr => have hu := hr.units; have hu1 := hu_of hr;
      (pss_cons (ps_set (i := 2) S.nd rfl (by first | exact .inl rfl | exact .inr rfl) (pe_c c_operations hr (by decide) (by rfl) (pa_cons (pv 0) pa_nil)))
      (pss_cons (ps_set (i := 3) S.nd rfl (by first | exact .inl rfl | exact .inr rfl) (pe_c c_first_states hr (by decide) (by rfl) (pa_cons (pv 0) pa_nil)))
      (pss_cons (ps_set (i := 4) S.nd rfl (by first | exact .inl rfl | exact .inr rfl) (pe_lst pa_nil))
      (pss_cons (ps_for PassesOwn.never rfl (k_pi_tup K (pv 1)) (pg_name (i := 5) S.nd rfl (by first | exact .inl rfl | exact .inr rfl))
        (pss_cons (ps_asg (pe_c c_done hr (by decide) (by rfl) (pa_cons (pv 0) (pa_cons (pv 2) (pa_cons (pv 3) (pa_cons (pv 5) pa_nil))))) (k_pg_tup K (n := 2) rfl (pgs_cons (pg_name (i := 3) S.nd rfl (by first | exact .inl rfl | exact .inr rfl)) (pgs_cons (pg_name (i := 6) S.nd rfl (by first | exact .inl rfl | exact .inr rfl)) pgs_nil))))
        (pss_one (ps_expr (k_append K (pv 4) (pa_cons (pv 6) pa_nil))))))
      (pss_one (ps_ret (pe_frz (pv 4))))))))) (fun Ts T h => ?hbd)
  case hlen =>
    obtain ⟨h, r, _, _, _, rfl, rfl⟩ := h
    rfl
  case hbd =>
    obtain ⟨h, r, ok, hr, hl, rfl, rfl⟩ := h
    intro σ H s D q
    refine q_set s (ev_call (tb := []) (F := POps K) (ea_cons (ev_var rfl) ea_nil) ⟨h, ok, rfl, rfl⟩ (by simp)) fun σ1 H1 e1 s1 => ?_
    refine q_set s1 (ev_call (tb := []) (F := PFirsts K) (ea_cons (ev_var rfl) ea_nil) ⟨h, ok, rfl, rfl⟩ (by simp)) fun σ2 H2 e2 s2 => ?_
    refine p_nil K s2 fun p σ3 H3 hp3 e3 L3 s3 => ?_
    have hp0 : H p = none := e1.dom p (e2.dom p hp3)
    refine q_for s3 (iv_tup (ev_var rfl)) fun H4 e4 s4 => ?_
    let st : Nat → List St1 := fun i => runs (h.sys true) (r.take i) (h.ks.map init1)
    let Γi : Nat → Gam := fun i => ⟨[], [some (tyD K (histD h)), some (tyT K (nums (nats r))), some (tyL K (opsD h.ops)), some (tyD K (statesD (st i))), some (tyR p), none, none]⟩
    let Mi : Nat → Hp → Prop := fun i H' => Imm H4 H' ∧ Ext H H' ∧ Lst K p ((resL h (r.take i) (h.ks.map init1)).map resD) H'
    refine ⟨Γi, Mi, ⟨s4.len, s4.at_, s4.tab⟩, ⟨Imm.refl _, ((e1.trans e2).trans e3).trans e4, L3.up e4⟩, fun i H' m => m.1, fun i σ' H' hi si mi x H2' ex rx s' => ?_, fun σ' H' sn mn => ?_⟩
    · obtain ⟨m1, m2, mL⟩ := mi
      have mL' := mL.up ex
      have hi : i < r.length := by simpa using hi
      obtain ⟨j, hj⟩ : ∃ j, r[i]? = some j := get_lt hi
      rw [nums_nats_getD hj] at rx
      have hjn : j < h.ops.length := hr j (List.mem_of_getElem? hj)
      have snx : Sty ⟨[], [some (tyD K (histD h)), some (tyT K (nums (nats r))), some (tyL K (opsD h.ops)), some (tyD K (statesD (st i))), some (tyR p), some (tyI K (j : Int)), none]⟩ (σ'.set 5 (some x)) H2' := Sty.set (i := 5) s' rx
      have htk : (r.take i).length ≤ 40 := by rw [List.length_take]; omega
      have hg := good_runs ok true (r.take i) 0 _ (take_lt hr i) (good0 h.ks)
      show tSeq _ _ _ (σ'.set 5 (some x)) H2'
      refine q_asg (vs := [3, 6]) snx (ev_call (tb := []) (F := PDone K) (ea_cons (ev_var rfl) (ea_cons (ev_var rfl) (ea_cons (ev_var rfl) (ea_cons (ev_var rfl) ea_nil)))) ⟨h, st i, _, j, ok, hg, by omega, hjn, rfl, rfl⟩ (by simp)) (gt_tup2 (gt_name (by simp)) (gt_name (by simp))) fun σ6 H6 e6 s6 => ?_
      refine m_app s6 (mL'.up e6) (ev_var rfl) ((ev_var rfl : Ev _ _ (tyD K (resD (stepO h j (st i)).2))).loc s6) (by rw [List.length_map, resL_len]; omega) fun H8 e8 s8 L8 => ?_
      have htake : r.take (i + 1) = r.take i ++ [j] := take_snoc hj
      refine ⟨?_, m1.trans ((ex.toImm.trans e6.toImm).trans e8.toImm), Ext.only ((m2.trans ex).trans e6) hp0 e8, ?_⟩
      · have hst : st (i + 1) = (stepO h j (st i)).1 := by
          show runs _ (r.take (i + 1)) _ = _
          rw [htake, runs_snoc]
          rfl
        show Sty ⟨[], [some (tyD K (histD h)), some (tyT K (nums (nats r))), some (tyL K (opsD h.ops)), some (tyD K (statesD (st (i + 1)))), some (tyR p), none, none]⟩ _ _
        rw [hst]
        exact (s8.lose (i := 5)).lose (i := 6)
      · rw [htake, resL_snoc h true, List.map_append]
        exact L8
    · have mn : Imm H4 H' ∧ Ext H H' ∧ Lst K p ((resL h (r.take (nums (nats r)).length) (h.ks.map init1)).map resD) H' := mn
      rw [show (nums (nats r)).length = r.length by simp, List.take_length] at mn
      exact m_retF sn mn.2.1 hp0 mn.2.2 (ev_var rfl) q

/-! ### is_row -/
section
variable {K : PySem.W.Frag} {Γ : Gam} {te ta tb tc : TE} {r r' : R2} {T U W : Ty} {b c : Bool}
theorem ev_chain (ha : Ev ta Γ T) (hb : Ev tb Γ U) (hc : Ev tc Γ W) (h1 : RV r T U (tyB b)) (h2 : b = true → RV r' U W (tyB c)) : Ev (tChain r r' ta tb tc) Γ (tyB (b && c)) := fun σ H s Q q =>
  ha σ H s _ fun x H1 e1 r1 => hb σ H1 (s.imm e1.toImm) _ fun y H2 e2 r2 => h1 x y H2 (T.mono e2.toImm r1) r2 _ fun z H3 e3 r3 => ⟨b, r3, by
    cases b with
    | true =>
      show tc σ H3 _
      exact hc σ H3 (s.imm ((e1.trans e2).trans e3).toImm) _ fun w H4 e4 r4 => h2 rfl y w H4 (U.mono (e3.trans e4).toImm r2) r4 Q fun v H5 e5 r5 => q v H5 ((((e1.trans e2).trans e3).trans e4).trans e5) r5
    | false => exact q _ H3 ((e1.trans e2).trans e3) rfl⟩
theorem ev_ltE {P : Nat → Prop} {n : Int} {b : Bool} (ha : Ev ta Γ (tyE P fun c => tyI K (c : Int))) (hb : Ev tb Γ (tyI K n)) (h : ∀ c, P c → decide ((c : Int) < n) = b) : Ev (tOp (rI0 fun i j => .bl (decide (i < j))) ta tb) Γ (tyB b) := ev_op ha hb fun x y H r1 r2 Q q => by
  obtain ⟨c, hc, r1⟩ := r1
  exact ⟨(c : Int), n, r1, r2, q _ H (ExtS.refl H) (by show V.bl (decide ((c : Int) < n)) = V.bl b; rw [h c hc])⟩
end
theorem nats_nodup {r : List Nat} : (nats r).Nodup ↔ r.Nodup := by
  unfold nats
  constructor
  · intro h
    exact (List.pairwise_map.mp h).imp fun h e => h (by rw [e])
  · intro h
    exact List.pairwise_map.mpr (h.imp fun h e => h (by omega))
def PRow (K : PySem.W.Frag) : List Ty → Ty → Prop := fun Ts T => ∃ (h : Hist) (m : Bool) (r : List Nat), h.Ok ∧ (∀ i ∈ r, i < h.ops.length) ∧ r.length ≤ 40 ∧ Ts = [tyL K (opsD h.ops), tyS K (modS m), tyT K (nums (nats r))] ∧ T = tyE (fun b : Bool => b = true ↔ IsRow (h.sys m) r) tyB
theorem r_bool {P : Bool → Prop} {Γ : Gam} {te : TE} {σ : L2.St} {H H' : Hp} {Dd : Ends} {b : Bool} (e : Ext H H') (s : Sty Γ σ H') (h : Ev te Γ (tyB b)) (hb : P b) (q : ∀ v H1, Ext H H1 → (tyE P tyB).is v H1 → Dd.rt v H1) : tRet te Dd σ H' := s_ret s h fun v H2 e2 r => q v H2 (e.trans e2) ⟨b, hb, r⟩
theorem sc_is_row : FnScope ["listed", "model", "row", "number", "place", "other"] ["listed", "model", "row"] (defScope (top 18)) := C8.fnScope_by (by decide +kernel)
theorem cal_is_row {P : Program} {w : World} {K : PySem.W.Frag} {mg : Str → Option Value} {base : Heap} {f : Addr} {fd : FuncData} {cc : Addr} (F : FunC K mg "is_row" (top 18) f fd (.ref cc)) (M : Nm mg) {Tb : Addr} {tabs : List Addr} (TB : TabB base mg cc Tb) (hT : Tb ∈ tabs)  (c_is_before : Cal P w K mg base 3 "is_before" (Pm [] (PBef K))) : Cal P w K mg base (5 + 1) "is_row" (Pm tabs (PRow K)) := by
  have b := F.binds (ps := ["listed", "model", "row"]) fun _ _ _ _ _ _ us hl => match us, hl with | [_, _, _], _ => rfl
  have kds := F.kds
  have S := sc_is_row
  refine cal1 F b sc_is_row (fun Ts T h => ?hlen) (fun A outer s H E hr => have hu := hr.units; have hu1 := hu_of hr;
      (pss_cons (ps_if (PW.pt (pw_or (pt_cmpR op_lt (pe_callB (k_cr_lenSO w) (by rfl) M.n_len boot_len (pa_cons (pe_callTy (k_cr_setTI K w rfl) (by rfl) M.n_set boot_set (pa_cons (pv 2) pa_nil)) pa_nil)) (pe_callB (k_cr_lenS K) (by rfl) M.n_len boot_len (pa_cons (pv 2) pa_nil)) (nomark _)) (pw_or1 (pt_not (pt_val (GA.pe_allG (own := [("number", 3)]) (k := 4) (hr.mono (by decide)) rfl S.nd (by rfl) M.n_all boot_all TB rfl (k_pi_tup K (pv 2)) (blkOk_by (N := ["listed", "model", "row", "number", "place", "other"]) (sc := defScope (top 18)) (by decide +kernel)) (by decide +kernel) (by rfl) (by rfl) (fun A' s H C cl code fp hr => have hu := hr.units; (pg_name (i := 3) S.nd rfl (by first | exact .inl rfl | exact .inr rfl))) (fun A' s H C cl code fp hr => have hu := hr.units; pts_nil) (fun A' s H C cl code fp hr => have hu := hr.units; (pe_chain op_le op_lt pe_int (pv 3) (pe_callB (k_cr_lenS K) (by rfl) M.n_len boot_len (pa_cons (pv 0) pa_nil)))) (by intro _; rfl)))))))
        (pss_one (ps_ret pe_bl))
        pss_nil)
      (pss_cons (ps_for PassesOwn.never rfl (k_pi_enumT K (by rfl) M.n_enumerate (pa_cons (pv 2) pa_nil)) (k_pg_tup K (n := 2) rfl (pgs_cons (pg_name (i := 4) S.nd rfl (by first | exact .inl rfl | exact .inr rfl)) (pgs_cons (pg_name (i := 3) S.nd rfl (by first | exact .inl rfl | exact .inr rfl)) pgs_nil)))
        (pss_one (ps_for PassesOwn.never rfl (pi_range1 (by rfl) M.n_range (pa_cons (pe_callB (k_cr_lenS K) (by rfl) M.n_len boot_len (pa_cons (pv 0) pa_nil)) pa_nil)) (pg_name (i := 5) S.nd rfl (by first | exact .inl rfl | exact .inr rfl))
          (pss_one (ps_if (PW.pt (pw_and (pt_val (pe_c c_is_before hr (by decide) (by rfl) (pa_cons (pv 0) (pa_cons (pv 1) (pa_cons (pv 5) (pa_cons (pv 3) pa_nil)))))) (pw_and1 (pt_cmpR (k_op_notInK K hu) (pv 5) (pe_slice (k_sl_tupA K) (pv 2) po_none (po_some (pv 4))) (by rfl)))))
            (pss_one (ps_ret pe_bl))
            pss_nil)))))
      (pss_one (ps_ret pe_bl))))) (fun Ts T h => ?hbd)
  case hlen =>
    obtain ⟨h, m, r, _, _, _, rfl, rfl⟩ := h
    rfl
  case hbd =>
    obtain ⟨h, m, r, ok, hr, hl, rfl, rfl⟩ := h
    intro σ H s D q
    have nine : h.ops.length ≤ 9 := ok.nine
    have hln : (nums (nats r)).length = r.length := by simp
    refine q_when s (et_is (et_or (c := false) (b := !decide r.Nodup) (et_test (ev_ltE (ev_lenSet (ns := nats r) (ev_var rfl) (by simp; omega)) (ev_cb (ea_cons (ev_var rfl) ea_nil) rc_lenT) fun c hc => ?_)) fun hb => et_not (b := true) (et_B (ev_B (et_all (Γ1 := fun k => ⟨tabs, [some (tyL K (opsD h.ops)), some (tyS K (modS m)), some (tyT K (nums (nats r))), some (tyI K ((r.getD k 0 : Nat) : Int)), none, none]⟩) (fun _ => true) (fun _ => true) hT (iv_tup (ev_var rfl)) (fun k hk => ?_) (fun k hk => et_true) (fun k hk _ => ?_)) (by simp)))) rfl) (fun hb H1 e1 s1 => ?_) (fun hb H1 e1 s1 => ?_)
    · rw [hln]
      have hc2 : c ≤ r.length ∧ (c = r.length ↔ r.Nodup) := by
        have := hc
        rw [nats_nodup] at this
        simpa using this
      rw [Bool.eq_iff_iff, decide_eq_true_eq, Bool.not_eq_true', decide_eq_false_iff_not, ← hc2.2]
      omega
    · have hk : k < r.length := by simpa using hk
      have e : (nums (nats r)).getD k .none = .num ((r.getD k 0 : Nat) : Int) := nums_nats_getD (by rw [List.getD_eq_getElem?_getD, List.getElem?_eq_getElem hk]; rfl)
      rw [e]
      exact gt_name (by simp)
    · have hk : k < r.length := by simpa using hk
      have hmem : r.getD k 0 ∈ r := by rw [List.getD_eq_getElem?_getD, List.getElem?_eq_getElem hk]; exact List.getElem_mem hk
      have := hr _ hmem
      refine ev_B (ev_chain (W := tyI K (h.ops.length : Int)) ev_i (ev_var rfl) ?_ rv_C0 fun _ => rv_C0) ?_
      · have := ev_cb (ea_cons (ev_var (T := tyL K (opsD h.ops)) (Γ := ⟨tabs, [some (tyL K (opsD h.ops)), some (tyS K (modS m)), some (tyT K (nums (nats r))), some (tyI K ((r.getD k 0 : Nat) : Int)), none, none]⟩) (i := 0) rfl) ea_nil) rc_lenL
        rw [show (opsD h.ops).length = h.ops.length by simp [opsD]] at this
        exact this
      · rw [Bool.and_eq_true, decide_eq_true_eq, decide_eq_true_eq]
        constructor <;> omega
    · rw [Bool.or_false, Bool.not_eq_true', decide_eq_false_iff_not] at hb
      exact r_bool e1 s1 ev_b ⟨fun z => (by cases z), fun z => absurd z.1 hb⟩ q
    · rw [Bool.or_false, Bool.not_eq_false', decide_eq_true_eq] at hb
      refine q_for s1 (iv_enum (ea_cons (ev_var rfl) ea_nil)) fun H4 e4 s4 => ?_
      let Γi : Nat → Gam := fun i => ⟨tabs, [some (tyL K (opsD h.ops)), some (tyS K (modS m)), some (tyT K (nums (nats r))), none, none, none]⟩
      let Mi : Nat → Hp → Prop := fun i H' => Imm H4 H' ∧ Ext H H' ∧ ∀ k j, k < i → r[k]? = some j → ∀ o, o < h.ops.length → bef m h.ops o j = true → o ∈ r.take k
      refine ⟨Γi, Mi, ⟨s4.len, s4.at_, s4.tab⟩, ⟨Imm.refl _, e1.trans e4, fun k j hk => by omega⟩, fun i H' m => m.1, fun i σ' H' hi si mi x H2' ex rx s' => ?_, fun σ' H' sn mn => ?_⟩
      · obtain ⟨m1, m2, m3⟩ := mi
        have hi : i < r.length := by simpa using hi
        obtain ⟨j, hj⟩ : ∃ j, r[i]? = some j := get_lt hi
        have hjn : j < h.ops.length := hr j (List.mem_of_getElem? hj)
        rw [nums_nats_getD hj] at rx
        refine gt_tup2 (vs := [4, 3]) (gt_name (by simp)) (gt_name (by simp)) x σ' H2' s' rx _ fun σ3' snx _ => ?_
        have snx : Sty ⟨tabs, [some (tyL K (opsD h.ops)), some (tyS K (modS m)), some (tyT K (nums (nats r))), some (tyI K (j : Int)), some (tyI K (i : Int)), none]⟩ σ3' H2' := snx
        refine s_for snx (iv_rng (ev_lenL (ev_var rfl)) (by omega)) fun H5 e5 s5 => ?_
        let Γ2 : Nat → Gam := fun i' => ⟨tabs, [some (tyL K (opsD h.ops)), some (tyS K (modS m)), some (tyT K (nums (nats r))), some (tyI K (j : Int)), some (tyI K (i : Int)), none]⟩
        let M2 : Nat → Hp → Prop := fun o' H' => Imm H5 H' ∧ Ext H H' ∧ ∀ o, o < o' → bef m h.ops o j = true → o ∈ r.take i
        refine ⟨Γ2, M2, s5, ⟨Imm.refl _, (m2.trans ex).trans e5, fun o ho => by omega⟩, fun i H' m => m.1, fun o σ4 H6 ho so mo y H7 ey ry s7 => ?_, fun σ4 H6 so mo => ?_⟩
        · obtain ⟨n1, n2, n3⟩ := mo
          have sny : Sty ⟨tabs, [some (tyL K (opsD h.ops)), some (tyS K (modS m)), some (tyT K (nums (nats r))), some (tyI K (j : Int)), some (tyI K (i : Int)), some (tyI K (o : Int))]⟩ (σ4.set 5 (some y)) H7 := Sty.set (i := 5) s7 ry
          show tIfS _ _ _ _ (σ4.set 5 (some y)) H7
          refine s_when (b := bef m h.ops o j && !(r.take i).contains o) sny (et_and (et_B (ev_call (tb := []) (F := PBef K) (ea_cons (ev_var rfl) (ea_cons (ev_var rfl) (ea_cons (ev_var rfl) (ea_cons (ev_var rfl) ea_nil)))) ⟨h, m, o, j, ok, ho, hjn, rfl, rfl⟩ (by simp))) fun _ => et_test (ev_B (ev_op (ev_var rfl) (ev_sl (ds := nums (nats r)) (ev_var rfl) eo_none (eo_some (K := K) (ev_var rfl))) (rv_niT (Nat.zero_le _))) ?_)) (fun hbb H8 e8 s8 => ?_) (fun hbb H8 e8 s8 => ?_)
          · rw [cut_to (by simp; omega), show (nums (nats r)).take i = nums (nats (r.take i)) by simp [nums, nats, List.map_take], mem_natsB]
          · rw [Bool.and_eq_true, Bool.not_eq_true'] at hbb
            refine r_bool ((n2.trans ey).trans e8) s8 ev_b ⟨fun z => (by cases z), fun z => ?_⟩ q
            have := z.2.2 i j hj o ho hbb.1
            rw [← List.contains_iff_mem] at this
            rw [this] at hbb
            cases hbb.2
          · refine ⟨s8.lose (i := 5), n1.trans (ey.toImm.trans e8.toImm), (n2.trans ey).trans e8, fun o' ho' hbo => ?_⟩
            by_cases eo : o' = o
            · subst eo
              rw [hbo, Bool.true_and, Bool.not_eq_false'] at hbb
              rwa [List.contains_iff_mem] at hbb
            · exact n3 o' (by omega) hbo
        · refine ⟨((so.lose (i := 3)).lose (i := 4)), (m1.trans (ex.toImm.trans e5.toImm)).trans mo.1, mo.2.1, fun k j' hk hkj o ho hbo => ?_⟩
          by_cases ek : k = i
          · subst ek
            rw [hj] at hkj
            cases hkj
            exact mo.2.2 o ho hbo
          · exact m3 k j' (by omega) hkj o ho hbo
      · have mn : Imm H4 H' ∧ Ext H H' ∧ ∀ k j, k < (nums (nats r)).length → r[k]? = some j → ∀ o, o < h.ops.length → bef m h.ops o j = true → o ∈ r.take k := mn
        refine r_bool mn.2.1 sn ev_b ⟨fun _ => ⟨hb, hr, fun k j hk o ho hbo => mn.2.2 k j ?_ hk o ho hbo⟩, fun _ => rfl⟩ q
        rw [hln]
        exact (List.getElem?_eq_some_iff.mp hk).1

/-! ### is_order -/
def EvTP (tt : TT) (Γ : Gam) (P : Bool → Prop) : Prop := ∀ σ H, Sty Γ σ H → ∀ Q : Bool → Hp → Prop, (∀ b H', P b → Ext H H' → Q b H') → tt σ H Q
section
variable {Γ : Gam} {te : TE} {t : TT} {P : Bool → Prop} {σ : L2.St} {H : Hp} {Dd : Ends} {tu tw tz : TS}
theorem tp_B (h : Ev te Γ (tyE P tyB)) : EvTP (tB te) Γ P := fun σ H s Q q => h σ H s _ fun v H1 e ⟨b, hb, r⟩ => ⟨b, r, q b H1 hb e⟩
theorem tp_not (h : EvTP t Γ P) : EvTP (tNot t) Γ fun b => P (!b) := fun σ H s Q q => h σ H s _ fun b H1 hb e => q _ H1 (by show P (!!b); rw [Bool.not_not]; exact hb) e
theorem q_whenP (s : Sty Γ σ H) (h : EvTP t Γ P) (h1 : P true → ∀ H', Ext H H' → Sty Γ σ H' → tu { Dd with nx := tz Dd } σ H') (h2 : P false → ∀ H', Ext H H' → Sty Γ σ H' → tz Dd σ H') : tSeq (tIfS t tu tNext) tz Dd σ H := h σ H s _ fun b H1 hb e => by
  cases b with
  | true =>
    show tu _ σ H1
    exact h1 hb H1 e (s.imm e.toImm)
  | false =>
    show tz Dd σ H1
    exact h2 hb H1 e (s.imm e.toImm)
end
theorem legal_at (Y : Sys (List St1)) : ∀ (r : List Nat) (s : List St1), Legal Y r s ↔ ∀ k i, r[k]? = some i → (Y.stp i (runs Y (r.take k) s)).2 = true
  | [], s => ⟨fun _ k i h => by simp at h, fun _ => trivial⟩
  | j :: r, s => by
    show (Y.stp j s).2 = true ∧ Legal Y r _ ↔ _
    rw [legal_at Y r]
    constructor
    · rintro ⟨h1, h2⟩ k i hk
      cases k with
      | zero => simp at hk; subst hk; exact h1
      | succ k => exact h2 k i (by simpa using hk)
    · intro h
      exact ⟨h 0 j rfl, fun k i hk => h (k + 1) i (by simpa using hk)⟩
theorem resL_at (h : Hist) (m : Bool) : ∀ (r : List Nat) (s : List St1) (k i : Nat), r[k]? = some i → (resL h r s)[k]? = some (stepO h i (runs (h.sys m) (r.take k) s)).2
  | [], s, k, i, e => by simp at e
  | j :: r, s, 0, i, e => by simp at e; subst e; rfl
  | j :: r, s, k + 1, i, e => by
    show (resL h r _)[k]? = _
    rw [resL_at h m r _ k i (by simpa using e)]
    rfl
def POrd (K : PySem.W.Frag) : List Ty → Ty → Prop := fun Ts T => ∃ (h : Hist) (m : Bool) (r : List Nat), h.Ok ∧ (∀ i ∈ r, i < h.ops.length) ∧ r.length ≤ 40 ∧ Ts = [tyD K (histD h), tyS K (modS m), tyT K (nums (nats r))] ∧ T = tyE (fun b : Bool => b = true ↔ IsOrder (h.sys m) r) tyB
theorem sc_is_order : FnScope ["some_history", "model", "row", "listed", "number", "result"] ["some_history", "model", "row"] (defScope (top 19)) := C8.fnScope_by (by decide +kernel)
theorem cal_is_order {P : Program} {w : World} {K : PySem.W.Frag} {mg : Str → Option Value} {base : Heap} {f : Addr} {fd : FuncData} {cc : Addr} (F : FunC K mg "is_order" (top 19) f fd (.ref cc)) (M : Nm mg) {Tb : Addr} {tabs : List Addr} (TB : TabB base mg cc Tb) (hT : Tb ∈ tabs)  (c_operations : Cal P w K mg base 4 "operations" (Pm [] (POps K))) (c_results : Cal P w K mg base 5 "results" (Pm [] (PRes K))) (c_is_row : Cal P w K mg base 6 "is_row" (Pm tabs (PRow K))) : Cal P w K mg base (6 + 1) "is_order" (Pm tabs (POrd K)) := by
  have b := F.binds (ps := ["some_history", "model", "row"]) fun _ _ _ _ _ _ us hl => match us, hl with | [_, _, _], _ => rfl
  have kds := F.kds
  have S := sc_is_order
  refine cal1 F b sc_is_order (fun Ts T h => ?hlen) (fun A outer s H E hr => have hu := hr.units; have hu1 := hu_of hr;
      (pss_cons (ps_set (i := 3) S.nd rfl (by first | exact .inl rfl | exact .inr rfl) (pe_c c_operations hr (by decide) (by rfl) (pa_cons (pv 0) pa_nil)))
      (pss_cons (ps_if (pt_not (pt_val (pe_c c_is_row hr (by decide) (by rfl) (pa_cons (pv 3) (pa_cons (pv 1) (pa_cons (pv 2) pa_nil))))))
        (pss_one (ps_ret pe_bl))
        pss_nil)
      (pss_cons (ps_for PassesOwn.never rfl (k_pi_zipTL K (by rfl) M.n_zip (pa_cons (pv 2) (pa_cons (pe_c c_results hr (by decide) (by rfl) (pa_cons (pv 0) (pa_cons (pv 2) pa_nil))) pa_nil))) (k_pg_tup K (n := 2) rfl (pgs_cons (pg_name (i := 4) S.nd rfl (by first | exact .inl rfl | exact .inr rfl)) (pgs_cons (pg_name (i := 5) S.nd rfl (by first | exact .inl rfl | exact .inr rfl)) pgs_nil)))
        (pss_one (ps_if (PW.pt (pw_and (pt_cmp (pc_notN (pe_ix (k_ix_tup K) (pe_ix (k_ix_list K) (pv 3) (pv 4) (fun _ _ => rfl)) pe_int (fun _ _ => rfl)))) (pw_and1 (pt_cmpR (k_op_neD K hu) (pe_ix (k_ix_tup K) (pe_ix (k_ix_list K) (pv 3) (pv 4) (fun _ _ => rfl)) pe_int (fun _ _ => rfl)) (pv 5) (nomark _)))))
          (pss_one (ps_ret pe_bl))
          pss_nil)))
      (pss_one (ps_ret (GA.pe_allG (own := [("number", 4)]) (k := 5) (hr.mono (by decide)) rfl S.nd (by rfl) M.n_all boot_all TB rfl (pi_range1 (by rfl) M.n_range (pa_cons (pe_callB (k_cr_lenS K) (by rfl) M.n_len boot_len (pa_cons (pv 3) pa_nil)) pa_nil)) (blkOk_by (N := ["some_history", "model", "row", "listed", "number", "result"]) (sc := defScope (top 19)) (by decide +kernel)) (by decide +kernel) (by rfl) (by rfl) (fun A' s H C cl code fp hr => have hu := hr.units; (pg_name (i := 4) S.nd rfl (by first | exact .inl rfl | exact .inr rfl))) (fun A' s H C cl code fp hr => have hu := hr.units; (pts_one (pt_cmp (pc_notN (pe_ix (k_ix_tup K) (pe_ix (k_ix_list K) (pv 3) (pv 4) (fun _ _ => rfl)) pe_int (fun _ _ => rfl)))))) (fun A' s H C cl code fp hr => have hu := hr.units; (pe_cmpR (k_op_inK K hu) (pv 4) (pv 2) (by rfl))) (by intro _; rfl)))))))) (fun Ts T h => ?hbd)
  case hlen =>
    obtain ⟨h, m, r, _, _, _, rfl, rfl⟩ := h
    rfl
  case hbd =>
    obtain ⟨h, m, r, ok, hr, hl, rfl, rfl⟩ := h
    intro σ H s D q
    have nine : h.ops.length ≤ 9 := ok.nine
    have hln : (nums (nats r)).length = r.length := by simp
    refine q_set s (ev_call (tb := []) (F := POps K) (ea_cons (ev_var rfl) ea_nil) ⟨h, ok, rfl, rfl⟩ (by simp)) fun σ1 H1 e1 s1 => ?_
    refine q_whenP s1 (tp_not (tp_B (ev_call (tb := tabs) (F := PRow K) (ea_cons (ev_var rfl) (ea_cons (ev_var rfl) (ea_cons (ev_var rfl) ea_nil))) ⟨h, m, r, ok, hr, hl, rfl, rfl⟩ (fun _ z => z)))) (fun hb H2 e2 s2 => ?_) (fun hb H2 e2 s2 => ?_)
    · refine r_bool (e1.trans e2) s2 ev_b ⟨fun z => (by cases z), fun z => ?_⟩ q
      have := hb.mpr z.1
      cases this
    · have hrow : IsRow (h.sys m) r := hb.mp rfl
      refine q_for s2 (iv_zip (ea_cons (ev_var rfl) (ea_cons (ev_call (tb := []) (F := PRes K) (ea_cons (ev_var rfl) (ea_cons (ev_var rfl) ea_nil)) ⟨h, r, ok, hr, hl, rfl, rfl⟩ (by simp)) ea_nil)) (by simp [resL_len])) fun H4 e4 s4 => ?_
      let Γi : Nat → Gam := fun i => ⟨tabs, [some (tyD K (histD h)), some (tyS K (modS m)), some (tyT K (nums (nats r))), some (tyL K (opsD h.ops)), none, none]⟩
      let Mi : Nat → Hp → Prop := fun i H' => Imm H4 H' ∧ Ext H H' ∧ ∀ k j, k < i → r[k]? = some j → ((h.sys m).stp j (runs (h.sys m) (r.take k) (h.sys m).init)).2 = true
      refine ⟨Γi, Mi, ⟨s4.len, s4.at_, s4.tab⟩, ⟨Imm.refl _, (e1.trans e2).trans e4, fun k j hk => by omega⟩, fun i H' m => m.1, fun i σ' H' hi si mi x H2' ex rx s' => ?_, fun σ' H' sn mn => ?_⟩
      · obtain ⟨m1, m2, m3⟩ := mi
        have hi : i < r.length := by simpa using hi
        obtain ⟨j, hj⟩ : ∃ j, r[i]? = some j := get_lt hi
        have hjn : j < h.ops.length := hr j (List.mem_of_getElem? hj)
        have hres := resL_at h m r (h.ks.map init1) i j hj
        rw [nums_nats_getD hj] at rx
        have hres2 : (List.map resD (resL h r (h.ks.map init1))).getD i .none = resD (stepO h j (runs (h.sys m) (r.take i) (h.ks.map init1))).2 := by
          rw [List.getD_eq_getElem?_getD, List.getElem?_map, hres] <;> rfl
        rw [hres2] at rx
        refine gt_tup2 (vs := [4, 5]) (gt_name (by simp)) (gt_name (by simp)) x σ' H2' s' rx _ fun σ3' snx _ => ?_
        have snx : Sty ⟨tabs, [some (tyD K (histD h)), some (tyS K (modS m)), some (tyT K (nums (nats r))), some (tyL K (opsD h.ops)), some (tyI K (j : Int)), some (tyD K (resD (stepO h j (runs (h.sys m) (r.take i) (h.ks.map init1))).2))]⟩ σ3' H2' := snx
        refine s_when (b := !((h.sys m).stp j (runs (h.sys m) (r.take i) (h.sys m).init)).2) snx (et_is (et_and (et_B (ev_notNone hjn (ev_var rfl) (ev_var rfl))) fun _ => et_ne (ev_op4 (ev_listed (ev_var rfl) (ev_var rfl) hjn)) (ev_var rfl) (sh_rop _) (sh_res _)) ?_) (fun hbb H8 e8 s8 => ?_) (fun hbb H8 e8 s8 => ?_)
        · show (_ && !_) = !((opAt h.ops j).ret.isNone || decide ((opAt h.ops j).r = some (stepO h j (runs (h.sys m) (r.take i) (h.ks.map init1))).2))
          rw [Bool.not_or]
          congr 1
          · cases (opAt h.ops j).ret <;> rfl
          · congr 1
            rw [Bool.eq_iff_iff, decide_eq_true_eq, decide_eq_true_eq]
            exact ropD_eq
        · refine r_bool ((m2.trans ex).trans e8) s8 ev_b ⟨fun z => (by cases z), fun z => ?_⟩ q
          have := (legal_at (h.sys m) r _).mp z.2.1 i j hj
          rw [this] at hbb
          cases hbb
        · refine ⟨((s8.lose (i := 4)).lose (i := 5)), m1.trans (ex.toImm.trans e8.toImm), (m2.trans ex).trans e8, fun k j' hk hkj => ?_⟩
          by_cases ek : k = i
          · subst ek
            rw [hj] at hkj
            cases hkj
            simpa using hbb
          · exact m3 k j' (by omega) hkj
      · have mn : Imm H4 H' ∧ Ext H H' ∧ ∀ k j, k < (nums (nats r)).length → r[k]? = some j → ((h.sys m).stp j (runs (h.sys m) (r.take k) (h.sys m).init)).2 = true := mn
        have hleg : Legal (h.sys m) r (h.sys m).init := (legal_at _ r _).mpr fun k j hk => mn.2.2 k j (by rw [hln]; exact (List.getElem?_eq_some_iff.mp hk).1) hk
        refine r_bool mn.2.1 sn (et_all (Γ1 := fun j => ⟨tabs, [some (tyD K (histD h)), some (tyS K (modS m)), some (tyT K (nums (nats r))), some (tyL K (opsD h.ops)), some (tyI K (j : Int)), none]⟩) (fun j => (opAt h.ops j).ret.isSome) (fun j => r.contains j) hT (iv_rng (ev_lenL (ev_var rfl)) (by omega)) (fun j hj => gt_name (by simp)) (fun j hj => et_B (ev_notNone hj (ev_var rfl) (ev_var rfl))) (fun j hj _ => ev_inNat (ev_var rfl) (ev_var rfl))) ?_ q
        exact ⟨fun z => ⟨hrow, hleg, z⟩, fun z => z.2.2⟩
end OS

end

section
set_option maxHeartbeats 4000000
/-! Typed layer: dicts keyed by nested tuples, pop, a loop over a call whose arguments change a list. -/
namespace OS
open PySem PySem.Spec PyProof.Rows L2 GxR

def NAt (P : Program) (w : World) (K : PySem.W.Frag) (a : Addr) (ks : List D) (H : Hp) : Prop := ∃ xs : List (D × Addr), IsN P w K H a xs ∧ xs.map (·.1) = ks
def putKs (ks : List D) (k : D) : List D := if k ∈ ks then ks else ks ++ [k]
theorem mem_putKs {ks : List D} {k j : D} : j ∈ putKs ks k ↔ j ∈ ks ∨ j = k := by
  unfold putKs
  split
  · constructor
    · exact .inl
    · rintro (h | rfl) <;> assumption
  · simp
theorem putKs_nodup {ks : List D} {k : D} (h : ks.Nodup) : (putKs ks k).Nodup := by
  unfold putKs
  split
  · exact h
  · rename_i hn
    rw [List.nodup_append]
    exact ⟨h, by simp, fun a ha b hb => by simp at hb; subst hb; exact fun e => hn (e ▸ ha)⟩
theorem putN_keys (xs : List (D × Addr)) (k : D) (b : Addr) : (putN xs k b).map (·.1) = putKs (xs.map (·.1)) k := by
  unfold putN putKs
  split
  · rfl
  · rw [List.map_append] <;> rfl
section
variable {P : Program} {w : World} {K : PySem.W.Frag} {Γ Γ' : Gam} {T U W : Ty} {ta tb te : TE} {t u : TT} {k : D} {ds es ks : List D} {b c : Bool} {σ : L2.St} {H H' H0 H1 : Hp} {a p q : Addr} {S : Addr → Prop}
theorem NAt.upS (h : NAt P w K a ks H) (e : ExtS S H H') (hs : ¬ S a) : NAt P w K a ks H' := let ⟨xs, h1, h2⟩ := h; ⟨xs, h1.ext e hs, h2⟩
theorem NAt.up (h : NAt P w K a ks H) (e : Ext H H') : NAt P w K a ks H' := h.upS e fun z => z
theorem NAt.ne (h : NAt P w K a ks H) (L : Lst K p ds H) : p ≠ a := fun z => by
  obtain ⟨xs, h1, _⟩ := h
  obtain ⟨ys, h2, _⟩ := L
  rw [z, h1.at_] at h2
  cases h2
theorem NAt.dom (h : NAt P w K a ks H) : H a ≠ none := by obtain ⟨xs, h1, _⟩ := h; rw [h1.at_]; simp
theorem l_inN {neg : Bool} (N : NAt P w K a ks H) (ha : EvL ta σ H (tyD K k)) (hb : EvL tb σ H (tyR a)) (hk : ∃ kk, k = .tup kk) (h8 : k.depth ≤ 8) : EvL (tOp (rInN P w K neg) ta tb) σ H (tyB (if neg then !decide (k ∈ ks) else decide (k ∈ ks))) := fun H1 e1 Q q =>
  ha H1 e1 _ fun x H2 e2 r1 => hb H2 (e1.trans e2) _ fun y H3 e3 r2 => by
    obtain rfl : y = .ref a := r2
    obtain ⟨xs, n1, rfl⟩ := N.up ((e1.trans e2).trans e3)
    obtain ⟨kk, rfl⟩ := hk
    have r1' := r1.imm e3.toImm _ _
    obtain ⟨b, vs, rfl, _⟩ := r1
    exact ⟨a, xs, _, rfl, n1, ⟨b, rfl⟩, r1', h8, q _ H3 (e2.trans e3) rfl⟩
variable {Dd : Ends} {tu tw tz ts : TS} {vs : List Nat} {g : TG}
/-- d[k] = True -/
theorem m_setN (s : Sty Γ σ H) (N : NAt P w K a ks H) (ho : Ev ta Γ (tyR a)) (hi : Ev tb Γ (tyD K k)) (hk : ∃ kk, k = .tup kk) (h8 : k.depth ≤ 8) (hn : ks.length < 2000000) (q : ∀ H', ExtS (· = a) H H' → Sty Γ σ H' → NAt P w K a (putKs ks k) H' → Dd.nx σ H') :
    tAsg (tC (.bl true)) (gSub ta tb (rSetN P w K)) Dd σ H := ho σ H s _ fun x H1 e1 r1 => hi σ H1 (s.imm e1.toImm) _ fun y H2 e2 r2 => by
  obtain rfl : x = .ref a := r1
  obtain ⟨xs, n1, rfl⟩ := N.up (e1.trans e2)
  obtain ⟨kk, rfl⟩ := hk
  obtain ⟨b, vs, rfl, hb⟩ := r2
  have hkb : Td K H2 (.tup kk) (.ref b) := ⟨b, vs, rfl, hb⟩
  have m := mut1 (o := DN P w a (putN xs (.tup kk) b)) n1.at_ trivial
  have mm := (Ext.to (S := (· = a)) (e1.trans e2)).trans m
  refine ⟨a, xs, _, b, rfl, rfl, rfl, ⟨n1, hkb, h8⟩, by rw [sizeLine_eq]; simp at hn; omega, q _ mm (s.imm mm.toImm) ⟨_, ⟨upd_same, fun x hx => ?_⟩, putN_keys _ _ _⟩⟩
  rcases mem_putN hx with h | rfl
  · exact ⟨(n1.keys x h).1.imm m.toImm _ _, (n1.keys x h).2⟩
  · exact ⟨hkb.imm m.toImm _ _, h8⟩
/-- i = {k: True} -/
theorem p_dispN {i : Nat} (s : Sty Γ σ H) (hi : Ev tb Γ (tyD K k)) (hk : ∃ kk, k = .tup kk) (h8 : k.depth ≤ 8) (q : ∀ p σ' H', H p = none → Ext H H' → NAt P w K p [k] H' → Sty (Γ.set i (some (tyR p))) σ' H' → tz Dd σ' H') : tSeq (tAsg (tDispN P w K tb (tC (.bl true))) (gName i)) tz Dd σ H := fun p hp => by
  have e0 : Ext H (upd H p (DN P w p [])) := Ext.new hp
  refine hi σ _ (s.imm e0.toImm) _ fun x H1 e1 r1 => ?_
  obtain ⟨kk, rfl⟩ := hk
  obtain ⟨b, vs, rfl, hb⟩ := r1
  have hkb : Td K H1 (.tup kk) (.ref b) := ⟨b, vs, rfl, hb⟩
  have a1 : H1 p = some (DN P w p []) := e1.keep p _ (fun z => z) upd_same (fun _ z => by cases z)
  have m := mut1 (o := DN P w p [(.tup kk, b)]) a1 trivial
  have mm : Ext H (upd H1 p (DN P w p [(.tup kk, b)])) := Ext.only (e0.trans e1) hp m
  refine ⟨.tup kk, b, rfl, rfl, hkb, h8, ⟨a1, fun _ z => by cases z⟩, q p _ _ hp mm ⟨_, ⟨upd_same, fun x hx => ?_⟩, rfl⟩ ((s.imm mm.toImm).set rfl)⟩
  rw [List.mem_singleton] at hx
  subst hx
  exact ⟨hkb.imm m.toImm _ _, h8⟩
/-- .., l.pop() as the last of the arguments -/
theorem a_pop {d : D} {i : Nat} (s : Sty Γ σ H) (L : Lst K p (ds ++ [d]) H) (hi : Γ.l[i]? = some (some (tyR p))) {Q : List V → Hp → Prop} (q : ∀ vs H', ExtS (· = p) H H' → Alls [tyD K d] vs H' → Lst K p ds H' → Q vs H') : tCons (tBM0 K "list" rPop (tVar i)) tNil σ H Q := by
  obtain ⟨v, hv, rfl⟩ := s.at_ i _ hi
  obtain ⟨xs, a, t⟩ := L
  have hl : xs.length = ds.length + 1 := by rw [t.length]; simp
  obtain ⟨y, hy, ty⟩ := t.get (i := ds.length) (d := d) (by simp)
  have m := mut1 (o := .lst xs.dropLast) a trivial
  refine ⟨_, hv, .inl ⟨rfl, xs, .inl (.inl a)⟩, p, xs, y, rfl, rfl, a, by rw [hl]; exact hy, q _ _ m ⟨y, [], rfl, ty.imm m.toImm _ _, rfl⟩ ⟨_, upd_same, ?_⟩⟩
  have := (t.take ds.length).imm m.toImm _ _
  rw [List.take_left, show xs.take ds.length = xs.dropLast by rw [List.dropLast_eq_take, hl]; rfl] at this
  exact this
/-- for .. in f(..): the arguments change the list at p -/
theorem s_forM {tabs : List Addr} {F : List Ty → Ty → Prop} {Ts : List Ty} {tr : TA} {Φ : Hp → Prop} (s : Sty Γ σ H)
    (hA : ∀ Q : List V → Hp → Prop, (∀ vs H1, ExtS (· = p) H H1 → Alls Ts vs H1 → Φ H1 → Q vs H1) → tr σ H Q) (hΦ : ∀ H H', Ext H H' → Φ H → Φ H') (hF : F Ts (tyL K ds)) (ht : ∀ P ∈ tabs, P ∈ Γ.tb)
    (k : ∀ H1, ExtS (· = p) H H1 → Φ H1 → Sty Γ σ H1 → ∃ (Γi : Nat → Gam) (M : Nat → Hp → Prop), Sty (Γi 0) σ H1 ∧ M 0 H1 ∧ (∀ i H', M i H' → Imm H1 H') ∧
      (∀ i σ' H', i < ds.length → Sty (Γi i) σ' H' → M i H' → ∀ x, Td K H' (ds.getD i .none) x → g x σ' H' fun σ3 H3 => tu { Dd with nx := fun σ H => Sty (Γi (i + 1)) σ H ∧ M (i + 1) H, ct := fun σ H => Sty (Γi (i + 1)) σ H ∧ M (i + 1) H, bk := Dd.nx } σ3 H3) ∧
      (∀ σ' H', Sty (Γi ds.length) σ' H' → M ds.length H' → Dd.nx σ' H')) : tFor (iList K (tCall (Pm tabs F) [] E0 tr)) g tu Dd σ H := by
  refine hA _ fun vs H1 e1 r1 φ => ?_
  refine ⟨Ts, _, hF, by rw [List.append_nil]; exact r1, fun P hP => e1.tab P (s.tab P (ht P hP)), fun v H2 e2 r2 => ?_⟩
  obtain ⟨l, xs, rfl, sq, t⟩ := r2
  obtain ⟨Γi, M, h0, m0, mi, hs, hd⟩ := k H2 (e1.trans e2.to) (hΦ _ _ e2 φ) (s.imm (e1.trans e2.to).toImm)
  refine ⟨l, rfl, ⟨xs, sq.sq⟩, ?_⟩
  have hl : xs.length = ds.length := t.length
  have w := (walk_list (K := K) (a := l) (xs := xs)).mono (G' := fun H => SqF K H l xs ∧ Tds K H ds xs) (Y' := fun i H2 x H3 => H3 = H2 ∧ (Tds K H2 ds xs → Td K H3 (ds.getD i .none) x)) (fun H z => z.1.sq) fun i H2 x H3 hi z y => by
    obtain ⟨rfl, hx⟩ := y
    refine ⟨rfl, fun z => ?_⟩
    obtain ⟨d, e1, e2⟩ := z.get' hx
    rw [List.getD_eq_getElem?_getD, e1]
    exact e2
  rw [hl] at w
  refine for_it w (fun i σ H => Sty (Γi i) σ H ∧ M i H) ⟨h0, m0⟩ (fun i σ' H' _ p => ⟨sq.imm (mi i H' p.2), t.imm (mi i H' p.2) _ _⟩) (fun i x σ' H' H3 hi p y => ?_) fun σ' H' p => hd σ' H' p.1 p.2
  obtain ⟨rfl, y⟩ := y
  exact hs i σ' H3 hi p.1 p.2 x (y (t.imm (mi i H3 p.2) _ _))
end
end OS

end

section
set_option maxHeartbeats 4000000
namespace OS
open PySem PySem.Spec PyProof.Rows L2 GxR OSx

/-! ### the told table, as data -/
structure IsTold (h : Hist) (m : Bool) (ds : List D) : Prop where
  pw : ds.Pairwise fun x y => ltD y x = false
  nd : ds.Nodup
  mem : ∀ d, d ∈ ds ↔ ∃ q, Reach (h.sys m) q ∧ d = posD q
theorem shps_of : ∀ {xs ys : List D}, (∀ (j : Nat) (x y : D), xs[j]? = some x → ys[j]? = some y → shp x y = true) → shps xs ys = true
  | [], _, _ => by unfold shps; rfl
  | _ :: _, [], _ => by unfold shps; rfl
  | x :: xs, y :: ys, h => by
    rw [shps, h 0 x y rfl rfl, Bool.true_and]
    exact shps_of fun j a b ha hb => h (j + 1) a b (by simpa using ha) (by simpa using hb)
theorem shps_nums (a b : List Int) : shps (nums a) (nums b) = true := shps_of fun j x y hx hy => by
  rw [List.getElem?_map] at hx hy
  cases e1 : a[j]? with
  | none => rw [e1] at hx; cases hx
  | some u =>
    cases e2 : b[j]? with
    | none => rw [e2] at hy; cases hy
    | some v =>
      rw [e1] at hx; rw [e2] at hy
      cases hx; cases hy
      simp [shp]
theorem shp_st {k : OSx.Kind} {n n' : Nat} {s t : St1} (h1 : Good1 n k s) (h2 : Good1 n' k t) : shp (stD s) (stD t) = true := by
  cases k with
  | reg => obtain ⟨i, rfl⟩ := h1; obtain ⟨j, rfl⟩ := h2; simp [stD, shp]
  | cnt => obtain ⟨i, rfl⟩ := h1; obtain ⟨j, rfl⟩ := h2; simp [stD, shp]
  | set => obtain ⟨i, rfl, _⟩ := h1; obtain ⟨j, rfl, _⟩ := h2; simp only [stD, shp]; exact shps_nums _ _
  | que => obtain ⟨i, rfl, _⟩ := h1; obtain ⟨j, rfl, _⟩ := h2; simp only [stD, shp]; exact shps_nums _ _
theorem shp_pos {h : Hist} (ok : h.Ok) {m : Bool} {p q : Pos (List St1)} (hp : Reach (h.sys m) p) (hq : Reach (h.sys m) q) : shp (posD p) (posD q) = true := by
  have g1 := reach_good ok hp
  have g2 := reach_good ok hq
  simp only [posD, statesD, shp, shps, shps_nums, Bool.true_and, Bool.and_true]
  · refine shps_of fun j x y hx hy => ?_
    rw [List.getElem?_map] at hx hy
    cases e1 : p.2[j]? with
    | none => rw [e1] at hx; cases hx
    | some u =>
      cases e2 : q.2[j]? with
      | none => rw [e2] at hy; cases hy
      | some v =>
        rw [e1] at hx; rw [e2] at hy
        cases hx; cases hy
        have hj : j < h.ks.length := by rw [← g1.1]; exact (List.getElem?_eq_some_iff.mp e1).1
        obtain ⟨k, hk⟩ : ∃ k, h.ks[j]? = some k := get_lt hj
        exact shp_st (g1.2 j k u hk e1) (g2.2 j k v hk e2)
theorem told_uniq {h : Hist} (ok : h.Ok) {m : Bool} {ds es : List D} (h1 : IsTold h m ds) (h2 : IsTold h m es) : ds = es := by
  have pm : ds.Perm es := (List.perm_ext_iff_of_nodup h1.nd h2.nd).mpr fun d => (h1.mem d).trans (h2.mem d).symm
  refine pm.eq_of_pairwise (fun a b ha hb l1 l2 => ?_) h1.pw h2.pw
  obtain ⟨q1, r1, rfl⟩ := (h1.mem a).mp ha
  obtain ⟨q2, r2, rfl⟩ := (h2.mem b).mp hb
  have hs := shp_pos ok r1 r2
  rw [ltD_no] at l1 l2
  refine (cmp_eq _ _ hs).mp ?_
  cases e : cmpD (posD q1) (posD q2) with
  | eq => rfl
  | lt => exact absurd e l2
  | gt => exact absurd (by rw [← cmpD_swap, e]; rfl) l1
theorem okD_nums (l : List Int) : okDs (nums l) = true := by
  induction l with
  | nil => rfl
  | cons a l ih => show (okD (.num a) && okDs (nums l)) = true; rw [ih]; rfl
theorem okD_states (s : List St1) : okDs (s.map stD) = true := by
  induction s with
  | nil => rfl
  | cons a l ih =>
    show (okD (stD a) && okDs (l.map stD)) = true
    rw [ih, Bool.and_true]
    cases a with
    | n i => rfl
    | l xs => exact okD_nums xs
theorem okD_pos (q : Pos (List St1)) : okD (posD q) = true := by
  show (okDs (nums (nats q.1)) && (okDs (q.2.map stD) && true)) = true
  rw [okD_nums, okD_states] <;> rfl
theorem okDs_of {ds : List D} (h : ∀ d ∈ ds, okD d = true) : okDs ds = true := by
  induction ds with
  | nil => rfl
  | cons a l ih => show (okD a && okDs l) = true; rw [h a (List.mem_cons_self ..), ih fun d hd => h d (List.mem_cons_of_mem _ hd)] <;> rfl
theorem depths_of {ds : List D} {n : Nat} (h : ∀ d ∈ ds, d.depth ≤ n) : NestedKey.depthAll ds ≤ n := by
  induction ds with
  | nil => exact Nat.zero_le _
  | cons a l ih =>
    have h1 := h a (List.mem_cons_self ..)
    have h2 := ih fun d hd => h d (List.mem_cons_of_mem _ hd)
    show max a.depth (NestedKey.depthAll l) ≤ n
    omega
theorem sh_told {h : Hist} {m : Bool} {ds : List D} (t : IsTold h m ds) : Sh8 (.tup ds) := by
  refine ⟨?_, ?_⟩
  · show okDs ds = true
    refine okDs_of fun d hd => ?_
    obtain ⟨q, _, rfl⟩ := (t.mem d).mp hd
    exact okD_pos q
  · have : NestedKey.depthAll ds ≤ 3 := depths_of fun d hd => by
      obtain ⟨q, _, rfl⟩ := (t.mem d).mp hd
      exact depth_pos q
    show NestedKey.depthAll ds + 1 ≤ 8
    omega

/-! ### told_table -/
theorem posD_tup (q : Pos (List St1)) : ∃ kk, posD q = .tup kk := ⟨_, rfl⟩
theorem posD_8 (q : Pos (List St1)) : (posD q).depth ≤ 8 := by have := depth_pos q; omega
theorem mem_posD {q : Pos (List St1)} {L : List (Pos (List St1))} : posD q ∈ L.map posD ↔ q ∈ L := by
  rw [List.mem_map]
  constructor
  · rintro ⟨p, hp, e⟩
    rw [posD_inj] at e
    exact e ▸ hp
  · exact fun h => ⟨q, h, rfl⟩
theorem movs_few {h : Hist} (ok : h.Ok) {m : Bool} {q : Pos (List St1)} : (mv (h.sys m) q).length ≤ 9 := by
  have := movs_len (Y := h.sys m) (q := q) (h.sys m).n
  have nine : h.ops.length ≤ 9 := ok.nine
  exact Nat.le_trans this nine
structure TJ (h : Hist) (m : Bool) (L W : List (Pos (List St1))) : Prop where
  nd : L.Nodup
  re : ∀ q ∈ L, Reach (h.sys m) q
  fi : OSx.first (h.sys m) ∈ L
  sub : ∀ q ∈ W, q ∈ L
  len : W.length ≤ L.length
def Clo (h : Hist) (m : Bool) (L : List (Pos (List St1))) (q : Pos (List St1)) : Prop := ∀ i t, (i, t) ∈ mv (h.sys m) q → t ∈ L
theorem movD_getD {l : List (Nat × Pos (List St1))} {i : Nat} {n : Nat} {t : Pos (List St1)} (h : l[i]? = some (n, t)) : (l.map movD).getD i .none = .tup [.num (n : Int), posD t] := by
  rw [List.getD_eq_getElem?_getD, List.getElem?_map, h] <;> rfl
def PTold (K : PySem.W.Frag) : List Ty → Ty → Prop := fun Ts T => ∃ (h : Hist) (m : Bool), h.Ok ∧ Ts = [tyD K (histD h), tyS K (modS m)] ∧ T = tyE (IsTold h m) (tyT K)
theorem sc_told_table : FnScope ["some_history", "model", "listed", "first", "found", "waiting", "_", "later"] ["some_history", "model"] (defScope (top 25)) := C8.fnScope_by (by decide +kernel)
theorem cal_told_table {P : Program} {w : World} {K : PySem.W.Frag} {mg : Str → Option Value} {base : Heap} {f : Addr} {fd : FuncData} {cdv : Value} (F : FunC K mg "told_table" (top 25) f fd cdv) (M : Nm mg) {tabs : List Addr}  (c_operations : Cal P w K mg base 4 "operations" (Pm [] (POps K))) (c_first_position : Cal P w K mg base 4 "first_position" (Pm [] (PFp K))) (c_moves : Cal P w K mg base 7 "moves" (Pm tabs (PMoves K))) : Cal P w K mg base (7 + 1) "told_table" (Pm tabs (PTold K)) := by
  have b := F.binds (ps := ["some_history", "model"]) fun _ _ _ _ _ _ us hl => match us, hl with | [_, _], _ => rfl
  have kds := F.kds
  have S := sc_told_table
  refine cal1 F b sc_told_table (fun Ts T h => ?hlen) (fun A outer s H E hr => have hu := hr.units; have hu1 := hu_of hr;
      (pss_cons (ps_set (i := 2) S.nd rfl (by first | exact .inl rfl | exact .inr rfl) (pe_c c_operations hr (by decide) (by rfl) (pa_cons (pv 0) pa_nil)))
      (pss_cons (ps_set (i := 3) S.nd rfl (by first | exact .inl rfl | exact .inr rfl) (pe_c c_first_position hr (by decide) (by rfl) (pa_cons (pv 0) pa_nil)))
      (pss_cons (ps_set (i := 4) S.nd rfl (by first | exact .inl rfl | exact .inr rfl) (k_pe_dispN P w K hu (pv 3) pe_bl))
      (pss_cons (ps_set (i := 5) S.nd rfl (by first | exact .inl rfl | exact .inr rfl) (pe_lst (pa_cons (pv 3) pa_nil)))
      (pss_cons (ps_while PassesOwn.never (k_truth K (pv 5) (fun _ => rfl))
        (pss_one (ps_for PassesOwn.never rfl (k_pi_list K (pe_c c_moves hr (by decide) (by rfl) (pa_cons (pv 0) (pa_cons (pv 2) (pa_cons (pv 1) (pa_cons (k_pop K (pv 5)) pa_nil)))))) (k_pg_tup K (n := 2) rfl (pgs_cons (pg_name (i := 6) S.nd rfl (by first | exact .inl rfl | exact .inr rfl)) (pgs_cons (pg_name (i := 7) S.nd rfl (by first | exact .inl rfl | exact .inr rfl)) pgs_nil)))
          (pss_one (ps_if (pt_cmpR (k_op_notInN P w K hu) (pv 7) (pv 4) (by rfl))
            (pss_cons (ps_asg pe_bl (pg_sub (pv 4) (pv 7) (k_set_N P w K hu)))
            (pss_one (ps_expr (k_append K (pv 5) (pa_cons (pv 7) pa_nil)))))
            pss_nil)))))
      (pss_one (ps_ret (pe_callTy (k_cr_tupS K) (by rfl) M.n_tuple boot_tuple (pa_cons (pe_callB (k_cr_sortedN P w K rfl hu) (by rfl) M.n_sorted boot_sorted (pa_cons (pv 4) pa_nil)) pa_nil)))))))))) (fun Ts T h => ?hbd)
  case hlen =>
    obtain ⟨h, m, _, rfl, rfl⟩ := h
    rfl
  case hbd =>
    obtain ⟨h, m, ok, rfl, rfl⟩ := h
    intro σ H s D q
    have nine : h.ops.length ≤ 9 := ok.nine
    refine q_set s (ev_call (tb := []) (F := POps K) (ea_cons (ev_var rfl) ea_nil) ⟨h, ok, rfl, rfl⟩ (by simp)) fun σ1 H1 e1 s1 => ?_
    refine q_set s1 (ev_call (tb := []) (F := PFp K) (ea_cons (ev_var rfl) ea_nil) ⟨h, m, ok, rfl, rfl⟩ (by simp)) fun σ2 H2 e2 s2 => ?_
    refine p_dispN (i := 4) s2 (ev_var rfl) (posD_tup _) (posD_8 _) fun d σ3 H3 hd e3 N3 s3 => ?_
    refine p_new (K := K) (ds := [posD (OSx.first (h.sys m))]) s3 (en_lst (ea_cons (ev_var rfl) ea_nil) (by simp)) fun p σ4 H4 hp e4 L4 s4 => ?_
    have e02 := e1.trans e2
    have e04 := (e02.trans e3).trans e4
    have hd0 : H d = none := e02.dom d hd
    have hp0 : H p = none := (e02.trans e3).dom p hp
    have N4 := N3.up e4
    have hpd : p ≠ d := N4.ne L4
    let Γw : Gam := ⟨tabs, [some (tyD K (histD h)), some (tyS K (modS m)), some (tyL K (opsD h.ops)), some (tyD K (posD (OSx.first (h.sys m)))), some (tyR d), some (tyR p), none, none]⟩
    let Wf : Nat → L2.St → Hp → Prop := fun mm σ' H' => ∃ L W, TJ h m L W ∧ mm = 2 * (1000000 - L.length) + W.length ∧ Sty Γw σ' H' ∧ Ext H H' ∧ NAt P w K d (L.map posD) H' ∧ Lst K p (W.map posD) H' ∧ ∀ q' ∈ L, q' ∈ W ∨ Clo h m L q'
    refine ⟨Wf, ⟨_, [OSx.first (h.sys m)], [OSx.first (h.sys m)], ⟨by simp, fun q hq => ?_, by simp, fun q hq => hq, by simp⟩, rfl, ⟨s4.len, s4.at_, s4.tab⟩, e04, N4, L4, fun q' hq => .inl hq⟩, ?_⟩
    · rw [List.mem_singleton] at hq; rw [hq]; exact Reach.first _
    · rintro mm σ' H' ⟨L, W, J, rfl, sw, e0, N, Lw, hcl⟩
      obtain ⟨v, hv, rfl⟩ := sw.at_ 5 _ rfl
      obtain ⟨xs, ax, tx, lx⟩ := Lw.len
      refine ⟨_, hv, !xs.isEmpty, .inl ⟨xs, .inl (.inl ax), rfl⟩, ?_⟩
      have few := reach_few (Y := h.sys m) nine J.nd J.re
      rcases List.eq_nil_or_concat W with rfl | ⟨W', p0, hW⟩
      · have : xs = [] := List.length_eq_zero_iff.mp (by rw [lx]; rfl)
        subst this
        show (if (false : Bool) = true then _ else _)
        rw [if_neg (by decide)]
        obtain ⟨vd, hvd, rfl⟩ := sw.at_ 4 _ rfl
        obtain ⟨ys0, n1, n2⟩ := N
        refine ⟨_, hvd, d, ys0, rfl, n1, fun x hx => ?_, fun x hx y hy => ?_, fun ys l hperm hpw hl => ⟨l, _, rfl, .inl ⟨.inl (.inl upd_same), fun l2 hl2 => ?_⟩⟩⟩
        · have : x.1 ∈ L.map posD := by rw [← n2]; exact List.mem_map.mpr ⟨x, hx, rfl⟩
          obtain ⟨q', _, e⟩ := List.mem_map.mp this
          exact ⟨_, _, e.symm⟩
        · have h1 : x.1 ∈ L.map posD := by rw [← n2]; exact List.mem_map.mpr ⟨x, hx, rfl⟩
          have h2 : y.1 ∈ L.map posD := by rw [← n2]; exact List.mem_map.mpr ⟨y, hy, rfl⟩
          obtain ⟨q1, r1, e1⟩ := List.mem_map.mp h1
          obtain ⟨q2, r2, e2⟩ := List.mem_map.mp h2
          rw [← e1, ← e2]
          exact shp_pos ok (J.re _ r1) (J.re _ r2)
        · have ee : Ext H' (upd (upd H' l (.lst (ys.map fun y => V.ref y.2))) l2 (.tup (ys.map fun y => V.ref y.2))) := (Ext.new hl).trans (Ext.new hl2)
          refine q _ _ (e0.trans ee) ⟨ys.map (·.1), ⟨?_, ?_, fun dd => ?_⟩, l2, _, rfl, .inl (.inl upd_same), ?_⟩
          · exact List.pairwise_map.mpr hpw
          · refine ((hperm.map (·.1)).nodup_iff).mpr ?_
            rw [n2]
            exact (List.pairwise_map.mpr (J.nd.imp fun hne e => hne (posD_inj.mp e)))
          · rw [(hperm.map (·.1)).mem_iff, n2, List.mem_map]
            constructor
            · rintro ⟨q', hq', rfl⟩
              exact ⟨q', J.re q' hq', rfl⟩
            · rintro ⟨q', ⟨r, hr⟩, rfl⟩
              refine ⟨q', ?_, rfl⟩
              have key : ∀ (a b : Pos (List St1)) (r : List Nat), OSx.Path (h.sys m) a r b → a ∈ L → b ∈ L := by
                intro a b r hp
                induction hp with
                | nil a => exact fun z => z
                | cons hm hp ih =>
                  intro ha
                  rcases hcl _ ha with z | z
                  · cases z
                  · exact ih (z _ _ hm)
              exact key _ _ r hr J.fi
          · have key : ∀ l' : List (NestedKey × Addr), (∀ y ∈ l', y ∈ ys0) → Tds K H' (l'.map (·.1)) (l'.map fun y => V.ref y.2) := by
              intro l'
              induction l' with
              | nil => intro _; rfl
              | cons y l' ih => exact fun hy => ⟨_, _, rfl, (n1.keys y (hy y (List.mem_cons_self ..))).1, ih fun z hz => hy z (List.mem_cons_of_mem _ hz)⟩
            exact (key ys fun y hy => hperm.mem_iff.mp hy).imm ee.toImm _ _
      · rw [List.concat_eq_append] at hW
        subst hW
        have hne : xs.isEmpty = false := by
          cases xs with
          | nil => simp at lx
          | cons _ _ => rfl
        rw [hne]
        have hp0 : p0 ∈ L := J.sub p0 (by simp)
        have hr0 := J.re p0 hp0
        refine ⟨fun σ5 H5 => ∃ m', m' < 2 * (1000000 - L.length) + (W' ++ [p0]).length ∧ Wf m' σ5 H5, fun _ _ z => z, ?_⟩
        have Lw' : Lst K p (W'.map posD ++ [posD p0]) H' := by rw [← List.map_singleton, ← List.map_append]; simpa using Lw
        refine s_forM (tabs := tabs) (F := PMoves K) (Ts := [tyD K (histD h), tyL K (opsD h.ops), tyS K (modS m), tyD K (posD p0)]) (ds := (mv (h.sys m) p0).map movD) (p := p) (Φ := fun H1 => Lst K p (W'.map posD) H1) sw (fun Q hQ => ?_) (fun _ _ e l => l.up e) ⟨h, m, p0, ok, hr0, rfl, rfl⟩ (fun _ z => z) fun H6 e6 L6 s6 => ?_
        · obtain ⟨v0, g0, t0⟩ := sw.at_ 0 _ rfl
          obtain ⟨v2, g2, t2⟩ := sw.at_ 2 _ rfl
          obtain ⟨v1, g1, t1⟩ := sw.at_ 1 _ rfl
          refine ⟨v0, g0, v2, g2, v1, g1, a_pop sw Lw' rfl fun vs H1 e1 r1 L1 => ?_⟩
          exact hQ _ H1 e1 ⟨v0, _, rfl, (tyD K (histD h)).mono e1.toImm t0, v2, _, rfl, (tyL K (opsD h.ops)).mono e1.toImm t2, v1, _, rfl, (tyS K (modS m)).mono e1.toImm t1, r1⟩ L1
        · have N6 := N.upS e6 hpd.symm
          let Mi : Nat → Hp → Prop := fun i H7 => Imm H6 H7 ∧ ∃ L2 W2, TJ h m L2 W2 ∧ Ext H H7 ∧ NAt P w K d (L2.map posD) H7 ∧ Lst K p (W2.map posD) H7 ∧ (∀ q' ∈ L2, q' ∈ W2 ∨ q' = p0 ∨ Clo h m L2 q') ∧ (∀ j n t, j < i → (mv (h.sys m) p0)[j]? = some (n, t) → t ∈ L2) ∧ 2 * (1000000 - L2.length) + W2.length < 2 * (1000000 - L.length) + (W' ++ [p0]).length
          refine ⟨fun _ => Γw, Mi, s6, ⟨Imm.refl _, L, W', ⟨J.nd, J.re, J.fi, fun q hq => J.sub q (by simp [hq]), by have := J.len; simp at this; omega⟩, Ext.only e0 (by assumption) e6, N6, L6, fun q' hq' => ?_, fun j n t hj => by omega, by simp⟩, fun i H' mm => mm.1, fun i σ7 H7 hi s7 m7 x rx => ?_, fun σ7 H7 s7 m7 => ?_⟩
          · rcases hcl q' hq' with z | z
            · rw [List.mem_append, List.mem_singleton] at z
              rcases z with z | z
              · exact .inl z
              · exact .inr (.inl z)
            · exact .inr (.inr z)
          · obtain ⟨i7, L2, W2, J2, e07, N7, L7, hc7, hm7, hlt⟩ := m7
            rw [List.length_map] at hi
            obtain ⟨⟨n, t⟩, hnt⟩ : ∃ z, (mv (h.sys m) p0)[i]? = some z := get_lt hi
            have hrt : Reach (h.sys m) t := Reach.step _ hr0 (List.mem_of_getElem? hnt)
            rw [movD_getD hnt] at rx
            have few2 := reach_few (Y := h.sys m) nine J2.nd J2.re
            refine gt_tup2 (vs := [6, 7]) (gt_name (by simp)) (gt_name (by simp)) x σ7 H7 s7 rx _ fun σ8 s8 _ => ?_
            have s8 : Sty ⟨tabs, [some (tyD K (histD h)), some (tyS K (modS m)), some (tyL K (opsD h.ops)), some (tyD K (posD (OSx.first (h.sys m)))), some (tyR d), some (tyR p), some (tyI K (n : Int)), some (tyD K (posD t))]⟩ σ8 H7 := s8
            refine m_if (b := !decide (posD t ∈ L2.map posD)) s8 (lt_test (l_inN (neg := true) N7 (l_var s8 rfl) (l_var s8 rfl) (posD_tup t) (posD_8 t))) (fun hb H9 e9 s9 => ?_) (fun hb H9 e9 s9 => ?_)
            · rw [Bool.not_eq_true', decide_eq_false_iff_not, mem_posD] at hb
              have J3 : TJ h m (L2 ++ [t]) (W2 ++ [t]) := ⟨by rw [List.nodup_append]; exact ⟨J2.nd, by simp, fun a ha b hbb => by simp at hbb; subst hbb; exact fun e => hb (e ▸ ha)⟩, fun q hq => by
                rcases List.mem_append.mp hq with z | z
                · exact J2.re q z
                · rw [List.mem_singleton] at z; rw [z]; exact hrt, by simp [J2.fi], fun q hq => by
                rcases List.mem_append.mp hq with z | z
                · simp [J2.sub q z]
                · simp at z; simp [z], by have := J2.len; simp; omega⟩
              have few3 := reach_few (Y := h.sys m) nine J3.nd J3.re
              have hW2 : W2.length < 2000000 := by have := J2.len; omega
              have L9 := L7.up e9
              have N9 := N7.up e9
              show tAsg _ _ _ σ8 H9
              refine m_setN s9 N9 (ev_var rfl) (ev_var rfl) (posD_tup t) (posD_8 t) (by simp; omega) fun H10 e10 s10 N10 => ?_
              refine m_app s10 (L9.upS e10 hpd) (ev_var rfl) ((ev_var rfl : Ev _ _ (tyD K (posD t))).loc s10) (by simp; omega) fun H11 e11 s11 L11 => ?_
              have hput : putKs (L2.map posD) (posD t) = (L2 ++ [t]).map posD := by
                unfold putKs
                rw [if_neg fun z => hb (mem_posD.mp z), List.map_append] <;> rfl
              rw [hput] at N10
              refine ⟨(s11.lose (i := 6)).lose (i := 7), ((i7.trans e9.toImm).trans e10.toImm).trans e11.toImm, L2 ++ [t], W2 ++ [t], J3, ?_, N10.upS e11 hpd.symm, by rw [List.map_append]; exact L11, fun q' hq' => ?_, fun j n' t' hj ht' => ?_, ?_⟩
              · exact Ext.only (Ext.only (e07.trans e9) hd0 e10) (by assumption) e11
              · rcases List.mem_append.mp hq' with z | z
                · rcases hc7 q' z with y | y | y
                  · exact .inl (by simp [y])
                  · exact .inr (.inl y)
                  · exact .inr (.inr fun i t hh => by simp [y i t hh])
                · exact .inl (by simp at z; simp [z])
              · by_cases ej : j = i
                · subst ej
                  rw [hnt] at ht'
                  cases ht'
                  simp
                · have := hm7 j n' t' (by omega) ht'
                  simp [this]
              · simp at few3 hlt ⊢
                omega
            · rw [Bool.not_eq_false', decide_eq_true_eq, mem_posD] at hb
              refine ⟨(s9.lose (i := 6)).lose (i := 7), i7.trans e9.toImm, L2, W2, J2, e07.trans e9, N7.up e9, L7.up e9, hc7, fun j n' t' hj ht' => ?_, hlt⟩
              by_cases ej : j = i
              · subst ej
                rw [hnt] at ht'
                cases ht'
                exact hb
              · exact hm7 j n' t' (by omega) ht'
          · obtain ⟨i7, L2, W2, J2, e07, N7, L7, hc7, hm7, hlt⟩ := m7
            refine ⟨_, hlt, L2, W2, J2, rfl, s7, e07, N7, L7, fun q' hq' => ?_⟩
            rcases hc7 q' hq' with y | y | y
            · exact .inl y
            · refine .inr fun i t hit => ?_
              subst y
              obtain ⟨j, hj⟩ := List.getElem?_of_mem hit
              refine hm7 j i t ?_ hj
              rw [List.length_map]
              exact (List.getElem?_eq_some_iff.mp hj).1
            · exact .inr y
end OS

end

section
set_option maxHeartbeats 4000000
namespace OS
open PySem PySem.Spec PyProof.Rows L2 GxR OSx

/-! ### order_from -/
theorem ExtS.to {S : Addr → Prop} {H H' : Hp} (e : ExtS NoS H H') : ExtS S H H' := Ext.to e
def HopeAt (P : Program) (w : World) (K : PySem.W.Frag) (h : Hist) (m : Bool) (d : Addr) (H : Hp) : Prop := ∃ L : List (Pos (List St1)), NAt P w K d (L.map posD) H ∧ L.Nodup ∧ ∀ q ∈ L, Reach (h.sys m) q ∧ Dead (h.sys m) q
theorem HopeAt.up {P : Program} {w : World} {K : PySem.W.Frag} {h : Hist} {m : Bool} {d : Addr} {H H' : Hp} (a : HopeAt P w K h m d H) (e : Ext H H') : HopeAt P w K h m d H' := let ⟨L, n, r⟩ := a; ⟨L, n.up e, r⟩
theorem q_setSp {K : PySem.W.Frag} {Γ : Gam} {sp : Sp} {tr : TA} {i : Nat} {Ts : List Ty} {σ : L2.St} {H : Hp} {Dd : Ends} {tz : TS} (h : EvA tr Γ Ts) (s : Sty Γ σ H) (k : ∀ vs H1, Ext H H1 → Alls Ts vs H1 → sp vs H1 (fun v H2 => tz Dd (σ.set i (some v)) H2) E0) : tSeq (tAsg (tCall sp [] E0 tr) (gName i)) tz Dd σ H :=
  h σ H s _ fun vs H1 e r => by rw [List.append_nil]; exact k vs H1 e r
/-- what order_from answers -/
def OrdR (h : Hist) (m : Bool) (q : Pos (List St1)) (r : D) : Prop :=
  (r = .none ∧ Dead (h.sys m) q) ∨ ∃ row q', r = .tup (nums (nats row)) ∧ OSx.Path (h.sys m) q row q' ∧ whole (h.sys m) q'.1 = true ∧ row.length + q.1.length ≤ h.ops.length
def OrdTs (K : PySem.W.Frag) (h : Hist) (m : Bool) (q : Pos (List St1)) (d : Addr) : List Ty := [tyD K (histD h), tyL K (opsD h.ops), tyS K (modS m), tyD K (posD q), tyR d]
def SpO (P : Program) (w : World) (K : PySem.W.Frag) (tabs : List Addr) : Nat → Sp
  | 0 => fun _ _ _ _ => False
  | n + 1 => fun vs H Q _ => ∃ (h : Hist) (m : Bool) (q : Pos (List St1)) (d : Addr), h.Ok ∧ Reach (h.sys m) q ∧ h.ops.length ≤ q.1.length + n ∧ Alls (OrdTs K h m q d) vs H ∧ HopeAt P w K h m d H ∧ (∀ T ∈ tabs, TabG H T) ∧
      ∀ v H' r, ExtS (· = d) H H' → HopeAt P w K h m d H' → OrdR h m q r → Td K H' r v → Q v H'
theorem mv_len1 {h : Hist} {m : Bool} {q t : Pos (List St1)} {i : Nat} (hm : (i, t) ∈ mv (h.sys m) q) : t.1.length = q.1.length + 1 := by
  obtain ⟨_, _, _, rfl⟩ := (mem_mv _).mp hm
  exact ins_len _ _
theorem path_nil_of (h : Hist) (m : Bool) (q : Pos (List St1)) : OSx.Path (h.sys m) q [] q := .nil q
theorem sc_order_from : FnScope ["some_history", "listed", "model", "position", "hopeless", "number", "later", "rest"] ["some_history", "listed", "model", "position", "hopeless"] (defScope (top 26)) := C8.fnScope_by (by decide +kernel)
theorem cal_order_step {P : Program} {w : World} {K : PySem.W.Frag} {mg : Str → Option Value} {base : Heap} {f : Addr} {fd : FuncData} {cdv : Value} (F : FunC K mg "order_from" (top 26) f fd cdv) (M : Nm mg) {tabs : List Addr} {n : Nat} (c_is_whole : Cal P w K mg base 6 "is_whole" (Pm tabs (PWhole K))) (c_moves : Cal P w K mg base 7 "moves" (Pm tabs (PMoves K))) (c_order_from : Cal P w K mg base (8 + n) "order_from" (SpO P w K tabs n)) : Cal P w K mg base (8 + n + 1) "order_from" (SpO P w K tabs (n + 1)) := by
  have b := F.binds (ps := ["some_history", "listed", "model", "position", "hopeless"]) fun _ _ _ _ _ _ us hl => match us, hl with | [_, _, _, _, _], _ => rfl
  have kds := F.kds
  have S := sc_order_from
  refine ⟨f, fd, ["some_history", "listed", "model", "position", "hopeless"], fnok1 F sc_order_from (fun vs H Q E h => ?hlen) (fun A outer s H E hr => have hu := hr.units; have hu1 := hu_of hr;
      (pss_cons (ps_if (pt_val (pe_c c_is_whole hr (by first | decide | omega) (by rfl) (pa_cons (pv 1) (pa_cons (pv 3) pa_nil))))
        (pss_one (ps_ret (pe_tup pa_nil)))
        pss_nil)
      (pss_cons (ps_if (pt_cmpR (k_op_inN P w K hu) (pv 3) (pv 4) (by rfl))
        (pss_one (ps_ret pe_non))
        pss_nil)
      (pss_cons (ps_for PassesOwn.never rfl (k_pi_list K (pe_c c_moves hr (by first | decide | omega) (by rfl) (pa_cons (pv 0) (pa_cons (pv 1) (pa_cons (pv 2) (pa_cons (pv 3) pa_nil)))))) (k_pg_tup K (n := 2) rfl (pgs_cons (pg_name (i := 5) S.nd rfl (by first | exact .inl rfl | exact .inr rfl)) (pgs_cons (pg_name (i := 6) S.nd rfl (by first | exact .inl rfl | exact .inr rfl)) pgs_nil)))
        (pss_cons (ps_set (i := 7) S.nd rfl (by first | exact .inl rfl | exact .inr rfl) (pe_c c_order_from hr (by first | decide | omega) (by rfl) (pa_cons (pv 0) (pa_cons (pv 1) (pa_cons (pv 2) (pa_cons (pv 6) (pa_cons (pv 4) pa_nil)))))))
        (pss_one (ps_if (pt_cmp (pc_notN (pv 7)))
          (pss_one (ps_ret (pe_op (k_op_catA K) (pe_tup (pa_cons (pv 5) pa_nil)) (pv 7))))
          pss_nil))))
      (pss_cons (ps_asg pe_bl (pg_sub (pv 4) (pv 3) (k_set_N P w K hu)))
      (pss_one (ps_ret pe_non))))))) (fun vs H Q E h => ?hbd), F.mgf, F.kp, b⟩
  case hlen =>
    obtain ⟨h, m, q, d, _, _, _, al, _⟩ := h
    exact alls_len al
  case hbd =>
    obtain ⟨h, m, q, d, ok, hr, hlen, al, hope, ht, hk⟩ := h
    have nine : h.ops.length ≤ 9 := ok.nine
    obtain ⟨_, _, hql⟩ := reach_sorted _ hr
    have hql : q.1.length ≤ h.ops.length := hql
    have s : Sty ⟨tabs, (OrdTs K h m q d).map some ++ List.replicate 3 none⟩ (L2.start ["some_history", "listed", "model", "position", "hopeless", "number", "later", "rest"] vs) H := by
      have := start_sty ht 3 al
      unfold L2.start
      rw [alls_len al]
      exact this
    refine q_when s (et_B (ev_call (tb := tabs) (F := PWhole K) (ea_cons (ev_var rfl) (ea_cons (ev_var rfl) ea_nil)) ⟨h, m, q, ok, rfl, rfl⟩ (fun _ z => z))) (fun hw H1 e1 s1 => ?_) (fun hw H1 e1 s1 => ?_)
    · refine s_ret (T := tyT K []) s1 (ev_tup (ds := []) ea_nil (by simp)) fun v H2 e2 r2 => ?_
      exact hk v H2 (.tup []) (e1.trans e2).to ((hope.up e1).up e2) (.inr ⟨[], q, rfl, path_nil_of h m q, hw, by simpa using hql⟩) r2
    · obtain ⟨L, N, hnd, hL⟩ := hope
      have few := reach_few (Y := h.sys m) nine hnd fun q hq => (hL q hq).1
      refine p_if (b := decide (posD q ∈ L.map posD)) s1 (lt_test (l_inN (neg := false) (N.up e1) (l_var s1 rfl) (l_var s1 rfl) (posD_tup q) (posD_8 q))) (fun hb H2 e2 s2 => ?_) (fun hb H2 e2 s2 => ?_)
      · rw [decide_eq_true_eq, mem_posD] at hb
        refine s_ret s2 (ev_n (K := K)) fun v H3 e3 r3 => ?_
        exact hk v H3 .none ((e1.trans e2).trans e3).to ⟨L, ((N.up e1).up e2).up e3, hnd, hL⟩ (.inl ⟨rfl, (hL q hb).2⟩) r3
      · rw [decide_eq_false_iff_not, mem_posD] at hb
        show tSeq _ _ _ _ H2
        refine q_for s2 (iv_list (ev_call (tb := tabs) (F := PMoves K) (Ts := [tyD K (histD h), tyL K (opsD h.ops), tyS K (modS m), tyD K (posD q)]) (ea_cons (ev_var rfl) (ea_cons (ev_var rfl) (ea_cons (ev_var rfl) (ea_cons (ev_var rfl) ea_nil)))) ⟨h, m, q, ok, hr, rfl, rfl⟩ (fun _ z => z))) fun H3 e3 s3 => ?_
        have e03 : Ext H H3 := (e1.trans e2).trans e3
        let Γi : Nat → Gam := fun _ => ⟨tabs, [some (tyD K (histD h)), some (tyL K (opsD h.ops)), some (tyS K (modS m)), some (tyD K (posD q)), some (tyR d), none, none, none]⟩
        let Mi : Nat → Hp → Prop := fun i H' => Imm H3 H' ∧ ExtS (· = d) H H' ∧ HopeAt P w K h m d H' ∧ ∀ j k t, j < i → (mv (h.sys m) q)[j]? = some (k, t) → Dead (h.sys m) t
        refine ⟨Γi, Mi, s3, ⟨Imm.refl _, e03.to, ⟨L, N.up e03, hnd, hL⟩, fun j k t hj => by omega⟩, fun i H' mm => mm.1, fun i σ' H' hi si mi x H4 ex rx s' => ?_, fun σ' H' sn mn => ?_⟩
        · obtain ⟨m1, m2, m3, m4⟩ := mi
          rw [List.length_map] at hi
          obtain ⟨⟨j, t⟩, hjt⟩ : ∃ z, (mv (h.sys m) q)[i]? = some z := get_lt hi
          have hmem := List.mem_of_getElem? hjt
          have hrt := Reach.step _ hr hmem
          rw [movD_getD hjt] at rx
          refine gt_tup2 (vs := [5, 6]) (gt_name (by simp)) (gt_name (by simp)) x σ' H4 s' rx _ fun σ5 s5 _ => ?_
          have s5 : Sty ⟨tabs, [some (tyD K (histD h)), some (tyL K (opsD h.ops)), some (tyS K (modS m)), some (tyD K (posD q)), some (tyR d), some (tyI K (j : Int)), some (tyD K (posD t)), none]⟩ σ5 H4 := s5
          have htl := mv_len1 hmem
          obtain ⟨_, _, htn⟩ := reach_sorted _ hrt
          have htn : t.1.length ≤ h.ops.length := htn
          obtain ⟨n', rfl⟩ : ∃ n', n = n' + 1 := ⟨n - 1, by omega⟩
          -- rest = order_from(..)
          refine q_setSp (K := K) (Ts := OrdTs K h m t d) (ea_cons (ev_var (i := 0) rfl) (ea_cons (ev_var (i := 1) rfl) (ea_cons (ev_var (i := 2) rfl) (ea_cons (ev_var (i := 6) rfl) (ea_cons (ev_var (i := 4) rfl) ea_nil))))) s5 fun vs H5 e5 r5 => ?_
          refine ⟨h, m, t, d, ok, hrt, by omega, r5, (m3.up ex).up e5, fun T hT => e5.tab T (s5.tab T hT), fun v H6 r e6 hope6 hord hv => ?_⟩
          have s6 : Sty ⟨tabs, [some (tyD K (histD h)), some (tyL K (opsD h.ops)), some (tyS K (modS m)), some (tyD K (posD q)), some (tyR d), some (tyI K (j : Int)), some (tyD K (posD t)), some (tyD K r)]⟩ (σ5.set 7 (some v)) H6 := Sty.set (i := 7) ((s5.imm e5.toImm).imm e6.toImm) hv
          have e06 : ExtS (· = d) H H6 := ((m2.trans ex.to).trans e5.to).trans e6
          show tIfS _ _ _ _ (σ5.set 7 (some v)) H6
          refine s_when s6 (et_B (ev_notN (ev_var rfl))) (fun hrn H7 e7 s7 => ?_) (fun hrn H7 e7 s7 => ?_)
          · rcases hord with ⟨rfl, _⟩ | ⟨row, q', rfl, hp, hw', hrl⟩
            · simp at hrn
            · refine s_ret s7 (ev_D (ev_op (ev_tup (ds := [.num (j : Int)]) (ea_cons (ev_var rfl) ea_nil) (by simp)) (ev_var rfl) (rv_cat (ds := [.num (j : Int)]) (es := nums (nats row)) (by simp; omega))) (e := .tup (nums (nats (j :: row)))) rfl) fun v2 H8 e8 r8 => ?_
              refine hk v2 H8 _ ((e06.trans e7.to).trans e8.to) ((hope6.up e7).up e8) (.inr ⟨j :: row, q', rfl, .cons hmem hp, hw', ?_⟩) r8
              simp
              omega
          · have hdead : Dead (h.sys m) t := by
              rcases hord with ⟨_, hd⟩ | ⟨row, q', rfl, hp, hw', hrl⟩
              · exact hd
              · simp at hrn
            refine ⟨((s7.lose (i := 5)).lose (i := 6)).lose (i := 7), (((m1.trans ex.toImm).trans e5.toImm).trans e6.toImm).trans e7.toImm, e06.trans e7.to, hope6.up e7, fun j' k t' hj' ht' => ?_⟩
            by_cases ej : j' = i
            · subst ej
              rw [hjt] at ht'
              cases ht'
              exact hdead
            · exact m4 j' k t' (by omega) ht'
        · obtain ⟨m1, m2, ⟨L3, N3, hnd3, hL3⟩, m4⟩ := mn
          have hdead : Dead (h.sys m) q := dead_of _ hw fun i t hit => by
            obtain ⟨j, hj⟩ := List.getElem?_of_mem hit
            exact m4 j i t (by rw [List.length_map]; exact (List.getElem?_eq_some_iff.mp hj).1) hj
          have few3 := reach_few (Y := h.sys m) nine hnd3 fun q hq => (hL3 q hq).1
          show tAsg _ _ _ σ' H'
          refine m_setN sn N3 (ev_var rfl) (ev_var rfl) (posD_tup q) (posD_8 q) (by simp; omega) fun H7 e7 s7 N7 => ?_
          dsimp only
          refine s_ret s7 (ev_n (K := K)) fun v H8 e8 r8 => ?_
          refine hk v H8 .none ((m2.trans e7).trans e8.to) ?_ (.inl ⟨rfl, hdead⟩) r8
          have N8 := N7.up e8
          unfold putKs at N8
          by_cases hq : q ∈ L3
          · rw [if_pos (mem_posD.mpr hq)] at N8
            exact ⟨L3, N8, hnd3, hL3⟩
          · rw [if_neg fun z => hq (mem_posD.mp z)] at N8
            refine ⟨L3 ++ [q], by rw [List.map_append]; exact N8, ?_, fun q' hq' => ?_⟩
            · rw [List.nodup_append]
              exact ⟨hnd3, by simp, fun a ha b hbb => by simp at hbb; subst hbb; exact fun e => hq (e ▸ ha)⟩
            · rcases List.mem_append.mp hq' with z | z
              · exact hL3 q' z
              · rw [List.mem_singleton] at z
                rw [z]
                exact ⟨hr, hdead⟩

theorem cal_order {P : Program} {w : World} {K : PySem.W.Frag} {mg : Str → Option Value} {base : Heap} {f : Addr} {fd : FuncData} {cdv : Value} (F : FunC K mg "order_from" (top 26) f fd cdv) (M : Nm mg) {tabs : List Addr}
    (c1 : Cal P w K mg base 6 "is_whole" (Pm tabs (PWhole K))) (c2 : Cal P w K mg base 7 "moves" (Pm tabs (PMoves K))) : ∀ n : Nat, Cal P w K mg base (8 + n) "order_from" (SpO P w K tabs n)
  | 0 => by
    have b := F.binds (ps := ["some_history", "listed", "model", "position", "hopeless"]) fun _ _ _ _ _ _ us hl => match us, hl with | [_, _, _, _, _], _ => rfl
    exact ⟨f, fd, _, ⟨fun _ _ _ _ z => z.elim, fun _ _ _ _ _ _ _ _ _ _ _ _ _ z => z.elim⟩, F.mgf, F.kp, b⟩
  | n + 1 => cal_order_step F M c1 c2 (cal_order F M c1 c2 n)

/-! ### find, fits -/
def FindR (h : Hist) (m : Bool) (d : D) : Prop :=
  (∃ row, d = .tup [.text "order", .tup (nums (nats row))] ∧ IsOrder (h.sys m) row) ∨ ∃ ds, d = .tup [.text "table", .tup ds] ∧ IsTold h m ds ∧ ¬ Fits (h.sys m)
def PFind (K : PySem.W.Frag) : List Ty → Ty → Prop := fun Ts T => ∃ (h : Hist) (m : Bool), h.Ok ∧ Ts = [tyD K (histD h), tyS K (modS m)] ∧ T = tyE (FindR h m) (tyD K)
theorem sc_find : FnScope ["some_history", "model", "order"] ["some_history", "model"] (defScope (top 27)) := C8.fnScope_by (by decide +kernel)
theorem cal_find {P : Program} {w : World} {K : PySem.W.Frag} {mg : Str → Option Value} {base : Heap} {f : Addr} {fd : FuncData} {cdv : Value} (F : FunC K mg "find" (top 27) f fd cdv) (M : Nm mg) {tabs : List Addr}  (c_operations : Cal P w K mg base 4 "operations" (Pm [] (POps K))) (c_first_position : Cal P w K mg base 4 "first_position" (Pm [] (PFp K))) (c_told_table : Cal P w K mg base 8 "told_table" (Pm tabs (PTold K))) (c_order_from : Cal P w K mg base (8 + 10) "order_from" (SpO P w K tabs 10)) : Cal P w K mg base (18 + 1) "find" (Pm tabs (PFind K)) := by
  have b := F.binds (ps := ["some_history", "model"]) fun _ _ _ _ _ _ us hl => match us, hl with | [_, _], _ => rfl
  have kds := F.kds
  have S := sc_find
  refine cal1 F b sc_find (fun Ts T h => ?hlen) (fun A outer s H E hr => have hu := hr.units; have hu1 := hu_of hr;
      (pss_cons (ps_set (i := 2) S.nd rfl (by first | exact .inl rfl | exact .inr rfl) (pe_c c_order_from hr (by first | decide | omega) (by rfl) (pa_cons (pv 0) (pa_cons (pe_c c_operations hr (by first | decide | omega) (by rfl) (pa_cons (pv 0) pa_nil)) (pa_cons (pv 1) (pa_cons (pe_c c_first_position hr (by first | decide | omega) (by rfl) (pa_cons (pv 0) pa_nil)) (pa_cons (k_pe_dnewN P w) pa_nil)))))))
      (pss_cons (ps_if (pt_cmp (pc_isN (pv 2)))
        (pss_one (ps_ret (pe_tup (pa_cons pe_str (pa_cons (pe_c c_told_table hr (by first | decide | omega) (by rfl) (pa_cons (pv 0) (pa_cons (pv 1) pa_nil))) pa_nil)))))
        pss_nil)
      (pss_one (ps_ret (pe_tup (pa_cons pe_str (pa_cons (pv 2) pa_nil)))))))) (fun Ts T h => ?hbd)
  case hlen =>
    obtain ⟨h, m, _, rfl, rfl⟩ := h
    rfl
  case hbd =>
    obtain ⟨h, m, ok, rfl, rfl⟩ := h
    intro σ H s D q
    have nine : h.ops.length ≤ 9 := ok.nine
    obtain ⟨v0, g0, t0⟩ := s.at_ 0 _ rfl
    obtain ⟨v1, g1, t1⟩ := s.at_ 1 _ rfl
    refine ⟨v0, g0, (ev_call (tb := []) (F := POps K) (ea_cons (ev_var rfl) ea_nil) ⟨h, ok, rfl, rfl⟩ (by simp)) σ H s _ fun vo H1 e1 r1 => ⟨v1, g1, (ev_call (tb := []) (F := PFp K) (ea_cons (ev_var rfl) ea_nil) ⟨h, m, ok, rfl, rfl⟩ (by simp)) σ H1 (s.imm e1.toImm) _ fun vp H2 e2 r2 => fun d hd => ?_⟩⟩
    have e3 : Ext H2 (upd H2 d (DN P w d [])) := Ext.new hd
    have hd0 : H d = none := (e1.trans e2).dom d hd
    have e03 := (e1.trans e2).trans e3
    refine ⟨h, m, OSx.first (h.sys m), d, ok, Reach.first _, (by show h.ops.length ≤ 0 + 9; omega), ?_, ⟨[], ⟨[], ⟨upd_same, fun _ z => by cases z⟩, rfl⟩, .nil, fun _ z => by cases z⟩, fun T hT => e03.tab T (s.tab T hT), fun v H4 r e4 hope hord hv => ?_⟩
    · rw [List.append_nil]
      exact ⟨v0, _, rfl, (tyD K (histD h)).mono e03.toImm t0, vo, _, rfl, (tyL K (opsD h.ops)).mono (e2.trans e3).toImm r1, v1, _, rfl, (tyS K (modS m)).mono e03.toImm t1, vp, _, rfl, (tyD K (posD (OSx.first (h.sys m)))).mono e3.toImm r2, _, _, rfl, rfl, rfl⟩
    · have e04 : Ext H H4 := Ext.only e03 hd0 e4
      have s4 : Sty ⟨tabs, [some (tyD K (histD h)), some (tyS K (modS m)), some (tyD K r)]⟩ (σ.set 2 (some v)) H4 := Sty.set (i := 2) (s.imm e04.toImm) hv
      show tSeq _ _ D (σ.set 2 (some v)) H4
      refine q_when s4 (et_B (ev_isN (ev_var rfl))) (fun hn H5 e5 s5 => ?_) (fun hn H5 e5 s5 => ?_)
      · rcases hord with ⟨rfl, hdead⟩ | ⟨row, q', rfl, hp, hw', hrl⟩
        · have hb : Ev _ _ (tyE (IsTold h m) (tyT K)) := ev_call (Γ := ⟨tabs, [some (tyD K (histD h)), some (tyS K (modS m)), some (tyD K .none)]⟩) (E := E0) (tb := tabs) (F := PTold K) (ea_cons (ev_var (i := 0) rfl) (ea_cons (ev_var (i := 1) rfl) ea_nil)) ⟨h, m, ok, rfl, rfl⟩ (fun _ z => z)
          refine hb _ H5 s5 _ fun vt H6 e6 ⟨ds, htold, rt⟩ => ?_
          refine ⟨by rw [sizeLine_eq]; simp, fun a ha => q _ _ (((e04.trans e5).trans e6).trans (Ext.new ha)) ⟨_, .inr ⟨ds, rfl, htold, not_fits _ hdead⟩, a, _, rfl, .inl (.inl upd_same), _, _, rfl, rfl, _, _, rfl, (tyT K ds).mono (Ext.new ha).toImm rt, rfl⟩⟩
        · simp at hn
      · rcases hord with ⟨rfl, hdead⟩ | ⟨row, q', rfl, hp, hw', hrl⟩
        · simp at hn
        · exact s_ret s5 (ev_two ev_s (ev_var rfl)) fun v2 H6 e6 r6 => q v2 H6 ((e04.trans e5).trans e6) ⟨_, .inl ⟨row, rfl, order_of_path _ hp hw'⟩, r6⟩
def PFits (K : PySem.W.Frag) : List Ty → Ty → Prop := fun Ts T => ∃ (h : Hist) (m : Bool), h.Ok ∧ Ts = [tyD K (histD h), tyS K (modS m)] ∧ T = tyE (fun b : Bool => b = true ↔ Fits (h.sys m)) tyB
theorem sc_fits : FnScope ["some_history", "model"] ["some_history", "model"] (defScope (top 28)) := C8.fnScope_by (by decide +kernel)
theorem cal_fits {P : Program} {w : World} {K : PySem.W.Frag} {mg : Str → Option Value} {base : Heap} {f : Addr} {fd : FuncData} {cdv : Value} (F : FunC K mg "fits" (top 28) f fd cdv) (M : Nm mg) {tabs : List Addr}  (c_find : Cal P w K mg base 19 "find" (Pm tabs (PFind K))) : Cal P w K mg base (19 + 1) "fits" (Pm tabs (PFits K)) := by
  have b := F.binds (ps := ["some_history", "model"]) fun _ _ _ _ _ _ us hl => match us, hl with | [_, _], _ => rfl
  have kds := F.kds
  have S := sc_fits
  refine cal1 F b sc_fits (fun Ts T h => ?hlen) (fun A outer s H E hr => have hu := hr.units; have hu1 := hu_of hr;
      (pss_one (ps_ret (pe_cmpR (k_op_eqD K hu) (pe_ix (k_ix_tup K) (pe_c c_find hr (by first | decide | omega) (by rfl) (pa_cons (pv 0) (pa_cons (pv 1) pa_nil))) pe_int (fun _ _ => rfl)) pe_str (nomark _))))) (fun Ts T h => ?hbd)
  case hlen =>
    obtain ⟨h, m, _, rfl, rfl⟩ := h
    rfl
  case hbd =>
    obtain ⟨h, m, ok, rfl, rfl⟩ := h
    intro σ H s D q
    have hb : Ev _ _ (tyE (FindR h m) (tyD K)) := ev_call (Γ := ⟨tabs, [some (tyD K (histD h)), some (tyS K (modS m))]⟩) (E := E0) (tb := tabs) (F := PFind K) (ea_cons (ev_var (i := 0) rfl) (ea_cons (ev_var (i := 1) rfl) ea_nil)) ⟨h, m, ok, rfl, rfl⟩ (fun _ z => z)
    refine s_ret (T := tyE (fun b : Bool => b = true ↔ Fits (h.sys m)) tyB) s (ev_op (T := tyE (fun x : Str => PyData.strOk x = true ∧ (x = "order" ↔ Fits (h.sys m))) (tyS K)) (U := tyS K "order") (ev_op hb (ev_i (K := K)) fun x y H1 r1 r2 Q qq => ?_) ev_s fun x y H1 r1 r2 Q qq => ?_) q
    · obtain ⟨d, hd, r1⟩ := r1
      rcases hd with ⟨row, rfl, ho⟩ | ⟨ds, rfl, _, hnf⟩
      · exact rv_ixT (K := K) (d := .text "order") (k := 0) rfl x y H1 r1 r2 Q fun v H2 e2 r3 => qq v H2 e2 ⟨"order", ⟨by decide +kernel, fun _ => fits_of_order _ ho, fun _ => rfl⟩, r3⟩
      · exact rv_ixT (K := K) (d := .text "table") (k := 0) rfl x y H1 r1 r2 Q fun v H2 e2 r3 => qq v H2 e2 ⟨"table", ⟨by decide +kernel, fun z => absurd z (by decide +kernel), fun z => absurd z hnf⟩, r3⟩
    · obtain ⟨z, ⟨hz, hz2⟩, r1⟩ := r1
      refine rv_eq (K := K) (shaped_D (Sh8.text hz).ok (Sh8.text hz).dp) (shaped_D (Sh8.text (x := "order") (by decide +kernel)).ok (Sh8.text (x := "order") (by decide +kernel)).dp) x y H1 r1 r2 Q fun v H2 e2 r3 => qq v H2 e2 ⟨_, ?_, r3⟩
      show decide (NestedKey.text z = NestedKey.text "order") = true ↔ _
      rw [decide_eq_true_eq, NestedKey.text.injEq]
      exact hz2
end OS

end

section
set_option maxHeartbeats 4000000
namespace OS
open PySem PySem.Spec PyProof.Rows L2 GxR OSx

section
variable {P : Program} {w : World} {K : PySem.W.Frag} {Γ Γ' : Gam} {T U : Ty} {ta tb te tk : TE} {t u : TT} {d e : D} {ds es : List D} {b c : Bool} {vs : List Nat} {g : TG} {σ : L2.St} {H H0 : Hp} {Dd : Ends} {tz : TS}
theorem shaped_list (h : Sh8 (.tup ds)) : SeqAt.shaped (PyData.list (NestedKey.datas ds)) = true := by
  unfold SeqAt.shaped
  have h1 := h.ok
  have h2 := h.dp
  have h3 := depths_ok ds
  have e1 : PyData.canLay0 (PyData.list (NestedKey.datas ds)) = okDs ds := by simp only [PyData.canLay0]; exact canLays_ok ds
  have e2 : PyData.depth (PyData.list (NestedKey.datas ds)) = PyData.depthAll (NestedKey.datas ds) + 1 := by simp only [PyData.depth]
  rw [e1, e2]
  have h1 : okDs ds = true := h1
  have h2 : NestedKey.depthAll ds + 1 ≤ 8 := h2
  rw [h1, Bool.true_and, decide_eq_true_eq]
  omega
/-- two new lists with the same data -/
theorem ev_eqNew (ha : EvN K ta Γ ds) (hb : EvN K tb Γ ds) (h : Sh8 (.tup ds)) : Ev (tOp (rEqD K) ta tb) Γ (tyB true) := fun σ H s Q q =>
  ha σ H s _ fun p xs H1 _ e1 l1 r1 => hb σ H1 (s.imm e1.toImm) _ fun p2 ys H2 _ e2 l2 r2 => by
    have l1' := e2.keep p _ (fun z => z) l1 (fun _ z => by cases z)
    refine ⟨_, _, .lst (.inl (.inl l1')) ((r1.imm e2.toImm _ _).dps _ _), .lst (.inl (.inl l2)) (r2.dps _ _), shaped_list h, shaped_list h, ?_⟩
    have : PyData.eqv (PyData.list (NestedKey.datas ds)) (PyData.list (NestedKey.datas ds)) = true := by
      have h1 := eqv_dec (.tup ds) (.tup ds)
      simp only [NestedKey.data, PyData.eqv, decide_true] at h1
      simp only [PyData.eqv]
      exact h1
    rw [this]
    exact q _ H2 (e1.trans e2) rfl
/-- {k: True for ..} -/
theorem p_dcN {wi : TI} {n : Nat} {Y : Nat → Ty} {Γ1 : Nat → Gam} {i0 : Nat} (v : Nat → D) (s : Sty Γ σ H) (h : Iv wi Γ n Y) (hn : n ≤ 1000000) (hg : ∀ i, i < n → Gt g vs (wipeG Γ vs) (Y i) (Γ1 i)) (hk : ∀ i, i < n → Ev tk (Γ1 i) (tyD K (v i))) (hv : ∀ i, i < n → (∃ kk, v i = .tup kk) ∧ (v i).depth ≤ 8)
    (k : ∀ p σ' H' ks, Ext H H' → NAt P w K p ks H' → (∀ d, d ∈ ks ↔ ∃ i, i < n ∧ d = v i) → Sty (Γ.set i0 (some (tyR p))) σ' H' → tz Dd σ' H') : tSeq (tAsg (tDcN P w K wi g tYes tk (tC (.bl true)) vs) (gName i0)) tz Dd σ H := h σ H s _ fun J H1 G e g1 gs wk D hD => by
  have s1 : Sty (wipeG Γ vs) (L2.wipe σ vs) H1 := (s.imm e.toImm).wipe vs
  have eD : Ext H1 (upd H1 D (DN P w D [])) := Ext.new hD
  let Pv : Nat → Hp → Prop := fun i H' => Ext H1 H' ∧ ∃ ks, NAt P w K D ks H' ∧ ks.length ≤ i ∧ ∀ d, d ∈ ks ↔ ∃ j, j < i ∧ d = v j
  refine ⟨fun i m H' => m = n - i ∧ i ≤ n ∧ Pv i H', ⟨n, by simp, Nat.zero_le _, eD, [], ⟨[], ⟨upd_same, fun _ z => by cases z⟩, rfl⟩, Nat.le_refl _, fun d => ⟨fun z => by simp at z, fun ⟨j, hj, _⟩ => by omega⟩⟩, ?_⟩
  rintro i m H' ⟨rfl, hi, e3, ks, N, hl, hks⟩
  have gg : G H' := gs _ _ e3.toImm g1
  by_cases hlt : i < n
  · refine .inr ⟨wk.goes i H' hlt gg, Pv (i + 1), fun H'' p => ⟨n - (i + 1), by omega, rfl, hlt, p⟩, fun x H4 y => ?_⟩
    obtain ⟨e4, rx⟩ := wk.yields i H' x H4 hlt gg y
    refine hg i hlt x _ H4 (s1.imm (e3.trans e4).toImm) rx _ fun σ2 s2 w2 => ⟨w2.trans wipe_wipe, ?_⟩
    show tk σ2 H4 _
    refine hk i hlt σ2 H4 s2 _ fun y H5 e5 r5 => ?_
    obtain ⟨⟨kk, hkk⟩, h8⟩ := hv i hlt
    obtain ⟨xs, n1, n2⟩ := (N.up e4).up e5
    rw [hkk] at r5
    obtain ⟨b, ws, rfl, hb⟩ := r5
    have hkb : Td K H5 (.tup kk) (.ref b) := ⟨b, ws, rfl, hb⟩
    have hxl : xs.length = ks.length := by rw [← n2]; simp
    have mm := mut1 (o := DN P w D (putN xs (.tup kk) b)) n1.at_ trivial
    refine ⟨xs, .tup kk, b, rfl, rfl, ⟨n1, hkb, hkk ▸ h8⟩, by rw [sizeLine_eq]; omega, Ext.only ((e3.trans e4).trans e5) hD mm, putKs ks (.tup kk), ⟨_, ⟨upd_same, fun x hx => ?_⟩, by rw [putN_keys, n2]⟩, ?_, fun d => ?_⟩
    · rcases mem_putN hx with h | rfl
      · exact ⟨(n1.keys x h).1.imm mm.toImm _ _, (n1.keys x h).2⟩
      · exact ⟨hkb.imm mm.toImm _ _, hkk ▸ h8⟩
    · unfold putKs
      split
      · omega
      · rw [List.length_append]; simp; omega
    · rw [mem_putKs, hks, ← hkk]
      constructor
      · rintro (⟨j, hj, rfl⟩ | rfl)
        · exact ⟨j, by omega, rfl⟩
        · exact ⟨i, by omega, rfl⟩
      · rintro ⟨j, hj, rfl⟩
        by_cases ej : j = i
        · subst ej; exact .inr rfl
        · exact .inl ⟨j, by omega, rfl⟩
  · have hin : i = n := by omega
    subst hin
    exact .inl ⟨wk.stops H' gg, k D _ H' ks (e.trans e3) N hks ((s.imm (e.trans e3).toImm).set rfl)⟩
/-- all(..), what is asked of each told from the heap on -/
theorem l_all {Pt : Addr} {wi : TI} {n : Nat} {Y : Nat → Ty} {Γ1 : Nat → Gam} (s : Sty Γ σ H) (hP : Pt ∈ Γ.tb) (h : Iv wi Γ n Y) (hg : ∀ i, i < n → Gt g vs (wipeG Γ vs) (Y i) (Γ1 i))
    (he : ∀ i, i < n → ∀ σ2 H2, Ext H H2 → Sty (Γ1 i) σ2 H2 → EvL te σ2 H2 (tyB true)) : EvL (GA.tAllG Pt wi g tYes te vs) σ H (tyB true) := fun H0 e0 Q q => h σ H0 (s.imm e0.toImm) _ fun J H1 G e g1 gs wk => by
  refine ⟨(e0.trans e).tab Pt (s.tab Pt hP), fun H2 tb => ?_⟩
  have e2 : Ext H1 H2 := ExtS.of_tabbed ((e0.trans e).tab Pt (s.tab Pt hP)) tb
  have s1 : Sty (wipeG Γ vs) (L2.wipe σ vs) H2 := (s.imm ((e0.trans e).trans e2).toImm).wipe vs
  refine ⟨fun i m H' => m = n - i ∧ i ≤ n ∧ Ext H2 H', ⟨n, by simp, Nat.zero_le _, ExtS.refl _⟩, ?_⟩
  rintro i m H' ⟨rfl, hi, e3⟩
  have gg : G H' := gs _ _ (e2.trans e3).toImm g1
  by_cases hlt : i < n
  · refine .inr ⟨wk.goes i H' hlt gg, fun H'' => Ext H2 H'', fun H'' p => ⟨n - (i + 1), by omega, rfl, hlt, p⟩, fun x H4 y => ?_⟩
    obtain ⟨e4, rx⟩ := wk.yields i H' x H4 hlt gg y
    refine hg i hlt x _ H4 (s1.imm (e3.trans e4).toImm) rx _ fun σ2 s2 w2 => ⟨w2.trans wipe_wipe, ?_⟩
    show te σ2 H4 _
    refine he i hlt σ2 H4 ((((e0.trans e).trans e2).trans e3).trans e4) s2 H4 (ExtS.refl _) _ fun y H6 e6 r6 => ⟨true, r6, ?_⟩
    show Ext H2 H6
    exact (e3.trans e4).trans e6
  · have hin : i = n := by omega
    subst hin
    exact .inl ⟨wk.stops H' gg, q _ H' ((e.trans e2).trans e3) rfl⟩
end
def PIsPos (K : PySem.W.Frag) : List Ty → Ty → Prop := fun Ts T => ∃ (h : Hist) (m : Bool) (q : Pos (List St1)), h.Ok ∧ Reach (h.sys m) q ∧ Ts = [tyD K (histD h), tyL K (opsD h.ops), tyS K (modS m), tyD K (posD q)] ∧ T = tyB true
theorem sc_is_position : FnScope ["some_history", "listed", "model", "position", "placed", "number"] ["some_history", "listed", "model", "position"] (defScope (top 29)) := C8.fnScope_by (by decide +kernel)
theorem cal_is_position {P : Program} {w : World} {K : PySem.W.Frag} {mg : Str → Option Value} {base : Heap} {f : Addr} {fd : FuncData} {cc : Addr} (F : FunC K mg "is_position" (top 29) f fd (.ref cc)) (M : Nm mg) {Tb : Addr} {tabs : List Addr} (TB : TabB base mg cc Tb) (hT : Tb ∈ tabs)   : Cal P w K mg base (5 + 1) "is_position" (Pm tabs (PIsPos K)) := by
  have b := F.binds (ps := ["some_history", "listed", "model", "position"]) fun _ _ _ _ _ _ us hl => match us, hl with | [_, _, _, _], _ => rfl
  have kds := F.kds
  have S := sc_is_position
  refine cal1 F b sc_is_position (fun Ts T h => ?hlen) (fun A outer s H E hr => have hu := hr.units; have hu1 := hu_of hr;
      (pss_cons (ps_set (i := 4) S.nd rfl (by first | exact .inl rfl | exact .inr rfl) (pe_ix (k_ix_tup K) (pv 3) pe_int (fun _ _ => rfl)))
      (pss_one (ps_ret (pe_and (pe_cmpR (k_op_eqD K hu) (pe_callTy (k_cr_listS K) (by rfl) M.n_list boot_list (pa_cons (pv 4) pa_nil)) (pe_callB (k_cr_sortedSet w rfl) (by rfl) M.n_sorted boot_sorted (pa_cons (pe_callTy (k_cr_setTI K w rfl) (by rfl) M.n_set boot_set (pa_cons (pv 4) pa_nil)) pa_nil)) (nomark _)) (pe_one (GA.pe_allG (own := [("number", 5)]) (k := 4) (hr.mono (by decide)) rfl S.nd (by rfl) M.n_all boot_all TB rfl (k_pi_tup K (pv 4)) (blkOk_by (N := ["some_history", "listed", "model", "position", "placed", "number"]) (sc := defScope (top 29)) (by decide +kernel)) (by decide +kernel) (by rfl) (by rfl) (fun A' s H C cl code fp hr => have hu := hr.units; (pg_name (i := 5) S.nd rfl (by first | exact .inl rfl | exact .inr rfl))) (fun A' s H C cl code fp hr => have hu := hr.units; pts_nil) (fun A' s H C cl code fp hr => have hu := hr.units; (pe_chain op_le op_lt pe_int (pv 5) (pe_callB (k_cr_lenS K) (by rfl) M.n_len boot_len (pa_cons (pv 1) pa_nil)))) (by intro _; rfl)))))))) (fun Ts T h => ?hbd)
  case hlen =>
    obtain ⟨h, m, q, _, _, rfl, rfl⟩ := h
    rfl
  case hbd =>
    obtain ⟨h, m, p, ok, hr, rfl, rfl⟩ := h
    intro σ H s D q
    have nine : h.ops.length ≤ 9 := ok.nine
    obtain ⟨hso, hb, hln⟩ := reach_sorted _ hr
    have hln : p.1.length ≤ h.ops.length := hln
    have hsn : (nats p.1).Pairwise (· < ·) := List.Pairwise.map _ (fun a b hab => by omega) hso
    have hdep : Sh8 (.tup (nums (nats p.1))) := ⟨okD_nums _, by show NestedKey.depthAll (nums (nats p.1)) + 1 ≤ 8; rw [depth_nums]; omega⟩
    refine q_set s (ev_ix (d := .tup (nums (nats p.1))) (ev_var rfl) rfl) fun σ1 H1 e1 s1 => ?_
    refine r_end e1 s1 (ev_B (ev_andV (b := true) (ev_eqNew (en_listT (ev_var rfl)) (en_sortedSet (ns := nats p.1) (ms := nats p.1) (ev_var rfl) (by simp; omega) (fun k => Iff.rfl) hsn) hdep) fun _ => et_all (Γ1 := fun k => ⟨tabs, [some (tyD K (histD h)), some (tyL K (opsD h.ops)), some (tyS K (modS m)), some (tyD K (posD p)), some (tyT K (nums (nats p.1))), some (tyI K ((p.1.getD k 0 : Nat) : Int))]⟩) (fun _ => true) (fun _ => true) hT (iv_tup (ev_var rfl)) (fun k hk => ?_) (fun k hk => et_true) (fun k hk _ => ?_)) (by simp)) q
    · have hk : k < p.1.length := by simpa using hk
      have e : (nums (nats p.1)).getD k .none = .num ((p.1.getD k 0 : Nat) : Int) := nums_nats_getD (by rw [List.getD_eq_getElem?_getD, List.getElem?_eq_getElem hk]; rfl)
      rw [e]
      exact gt_name (by simp)
    · have hk : k < p.1.length := by simpa using hk
      have hmem : p.1.getD k 0 ∈ p.1 := by rw [List.getD_eq_getElem?_getD, List.getElem?_eq_getElem hk]; exact List.getElem_mem hk
      have hlt : p.1.getD k 0 < h.ops.length := hb _ hmem
      refine ev_B (ev_chain (W := tyI K (h.ops.length : Int)) ev_i (ev_var rfl) ?_ rv_C0 fun _ => rv_C0) ?_
      · have := ev_cb (ea_cons (ev_var (T := tyL K (opsD h.ops)) (Γ := ⟨tabs, [some (tyD K (histD h)), some (tyL K (opsD h.ops)), some (tyS K (modS m)), some (tyD K (posD p)), some (tyT K (nums (nats p.1))), some (tyI K ((p.1.getD k 0 : Nat) : Int))]⟩) (i := 1) rfl) ea_nil) rc_lenL
        rw [show (opsD h.ops).length = h.ops.length by simp [opsD]] at this
        exact this
      · rw [Bool.and_eq_true, decide_eq_true_eq, decide_eq_true_eq]
        constructor <;> omega
theorem told_few {h : Hist} (ok : h.Ok) {m : Bool} {ds : List D} (t : IsTold h m ds) : ds.length ≤ 1000000 := by
  have nine : h.ops.length ≤ 9 := ok.nine
  have hL : ∃ L : List (Pos (List St1)), ds = L.map posD ∧ ∀ q ∈ L, Reach (h.sys m) q := by
    have key : ∀ l : List D, (∀ d ∈ l, ∃ q, Reach (h.sys m) q ∧ d = posD q) → ∃ L : List (Pos (List St1)), l = L.map posD ∧ ∀ q ∈ L, Reach (h.sys m) q := by
      intro l
      induction l with
      | nil => exact fun _ => ⟨[], rfl, fun _ z => by cases z⟩
      | cons a l ih =>
        intro hh
        obtain ⟨q, hq, e⟩ := hh a (List.mem_cons_self ..)
        obtain ⟨L, rfl, hL⟩ := ih fun d hd => hh d (List.mem_cons_of_mem _ hd)
        exact ⟨q :: L, by rw [e]; rfl, fun x hx => by
          rcases List.mem_cons.mp hx with rfl | z
          · exact hq
          · exact hL x z⟩
    exact key ds fun d hd => (t.mem d).mp hd
  obtain ⟨L, rfl, hr⟩ := hL
  have hnd : L.Nodup := (List.pairwise_map.mp t.nd).imp fun hne e => hne (by rw [e])
  have := reach_few (Y := h.sys m) nine hnd hr
  simpa using this
def PClosed (K : PySem.W.Frag) : List Ty → Ty → Prop := fun Ts T => ∃ (h : Hist) (m : Bool) (ds : List D), h.Ok ∧ IsTold h m ds ∧ Ts = [tyD K (histD h), tyS K (modS m), tyT K ds] ∧ T = tyE (fun b : Bool => b = true ↔ ¬ Fits (h.sys m)) tyB
theorem sc_is_closed : FnScope ["some_history", "model", "table", "listed", "known", "position", "_", "later"] ["some_history", "model", "table"] (defScope (top 30)) := C8.fnScope_by (by decide +kernel)
theorem cal_is_closed {P : Program} {w : World} {K : PySem.W.Frag} {mg : Str → Option Value} {base : Heap} {f : Addr} {fd : FuncData} {cc : Addr} (F : FunC K mg "is_closed" (top 30) f fd (.ref cc)) (M : Nm mg) {Tb : Addr} {tabs : List Addr} (TB : TabB base mg cc Tb) (hT : Tb ∈ tabs)  (c_operations : Cal P w K mg base 4 "operations" (Pm [] (POps K))) (c_first_position : Cal P w K mg base 4 "first_position" (Pm [] (PFp K))) (c_is_position : Cal P w K mg base 6 "is_position" (Pm tabs (PIsPos K))) (c_is_whole : Cal P w K mg base 6 "is_whole" (Pm tabs (PWhole K))) (c_moves : Cal P w K mg base 7 "moves" (Pm tabs (PMoves K))) : Cal P w K mg base (9 + 1) "is_closed" (Pm tabs (PClosed K)) := by
  have b := F.binds (ps := ["some_history", "model", "table"]) fun _ _ _ _ _ _ us hl => match us, hl with | [_, _, _], _ => rfl
  have kds := F.kds
  have S := sc_is_closed
  refine cal1 F b sc_is_closed (fun Ts T h => ?hlen) (fun A outer s H E hr => have hu := hr.units; have hu1 := hu_of hr;
      (pss_cons (ps_set (i := 3) S.nd rfl (by first | exact .inl rfl | exact .inr rfl) (pe_c c_operations hr (by first | decide | omega) (by rfl) (pa_cons (pv 0) pa_nil)))
      (pss_cons (ps_if (pt_cmpR (k_op_notInK K hu) (pe_c c_first_position hr (by first | decide | omega) (by rfl) (pa_cons (pv 0) pa_nil)) (pv 2) (by rfl))
        (pss_one (ps_ret pe_bl))
        pss_nil)
      (pss_cons (ps_set (i := 4) S.nd rfl (by first | exact .inl rfl | exact .inr rfl) (k_pe_dcN P w K (own := [("position", 5)]) hu rfl S.nd (k_pi_tup K (pv 2)) (blkOk_by (N := ["some_history", "model", "table", "listed", "known", "position", "_", "later"]) (sc := defScope (top 30)) (by decide +kernel)) (fun s H C cl fp => (pg_name (i := 5) S.nd rfl (by first | exact .inl rfl | exact .inr rfl))) (fun s H C cl fp => pts_nil) (fun s H C cl fp => (pv 5)) (fun s H C cl fp => pe_bl)))
      (pss_cons (ps_for PassesOwn.never rfl (k_pi_tup K (pv 2)) (pg_name (i := 5) S.nd rfl (by first | exact .inl rfl | exact .inr rfl))
        (pss_cons (ps_if (PW.pt (pw_or (pt_not (pt_val (pe_c c_is_position hr (by first | decide | omega) (by rfl) (pa_cons (pv 0) (pa_cons (pv 3) (pa_cons (pv 1) (pa_cons (pv 5) pa_nil))))))) (pw_or1 (pt_val (pe_c c_is_whole hr (by first | decide | omega) (by rfl) (pa_cons (pv 3) (pa_cons (pv 5) pa_nil)))))))
          (pss_one (ps_ret pe_bl))
          pss_nil)
        (pss_one (ps_if (pt_not (pt_val (GA.pe_allG (own := [("_", 6), ("later", 7)]) (k := 8) (hr.mono (by decide)) rfl S.nd (by rfl) M.n_all boot_all TB rfl (k_pi_list K (pe_c c_moves hr (by first | decide | omega) (by rfl) (pa_cons (pv 0) (pa_cons (pv 3) (pa_cons (pv 1) (pa_cons (pv 5) pa_nil)))))) (blkOk_by (N := ["some_history", "model", "table", "listed", "known", "position", "_", "later"]) (sc := defScope (top 30)) (by decide +kernel)) (by decide +kernel) (by rfl) (by rfl) (fun A' s H C cl code fp hr => have hu := hr.units; (k_pg_tup K (n := 2) rfl (pgs_cons (pg_name (i := 6) S.nd rfl (by first | exact .inl rfl | exact .inr rfl)) (pgs_cons (pg_name (i := 7) S.nd rfl (by first | exact .inl rfl | exact .inr rfl)) pgs_nil)))) (fun A' s H C cl code fp hr => have hu := hr.units; pts_nil) (fun A' s H C cl code fp hr => have hu := hr.units; (pe_cmpR (k_op_inN P w K hu) (pv 7) (pv 4) (by rfl))) (by intro _; rfl))))
          (pss_one (ps_ret pe_bl))
          pss_nil))))
      (pss_one (ps_ret pe_bl))))))) (fun Ts T h => ?hbd)
  case hlen =>
    obtain ⟨h, m, ds, _, _, rfl, rfl⟩ := h
    rfl
  case hbd =>
    obtain ⟨h, m, ds, ok, td, rfl, rfl⟩ := h
    intro σ H s D q
    have few := told_few ok td
    refine q_set s (ev_call (tb := []) (F := POps K) (ea_cons (ev_var rfl) ea_nil) ⟨h, ok, rfl, rfl⟩ (by simp)) fun σ1 H1 e1 s1 => ?_
    refine q_no s1 (et_is (et_test (ev_op (ev_call (tb := []) (F := PFp K) (ea_cons (ev_var rfl) ea_nil) ⟨h, m, ok, rfl, rfl⟩ (by simp)) (ev_var rfl) (rv_niT (posD_8 _)))) ?_) fun H2 e2 s2 => ?_
    · rw [decide_eq_true ((td.mem _).mpr ⟨_, Reach.first _, rfl⟩)] <;> rfl
    · show tSeq _ _ _ _ H2
      have hpos : ∀ i, i < ds.length → ∃ q, Reach (h.sys m) q ∧ ds.getD i .none = posD q := fun i hi => (td.mem _).mp (by rw [List.getD_eq_getElem?_getD, List.getElem?_eq_getElem hi]; exact List.getElem_mem hi)
      refine p_dcN (Γ1 := fun i => ⟨tabs, [some (tyD K (histD h)), some (tyS K (modS m)), some (tyT K ds), some (tyL K (opsD h.ops)), none, some (tyD K (ds.getD i .none)), none, none]⟩) (fun i => ds.getD i .none) s2 (iv_tup (ev_var rfl)) few (fun i hi => gt_name (by simp)) (fun i hi => ev_var rfl) (fun i hi => ?_) fun kd σ3 H3 ks e3 N hks s3 => ?_
      · obtain ⟨q, _, e⟩ := hpos i hi
        rw [e]
        exact ⟨posD_tup q, posD_8 q⟩
      · have e03 := (e1.trans e2).trans e3
        refine q_for s3 (iv_tup (ev_var rfl)) fun H4 e4 s4 => ?_
        let Γi : Nat → Gam := fun _ => ⟨tabs, [some (tyD K (histD h)), some (tyS K (modS m)), some (tyT K ds), some (tyL K (opsD h.ops)), some (tyR kd), none, none, none]⟩
        let Mi : Nat → Hp → Prop := fun i H' => Imm H4 H' ∧ Ext H H' ∧ NAt P w K kd ks H' ∧ ∀ j q, j < i → ds[j]? = some (posD q) → whole (h.sys m) q.1 = false
        refine ⟨Γi, Mi, s4, ⟨Imm.refl _, e03.trans e4, N.up e4, fun j q hj => by omega⟩, fun i H' mm => mm.1, fun i σ' H' hi si mi x H5 ex rx s' => ?_, fun σ' H' sn mn => ?_⟩
        · obtain ⟨m1, m2, m3, m4⟩ := mi
          obtain ⟨p, hp, ep⟩ := hpos i hi
          have hdi : ds[i]? = some (posD p) := by rw [← ep, List.getD_eq_getElem?_getD, List.getElem?_eq_getElem hi]; rfl
          rw [ep] at rx
          have snx : Sty ⟨tabs, [some (tyD K (histD h)), some (tyS K (modS m)), some (tyT K ds), some (tyL K (opsD h.ops)), some (tyR kd), some (tyD K (posD p)), none, none]⟩ (σ'.set 5 (some x)) H5 := Sty.set (i := 5) s' rx
          show tSeq _ _ _ (σ'.set 5 (some x)) H5
          refine q_when (b := whole (h.sys m) p.1) snx (et_is (et_or (b := false) (et_not (b := true) (et_B (ev_call (tb := tabs) (F := PIsPos K) (ea_cons (ev_var rfl) (ea_cons (ev_var rfl) (ea_cons (ev_var rfl) (ea_cons (ev_var rfl) ea_nil)))) ⟨h, m, p, ok, hp, rfl, rfl⟩ (fun _ z => z)))) fun _ => et_B (ev_call (tb := tabs) (F := PWhole K) (ea_cons (ev_var rfl) (ea_cons (ev_var rfl) ea_nil)) ⟨h, m, p, ok, rfl, rfl⟩ (fun _ z => z))) (Bool.false_or _)) (fun hw H6 e6 s6 => ?_) (fun hw H6 e6 s6 => ?_)
          · exact r_bool ((m2.trans ex).trans e6) s6 ev_b ⟨fun z => (by cases z), fun z => absurd ⟨p, hp, hw⟩ z⟩ q
          · have N6 := (m3.up ex).up e6
            show tIfS _ _ _ _ _ H6
            have hall : EvTL _ (σ'.set 5 (some x)) H6 true := lt_B (l_all (Γ1 := fun j => ⟨tabs, [some (tyD K (histD h)), some (tyS K (modS m)), some (tyT K ds), some (tyL K (opsD h.ops)), some (tyR kd), some (tyD K (posD p)), some (tyD K (.num ((((mv (h.sys m) p).getD j (0, p)).1 : Nat) : Int))), some (tyD K (posD ((mv (h.sys m) p).getD j (0, p)).2))]⟩) (vs := [6, 7]) (te := tOp (rInN P w K false) (tVar 7) (tVar 4)) s6 hT (iv_list (ev_call (E := E0) (tb := tabs) (F := PMoves K) (Ts := [tyD K (histD h), tyL K (opsD h.ops), tyS K (modS m), tyD K (posD p)]) (ea_cons (ev_var (i := 0) rfl) (ea_cons (ev_var (i := 3) rfl) (ea_cons (ev_var (i := 1) rfl) (ea_cons (ev_var (i := 5) rfl) ea_nil)))) ⟨h, m, p, ok, hp, rfl, rfl⟩ (fun _ z => z))) (g := gTup K 2 (gCons (gName 6) (gCons (gName 7) gNil))) (fun j hj => ?_) (fun j hj σ2 H2' e2' s2' => ?_))
            · refine m_if (b := false) s6 (fun H1 e1 Q q => hall H1 e1 _ fun H' e' => q H' e') (fun z => by cases z) fun _ H7 e7 s7 => ?_
              refine ⟨s7.lose (i := 5), (m1.trans (ex.toImm.trans e6.toImm)).trans e7.toImm, ((m2.trans ex).trans e6).trans e7, N6.up e7, fun j q' hj hjq => ?_⟩
              by_cases ej : j = i
              · subst ej
                rw [hdi] at hjq
                have := posD_inj.mp (Option.some.inj hjq)
                rw [← this]
                exact hw
              · exact m4 j q' (by omega) hjq
            · rw [List.length_map] at hj
              have : (mv (h.sys m) p)[j]? = some (((mv (h.sys m) p).getD j (0, p)).1, ((mv (h.sys m) p).getD j (0, p)).2) := by rw [List.getD_eq_getElem?_getD, List.getElem?_eq_getElem hj]; rfl
              rw [movD_getD this]
              exact gt_tup2 (gt_name (by simp)) (gt_name (by simp))
            · rw [List.length_map] at hj
              have hmem : (((mv (h.sys m) p).getD j (0, p)).1, ((mv (h.sys m) p).getD j (0, p)).2) ∈ mv (h.sys m) p := by rw [List.getD_eq_getElem?_getD, List.getElem?_eq_getElem hj]; exact List.getElem_mem hj
              have hrt := Reach.step _ hp hmem
              refine (l_inN (neg := false) (N6.up e2') (l_var s2' rfl) (l_var s2' rfl) (posD_tup _) (posD_8 _)).isB ?_
              show decide _ = true
              rw [decide_eq_true_eq, hks]
              have hm := (td.mem _).mpr ⟨_, hrt, rfl⟩
              obtain ⟨k, hk⟩ := List.getElem?_of_mem hm
              exact ⟨k, (List.getElem?_eq_some_iff.mp hk).1, by rw [List.getD_eq_getElem?_getD (l := ds), hk]; rfl⟩
        · refine r_bool mn.2.1 sn ev_b ⟨fun _ hf => ?_, fun _ => rfl⟩ q
          obtain ⟨q', hq', hw⟩ := hf
          have hm := (td.mem _).mpr ⟨q', hq', rfl⟩
          obtain ⟨k, hk⟩ := List.getElem?_of_mem hm
          have := mn.2.2.2 k q' (List.getElem?_eq_some_iff.mp hk).1 hk
          rw [hw] at this
          cases this
end OS

end

section
set_option maxHeartbeats 4000000
namespace OS
open PySem PySem.Spec PyProof.Rows L2 GxR OSx

/-! ### the law's own defs: weak promises -/
section
variable {K : PySem.W.Frag} {Γ Γ' : Gam} {T U : Ty} {ta tb te : TE} {i j : Int} {d : D} {ds es : List D} {b : Bool} {σ : L2.St} {H : Hp} {Dd : Ends} {tz : TS}
theorem ev_neg (h : Ev te Γ (tyI K i)) : Ev (tUn (rU fun i => .int (-i)) te) Γ (tyI K (-i)) := fun σ H s Q q => h σ H s _ fun v H1 e r => ⟨i, r, q _ H1 e rfl⟩
theorem rv_mod (h : j ≠ 0) : RV (rI (fun _ j => j ≠ 0) fun i j => .int (i.fmod j)) (tyI K i) (tyI K j) (tyI K (i.fmod j)) := rv_I (C := fun _ j => j ≠ 0) h
theorem ev_intB (h : Ev te Γ (tyB b)) : Ev (tCB (fun xs H Q => (∃ i, xs = [.int i] ∧ Q (.int i) H) ∨ ∃ k, xs = [.bl k] ∧ Q (.int (if k then 1 else 0)) H) (tCons te tNil)) Γ (tyI K (if b then 1 else 0)) := fun σ H s Q q => h σ H s _ fun v H1 e r => .inr ⟨b, by rw [show v = _ from r], q _ H1 e rfl⟩
theorem fmod_pos {a n : Int} (h : 0 < n) : 0 ≤ a.fmod n ∧ a.fmod n < n := by rw [Int.fmod_eq_emod_of_nonneg a (by omega)]; exact ⟨Int.emod_nonneg a (by omega), Int.emod_lt_of_pos a h⟩
/-- x in [..] -/
theorem ev_inLst (ha : Ev ta Γ (tyD K d)) {tr : TA} (hb : EvA tr Γ (ds.map (tyD K))) (hl : ds.length ≤ 1000) (h : d.depth ≤ 8) : Ev (tOp (rInK K false) ta (tLst tr)) Γ (tyB (decide (d ∈ ds))) := ev_inNew ha (en_lst hb hl) h
/-- [..][i] -/
theorem ev_ixNew (ha : EvN K ta Γ ds) (hb : Ev tb Γ (tyI K i)) (h : atI ds i = some d) : Ev (tOp (rIxL K) ta tb) Γ (tyD K d) := fun σ H s Q q => ha σ H s _ fun p xs H1 hp e1 a t => hb σ H1 (s.imm e1.toImm) _ fun y H2 e2 r2 => by
  have L : Lst K p ds H2 := Lst.up ⟨xs, a, t⟩ e2
  obtain rfl : y = .int i := r2
  obtain ⟨xs, a, t⟩ := L
  obtain ⟨m, g1, g2, _, _⟩ := atI_get h
  obtain ⟨v, g3, g4⟩ := t.get g2
  refine ⟨p, xs, i, v, rfl, rfl, .inl (.inl a), ?_, q v H2 (e1.trans e2) g4⟩
  unfold atI at h ⊢
  rw [t.length]
  cases e5 : ixN ds.length i with
  | none => rw [e5] at h; cases h
  | some n =>
    rw [e5] at h
    have : m = n := by
      have := (ixN_seq e5).1
      rw [g1] at this
      exact Option.some.inj this
    subst this
    exact g3
/-- [..][:n] -/
theorem en_slNew {n : Nat} (ha : EvN K ta Γ ds) (hb : Ev tb Γ (tyI K (n : Int))) (hn : n ≤ ds.length) : EvN K (tSl (rSlL K) ta tNoPart (tPart tb)) Γ (ds.take n) := fun σ H s Q q => ha σ H s _ fun p xs H1 hp e1 a t => hb σ H1 (s.imm e1.toImm) _ fun y H2 e2 r2 => by
  obtain rfl : y = .int (n : Int) := r2
  have a2 := e2.keep p _ (fun z => z) a (fun _ z => by cases z)
  refine ⟨n, rfl, p, xs, rfl, .inl (.inl a2), fun l hl => q l _ _ ((e1.trans e2).dom l hl) ((e1.trans e2).trans (Ext.new hl)) upd_same ?_⟩
  have := tds_cut (t.imm e2.toImm _ _) none (some (n : Int))
  rw [cut_to hn] at this
  exact this.imm (Ext.new hl).toImm _ _
/-- [..] * n -/
theorem en_rep {n : Nat} (ha : EvN K ta Γ ds) (hb : Ev tb Γ (tyI K (n : Int))) (hn : n ≤ 1000) (hl : ds.length ≤ 100) : EvN K (tOp rRep ta tb) Γ (List.replicate n ds).flatten := fun σ H s Q q => ha σ H s _ fun p xs H1 hp e1 a t => hb σ H1 (s.imm e1.toImm) _ fun y H2 e2 r2 => by
  obtain rfl : y = .int (n : Int) := r2
  have a2 := e2.keep p _ (fun z => z) a (fun _ z => by cases z)
  have hx : xs.length ≤ 100 := by rw [t.length]; exact hl
  refine ⟨p, n, xs, rfl, rfl, a2, by omega, by omega, ?_, fun l hl2 => q l _ _ ((e1.trans e2).dom l hl2) ((e1.trans e2).trans (Ext.new hl2)) upd_same ?_⟩
  · rw [Int.toNat_natCast, sizeLine_eq]
    have : xs.length * n ≤ 100 * 1000 := Nat.mul_le_mul hx hn
    omega
  · rw [Int.toNat_natCast]
    have t2 := (t.imm e2.toImm _ _).imm (Ext.new (o := .lst (List.replicate n xs).flatten) hl2).toImm _ _
    clear a2 q
    have key : ∀ n : Nat, ∀ H', Tds K H' ds xs → Tds K H' (List.replicate n ds).flatten (List.replicate n xs).flatten := by
      intro n H' h
      induction n with
      | zero => rfl
      | succ n ih => rw [List.replicate_succ, List.replicate_succ, List.flatten_cons, List.flatten_cons]; exact h.app ih
    exact key n _ t2
/-- l + m, both new -/
theorem en_cat (ha : EvN K ta Γ ds) (hb : EvN K tb Γ es) (hl : ds.length + es.length ≤ 10000) : EvN K (tOp rCat ta tb) Γ (ds ++ es) := fun σ H s Q q => ha σ H s _ fun p xs H1 hp e1 a t => hb σ H1 (s.imm e1.toImm) _ fun p2 ys H2 hp2 e2 a2 t2 => by
  have a1 := e2.keep p _ (fun z => z) a (fun _ z => by cases z)
  exact ⟨p, p2, xs, ys, rfl, rfl, a1, a2, by rw [t.length, t2.length, sizeLine_eq]; omega, fun l hl2 => q l _ _ ((e1.trans e2).dom l hl2) ((e1.trans e2).trans (Ext.new hl2)) upd_same (((t.imm e2.toImm _ _).app t2).imm (Ext.new hl2).toImm _ _)⟩
/-- both ways come to J -/
theorem q_whenJ {J : Gam} {t : TT} {tu : TS} (s : Sty Γ σ H) (h : EvT t Γ b) (h1 : b = true → ∀ H', Ext H H' → Sty Γ σ H' → (∀ σ2 H2, Ext H' H2 → Sty J σ2 H2 → tz Dd σ2 H2) → tu { Dd with nx := tz Dd } σ H') (h2 : b = false → ∀ H', Ext H H' → Sty Γ σ H' → Sty J σ H')
    (k : ∀ σ2 H2, Ext H H2 → Sty J σ2 H2 → tz Dd σ2 H2) : tSeq (tIfS t tu tNext) tz Dd σ H :=
  q_when s h (fun hb H1 e1 s1 => h1 hb H1 e1 s1 fun σ2 H2 e2 s2 => k σ2 H2 (e1.trans e2) s2) fun hb H1 e1 s1 => k σ H1 e1 (h2 hb H1 e1 s1)
theorem ev_anyI (h : Ev te Γ (tyI K i)) : Ev te Γ (tyE (fun _ : Int => True) (tyI K)) := ev_imp h fun v H r => ⟨i, trivial, r⟩
end
def Dig (sz l : List Int) : Prop := l.length = sz.length ∧ ∀ (i : Nat) (z d : Int), sz[i]? = some z → l[i]? = some d → 0 ≤ d ∧ d < z
theorem Dig.at {sz l : List Int} (h : Dig sz l) {i : Nat} {z : Int} (hz : sz[i]? = some z) : ∃ d : Nat, l[i]? = some (d : Int) ∧ (d : Int) < z := by
  have hi : i < l.length := by rw [h.1]; exact (List.getElem?_eq_some_iff.mp hz).1
  obtain ⟨h1, h2⟩ := h.2 i z _ hz (List.getElem?_eq_getElem hi)
  refine ⟨l[i].toNat, ?_, by omega⟩
  rw [List.getElem?_eq_getElem hi, Int.toNat_of_nonneg h1]
theorem nums_at {l : List Int} {i : Nat} {d : Int} (h : l[i]? = some d) : (nums l)[i]? = some (.num d) := by rw [List.getElem?_map, h] <;> rfl
theorem nums_snoc (l : List Int) (d : Int) : nums l ++ [.num d] = nums (l ++ [d]) := by simp [nums]
def PCell (K : PySem.W.Frag) : List Ty → Ty → Prop := fun Ts T => ∃ (ns : List Int) (k : Nat), Ts = [tyL K (nums ns), tyI K (k : Int)] ∧ T = tyE (fun _ : Int => True) (tyI K)
theorem sc__law_cell : FnScope ["_law_script", "_law_k"] ["_law_script", "_law_k"] (defScope (top 33)) := C8.fnScope_by (by decide +kernel)
theorem cal__law_cell {P : Program} {w : World} {K : PySem.W.Frag} {mg : Str → Option Value} {base : Heap} {f : Addr} {fd : FuncData} {cdv : Value} (F : FunC K mg "_law_cell" (top 33) f fd cdv) (M : Nm mg)   : Cal P w K mg base (0 + 1) "_law_cell" (Pm [] (PCell K)) := by
  have b := F.binds (ps := ["_law_script", "_law_k"]) fun _ _ _ _ _ _ us hl => match us, hl with | [_, _], _ => rfl
  have kds := F.kds
  have S := sc__law_cell
  refine cal1 F b sc__law_cell (fun Ts T h => ?hlen) (fun A outer s H E hr => have hu := hr.units; have hu1 := hu_of hr;
      (pss_cons (ps_if (pt_cmpR op_lt (pv 1) (pe_callB (k_cr_lenS K) (by rfl) M.n_len boot_len (pa_cons (pv 0) pa_nil)) (nomark _))
        (pss_one (ps_ret (pe_ix (k_ix_list K) (pv 0) (pv 1) (fun _ _ => rfl))))
        pss_nil)
      (pss_one (ps_ret pe_int)))) (fun Ts T h => ?hbd)
  case hlen =>
    obtain ⟨ns, k, rfl, rfl⟩ := h
    rfl
  case hbd =>
    obtain ⟨ns, k, rfl, rfl⟩ := h
    intro σ H s D q
    refine q_when s (et_test (ev_op (ev_var rfl) (ev_cb (ea_cons (ev_var rfl) ea_nil) rc_lenL) rv_C0)) (fun hb H1 e1 s1 => ?_) (fun hb H1 e1 s1 => r_end e1 s1 (ev_anyI ev_i) q)
    have hk : k < ns.length := by
      rw [decide_eq_true_eq] at hb
      simp at hb
      exact hb
    exact r_end e1 s1 (ev_anyI (i := ns[k]) (ev_ixL (ev_var rfl) (ev_var rfl) (at_nat (nums_at (List.getElem?_eq_getElem hk))))) q
def PDraw (K : PySem.W.Frag) : List Ty → Ty → Prop := fun Ts T => ∃ (ns : List Int) (k : Nat) (sz : List Int), (∀ z ∈ sz, 0 < z ∧ z < 1000) ∧ sz.length ≤ 1000 ∧ Ts = [tyL K (nums ns), tyI K (k : Int), tyL K (nums sz)] ∧ T = tyE (Dig sz) fun l => tyL K (nums l)
theorem m_retE {α : Type} {PP : α → Prop} {TT : α → List D} {K : PySem.W.Frag} {Γ : Gam} {ta : TE} {σ : L2.St} {H H0 : Hp} {p : Addr} {Dd : Ends} {x : α} (s : Sty Γ σ H) (e0 : Ext H0 H) (h0 : H0 p = none) (L : Lst K p (TT x) H) (ha : Ev ta Γ (tyR p)) (hx : PP x) (k : ∀ v H', Ext H0 H' → (tyE PP fun x => tyL K (TT x)).is v H' → Dd.rt v H') : tRet (tFrz ta) Dd σ H :=
  m_retF s e0 h0 L ha fun v H' e r => k v H' e ⟨x, hx, r⟩
theorem sc__law_draw : FnScope ["_law_script", "_law_k", "_law_sizes", "_law_cell_here", "_law_drawn", "_law_size", "_law_stirred", "_law_j"] ["_law_script", "_law_k", "_law_sizes"] (defScope (top 34)) := C8.fnScope_by (by decide +kernel)
theorem cal__law_draw {P : Program} {w : World} {K : PySem.W.Frag} {mg : Str → Option Value} {base : Heap} {f : Addr} {fd : FuncData} {cdv : Value} (F : FunC K mg "_law_draw" (top 34) f fd cdv) (M : Nm mg)  (c__law_cell : Cal P w K mg base 1 "_law_cell" (Pm [] (PCell K))) : Cal P w K mg base (1 + 1) "_law_draw" (Pm [] (PDraw K)) := by
  have b := F.binds (ps := ["_law_script", "_law_k", "_law_sizes"]) fun _ _ _ _ _ _ us hl => match us, hl with | [_, _, _], _ => rfl
  have kds := F.kds
  have S := sc__law_draw
  refine cal1 F b sc__law_draw (fun Ts T h => ?hlen) (fun A outer s H E hr => have hu := hr.units; have hu1 := hu_of hr;
      (pss_cons (ps_set (i := 3) S.nd rfl (by first | exact .inl rfl | exact .inr rfl) (pe_c c__law_cell hr (by first | decide | omega) (by rfl) (pa_cons (pv 0) (pa_cons (pv 1) pa_nil))))
      (pss_cons (ps_if (pt_cmpR op_lt (pv 3) pe_int (nomark _))
        (pss_one (ps_set (i := 3) S.nd rfl (by first | exact .inl rfl | exact .inr rfl) (pe_un un_neg (pv 3))))
        pss_nil)
      (pss_cons (ps_set (i := 4) S.nd rfl (by first | exact .inl rfl | exact .inr rfl) (pe_lst pa_nil))
      (pss_cons (ps_if (pt_cmpR op_ge (pv 3) (pe_op op_pow pe_int pe_int) (nomark _))
        (pss_cons (ps_set (i := 3) S.nd rfl (by first | exact .inl rfl | exact .inr rfl) (pe_op op_sub (pv 3) (pe_op op_pow pe_int pe_int)))
        (pss_cons (ps_for PassesOwn.never rfl (k_pi_list K (pv 2)) (pg_name (i := 5) S.nd rfl (by first | exact .inl rfl | exact .inr rfl))
          (pss_cons (ps_expr (k_append K (pv 4) (pa_cons (pe_op op_modN (pv 3) (pv 5)) pa_nil)))
          (pss_one (ps_set (i := 3) S.nd rfl (by first | exact .inl rfl | exact .inr rfl) (pe_op op_fdivN (pv 3) (pv 5))))))
        (pss_one (ps_ret (pe_frz (pv 4))))))
        pss_nil)
      (pss_cons (ps_set (i := 6) S.nd rfl (by first | exact .inl rfl | exact .inr rfl) (pe_op op_modN (pe_op op_add (pe_op op_add (pv 3) pe_int) (pe_op op_mul pe_int (pv 1))) pe_int))
      (pss_cons (ps_for PassesOwn.never rfl (pi_range1 (by rfl) M.n_range (pa_cons (pe_callB (k_cr_lenS K) (by rfl) M.n_len boot_len (pa_cons (pv 2) pa_nil)) pa_nil)) (pg_name (i := 7) S.nd rfl (by first | exact .inl rfl | exact .inr rfl))
        (pss_cons (ps_set (i := 6) S.nd rfl (by first | exact .inl rfl | exact .inr rfl) (pe_op op_modN (pe_op op_add (pe_op op_add (pe_op op_mul (pv 6) pe_int) pe_int) (pv 7)) pe_int))
        (pss_cons (ps_set (i := 6) S.nd rfl (by first | exact .inl rfl | exact .inr rfl) (pe_op op_modN (pe_op op_add (pe_op op_mul (pv 6) pe_int) pe_int) pe_int))
        (pss_one (ps_expr (k_append K (pv 4) (pa_cons (pe_op op_modN (pe_op op_fdivN (pv 6) pe_int) (pe_ix (k_ix_list K) (pv 2) (pv 7) (fun _ _ => rfl))) pa_nil)))))))
      (pss_one (ps_ret (pe_frz (pv 4))))))))))) (fun Ts T h => ?hbd)
  case hlen =>
    obtain ⟨ns, k, sz, _, _, rfl, rfl⟩ := h
    rfl
  case hbd =>
    obtain ⟨ns, k, sz, hz, hl, rfl, rfl⟩ := h
    intro σ H s D q
    refine q_set s (ev_call (tb := []) (F := PCell K) (ea_cons (ev_var rfl) (ea_cons (ev_var rfl) ea_nil)) ⟨ns, k, rfl, rfl⟩ (by simp)) fun σ1 H1 e1 s1 => ?_
    obtain ⟨c0, _, s1⟩ := s1.open (i := 3) rfl
    have hnl : (nums sz).length = sz.length := by simp
    refine q_whenJ (J := ⟨[], [some (tyL K (nums ns)), some (tyI K (k : Int)), some (tyL K (nums sz)), some (tyE (fun _ : Int => True) (tyI K)), none, none, none, none]⟩) s1 (et_test (ev_op (ev_var rfl) ev_i rv_C0)) (fun hb H2 e2 s2 kk => s_set s2 (ev_anyI (ev_neg (ev_var rfl))) fun σ3 H3 e3 s3 => kk σ3 H3 e3 s3) (fun hb H2 e2 s2 => s2.to (i := 3) rfl fun v r => ⟨_, trivial, r⟩) fun σ2 H2 e2' s2 => ?_
    obtain ⟨c, _, s2⟩ := s2.open (i := 3) rfl
    have e2 := e1.trans e2'
    refine p_nil K s2 fun p σ3 H3 hp e3 L3 s3 => ?_
    have hp0 : H p = none := e2.dom p hp
    have e03 := e2.trans e3
    refine q_when s3 (et_test (ev_op (ev_var rfl) (ev_op ev_i ev_i (rv_I (K := K) (C := CPow) ⟨by decide, by decide, by decide⟩)) rv_C0)) (fun hb H4 e4 s4 => ?_) (fun hb H4 e4 s4 => ?_)
    · show tSeq _ _ _ _ H4
      refine q_set s4 (ev_anyI (ev_op (ev_var rfl) (ev_op ev_i ev_i (rv_I (K := K) (C := CPow) ⟨by decide, by decide, by decide⟩)) rv_I0)) fun σ5 H5 e5 s5 => ?_
      refine q_for s5 (iv_list (ev_var rfl)) fun H6 e6 s6 => ?_
      let Γi : Nat → Gam := fun _ => ⟨[], [some (tyL K (nums ns)), some (tyI K (k : Int)), some (tyL K (nums sz)), some (tyE (fun _ : Int => True) (tyI K)), some (tyR p), none, none, none]⟩
      let Mi : Nat → Hp → Prop := fun i H' => Imm H6 H' ∧ Ext H H' ∧ ∃ acc, acc.length = i ∧ (∀ (i : Nat) (z d : Int), sz[i]? = some z → acc[i]? = some d → 0 ≤ d ∧ d < z) ∧ Lst K p (nums acc) H'
      refine ⟨Γi, Mi, ⟨s6.len, s6.at_, s6.tab⟩, ⟨Imm.refl _, ((e03.trans e4).trans e5).trans e6, [], rfl, fun _ _ _ _ z => by simp at z, ((L3.up e4).up e5).up e6⟩, fun i H' mm => mm.1, fun i σ' H' hi si mi x H7 ex rx s' => ?_, fun σ' H' sn mn => ?_⟩
      · obtain ⟨m1, m2, acc, ha, hd, La⟩ := mi
        rw [hnl] at hi
        have hg : (nums sz).getD i .none = .num (sz[i]) := by rw [List.getD_eq_getElem?_getD, nums_at (List.getElem?_eq_getElem hi)] <;> rfl
        rw [hg] at rx
        obtain ⟨hz1, hz2⟩ := hz _ (List.getElem_mem hi)
        obtain ⟨c, _, s'⟩ := s'.open (i := 3) rfl
        have snx : Sty ⟨[], [some (tyL K (nums ns)), some (tyI K (k : Int)), some (tyL K (nums sz)), some (tyI K c), some (tyR p), some (tyI K (sz[i])), none, none]⟩ (σ'.set 5 (some x)) H7 := Sty.set (i := 5) s' rx
        show tSeq _ _ _ (σ'.set 5 (some x)) H7
        refine p_app snx (La.up ex) (ev_var rfl) ((ev_op (ev_var rfl) (ev_var rfl) (rv_mod (K := K) (by omega))).loc snx) (by simp; omega) fun H8 e8 s8 L8 => ?_
        refine s_set s8 (ev_anyI (ev_op (ev_var rfl) (ev_var rfl) (rv_I (K := K) (C := CDivN) ⟨by omega, by omega⟩))) fun σ9 H9 e9 s9 => ?_
        refine ⟨s9.lose (i := 5), m1.trans ((ex.toImm.trans e8.toImm).trans e9.toImm), (Ext.only (m2.trans ex) hp0 e8).trans e9, acc ++ [c.fmod (sz[i])], by simp [ha], fun i' z d h1 h2 => ?_, by rw [← nums_snoc]; exact L8.up e9⟩
        rcases OSx.get_snoc h2 with h2 | ⟨e1, e2⟩
        · exact hd i' z d h1 h2
        · subst e2
          rw [e1, ha, List.getElem?_eq_getElem hi] at h1
          cases h1
          exact fmod_pos hz1
      · obtain ⟨m1, m2, acc, ha, hd, La⟩ := mn
        rw [hnl] at ha
        exact m_retE (PP := Dig sz) (TT := fun l => nums l) sn m2 hp0 La (ev_var rfl) ⟨ha, hd⟩ q
    · refine q_set s4 (ev_anyI (ev_op (ev_op (ev_op (ev_var rfl) ev_i rv_I0) (ev_op ev_i (ev_var rfl) (rv_I (K := K) (C := CMul) (.inl (by decide)))) rv_I0) ev_i (rv_mod (K := K) (by decide)))) fun σ5 H5 e5 s5 => ?_
      have hlenE := ev_cb (ea_cons (ev_var (T := tyL K (nums sz)) (Γ := ⟨[], [some (tyL K (nums ns)), some (tyI K (k : Int)), some (tyL K (nums sz)), some (tyI K c), some (tyR p), none, some (tyE (fun _ : Int => True) (tyI K)), none]⟩) (i := 2) rfl) ea_nil) rc_lenL
      rw [hnl] at hlenE
      refine q_for s5 (iv_rng (ea_cons hlenE ea_nil) (by omega)) fun H6 e6 s6 => ?_
      let Γi : Nat → Gam := fun _ => ⟨[], [some (tyL K (nums ns)), some (tyI K (k : Int)), some (tyL K (nums sz)), some (tyI K c), some (tyR p), none, some (tyE (fun _ : Int => True) (tyI K)), none]⟩
      let Mi : Nat → Hp → Prop := fun i H' => Imm H6 H' ∧ Ext H H' ∧ ∃ acc, acc.length = i ∧ (∀ (i : Nat) (z d : Int), sz[i]? = some z → acc[i]? = some d → 0 ≤ d ∧ d < z) ∧ Lst K p (nums acc) H'
      refine ⟨Γi, Mi, ⟨s6.len, s6.at_, s6.tab⟩, ⟨Imm.refl _, ((e03.trans e4).trans e5).trans e6, [], rfl, fun _ _ _ _ z => by simp at z, ((L3.up e4).up e5).up e6⟩, fun i H' mm => mm.1, fun i σ' H' hi si mi x H7 ex rx s' => ?_, fun σ' H' sn mn => ?_⟩
      · obtain ⟨m1, m2, acc, ha, hd, La⟩ := mi
        obtain ⟨hz1, hz2⟩ := hz _ (List.getElem_mem hi)
        obtain ⟨c2, _, s'⟩ := s'.open (i := 6) rfl
        have snx : Sty ⟨[], [some (tyL K (nums ns)), some (tyI K (k : Int)), some (tyL K (nums sz)), some (tyI K c), some (tyR p), none, some (tyI K c2), some (tyI K (i : Int))]⟩ (σ'.set 7 (some x)) H7 := Sty.set (i := 7) s' rx
        show tSeq _ _ _ (σ'.set 7 (some x)) H7
        refine q_set snx (ev_anyI (ev_op (ev_op (ev_op (ev_op (ev_var rfl) ev_i (rv_I (K := K) (C := CMul) (.inr (by decide)))) ev_i rv_I0) (ev_var rfl) rv_I0) ev_i (rv_mod (K := K) (by decide)))) fun σ8 H8 e8 s8 => ?_
        obtain ⟨c3, _, s8⟩ := s8.open (i := 6) rfl
        refine q_set s8 (ev_anyI (ev_op (ev_op (ev_op (ev_var rfl) ev_i (rv_I (K := K) (C := CMul) (.inr (by decide)))) ev_i rv_I0) ev_i (rv_mod (K := K) (by decide)))) fun σ9 H9 e9 s9 => ?_
        obtain ⟨c4, _, s9⟩ := s9.open (i := 6) rfl
        refine m_app s9 (((La.up ex).up e8).up e9) (ev_var rfl) ((ev_op (ev_op (ev_var rfl) ev_i (rv_I (K := K) (C := CDivN) ⟨by decide, by decide⟩)) (ev_ixL (ev_var rfl) (ev_var rfl) (at_nat (nums_at (List.getElem?_eq_getElem hi)))) (rv_mod (K := K) (by omega))).loc s9) (by simp; omega) fun H10 e10 s10 L10 => ?_
        refine ⟨(s10.lose (i := 7)).to (i := 6) rfl (fun v r => ⟨_, trivial, r⟩), m1.trans (((ex.toImm.trans e8.toImm).trans e9.toImm).trans e10.toImm), Ext.only (((m2.trans ex).trans e8).trans e9) hp0 e10, acc ++ [(c4.fdiv 7).fmod (sz[i])], by simp [ha], fun i' z d h1 h2 => ?_, by rw [← nums_snoc]; exact L10⟩
        rcases OSx.get_snoc h2 with h2 | ⟨e1, e2⟩
        · exact hd i' z d h1 h2
        · subst e2
          rw [e1, ha, List.getElem?_eq_getElem hi] at h1
          cases h1
          exact fmod_pos hz1
      · obtain ⟨m1, m2, acc, ha, hd, La⟩ := mn
        exact m_retE (PP := Dig sz) (TT := fun l => nums l) sn m2 hp0 La (ev_var rfl) ⟨ha, hd⟩ q
end OS

end

section
set_option maxHeartbeats 4000000
namespace OS
open PySem PySem.Spec PyProof.Rows L2 GxR OSx

def wordsOf : OSx.Kind → List Str
  | .reg => ["write", "read", "swap"]
  | .cnt => ["add", "get"]
  | .set => ["insert", "remove", "has"]
  | .que => ["put", "take"]
def mkAct : OSx.Kind → Nat → Int → Int → OSx.Act
  | .reg, 0, u, _ => .write u
  | .reg, 1, _, _ => .read
  | .reg, _, u, v => .swap u v
  | .cnt, 0, u, _ => .add u
  | .cnt, _, _, _ => .get
  | .set, 0, u, _ => .insert u
  | .set, 1, u, _ => .remove u
  | .set, _, u, _ => .has u
  | .que, 0, u, _ => .put u
  | .que, _, _, _ => .take
theorem mkAct_word (k : OSx.Kind) (j : Nat) (hj : j < (wordsOf k).length) (u v : Int) : (wordsOf k)[j]? = some (actS (mkAct k j u v)) ∧ (mkAct k j u v).kind = k ∧ (mkAct k j u v).args = [u, v].take (mkAct k j u v).args.length := by
  cases k <;> simp only [wordsOf, List.length_cons, List.length_nil] at hj <;> (rcases j with _ | _ | _ | j) <;> first | exact ⟨rfl, rfl, rfl⟩ | omega
theorem words_len (k : OSx.Kind) : 0 < (wordsOf k).length ∧ (wordsOf k).length ≤ 3 := by cases k <;> decide
def PNames (K : PySem.W.Frag) : List Ty → Ty → Prop := fun Ts T => ∃ k : OSx.Kind, Ts = [tyS K (kindS k)] ∧ T = tyL K ((wordsOf k).map .text)
section
variable {K : PySem.W.Frag} {Γ : Gam} {tr : TA} {σ : L2.St} {H : Hp} {ds : List D}
/-- a display of new lists at texts, one further -/
theorem pairs_cons {x : Str} {trs : List (TE × TE)} {Q : List (V × V) → Hp → Prop} (s : Sty Γ σ H) (h : EvA tr Γ (ds.map (tyD K))) (hl : ds.length ≤ 1000) (k : ∀ a xs H1, H a = none → Ext H H1 → H1 a = some (.lst xs) → Tds K H1 ds xs → tPairs trs σ H1 fun ps H3 => Q ((.str x, .ref a) :: ps) H3) :
    tPairs ((tC (.str x), tLst tr) :: trs) σ H Q := by
  show tLst tr σ H fun y H2 => tPairs trs σ H2 fun ps H3 => Q ((.str x, y) :: ps) H3
  exact (en_lst h hl) σ H s _ fun a xs H1 hn e l t => k a xs H1 hn e l t
end
theorem sc__law_names : FnScope ["_law_kind"] ["_law_kind"] (defScope (top 35)) := C8.fnScope_by (by decide +kernel)
theorem cal__law_names {P : Program} {w : World} {K : PySem.W.Frag} {mg : Str → Option Value} {base : Heap} {f : Addr} {fd : FuncData} {cdv : Value} (F : FunC K mg "_law_names" (top 35) f fd cdv) (M : Nm mg)   : Cal P w K mg base (0 + 1) "_law_names" (Pm [] (PNames K)) := by
  have b := F.binds (ps := ["_law_kind"]) fun _ _ _ _ _ _ us hl => match us, hl with | [_], _ => rfl
  have kds := F.kds
  have S := sc__law_names
  refine cal1 F b sc__law_names (fun Ts T h => ?hlen) (fun A outer s H E hr => have hu := hr.units; have hu1 := hu_of hr;
      (pss_one (ps_ret (pe_frz (pe_dget hu1 (pe_disp (pps_cons pe_str (pe_lst (pa_cons pe_str (pa_cons pe_str (pa_cons pe_str pa_nil)))) (pps_cons pe_str (pe_lst (pa_cons pe_str (pa_cons pe_str pa_nil))) (pps_cons pe_str (pe_lst (pa_cons pe_str (pa_cons pe_str (pa_cons pe_str pa_nil)))) (pps_cons pe_str (pe_lst (pa_cons pe_str (pa_cons pe_str pa_nil))) pps_nil)))) (by rfl) (by rfl) (by decide) (by decide)) (pv 0) (fun _ _ => rfl)))))) (fun Ts T h => ?hbd)
  case hlen =>
    obtain ⟨k, rfl, rfl⟩ := h
    rfl
  case hbd =>
    obtain ⟨k, rfl, rfl⟩ := h
    intro σ H s D q
    intro p hp
    have e0 : Ext H (upd H p (.dK [])) := Ext.new hp
    have ws : ∀ w : Str, Ev (tC (.str w)) ⟨[], [some (tyS K (kindS k))]⟩ (tyD K (.text w)) := fun w => ev_s
    refine pairs_cons (Γ := ⟨[], [some (tyS K (kindS k))]⟩) (ds := (wordsOf .reg).map .text) (s.imm e0.toImm) (ea_cons (ws _) (ea_cons (ws _) (ea_cons (ws _) ea_nil))) (by decide) fun a1 x1 H1 n1 e1 l1 t1 => ?_
    have s1 := s.imm (e0.trans e1).toImm
    refine pairs_cons (Γ := ⟨[], [some (tyS K (kindS k))]⟩) (ds := (wordsOf .cnt).map .text) s1 (ea_cons (ws _) (ea_cons (ws _) ea_nil)) (by decide) fun a2 x2 H2 n2 e2 l2 t2 => ?_
    have s2 := s1.imm e2.toImm
    refine pairs_cons (Γ := ⟨[], [some (tyS K (kindS k))]⟩) (ds := (wordsOf .set).map .text) s2 (ea_cons (ws _) (ea_cons (ws _) (ea_cons (ws _) ea_nil))) (by decide) fun a3 x3 H3 n3 e3 l3 t3 => ?_
    have s3 := s2.imm e3.toImm
    refine pairs_cons (Γ := ⟨[], [some (tyS K (kindS k))]⟩) (ds := (wordsOf .que).map .text) s3 (ea_cons (ws _) (ea_cons (ws _) ea_nil)) (by decide) fun a4 x4 H4 n4 e4 l4 t4 => ?_
    have s4 := s3.imm e4.toImm
    have e14 := ((e1.trans e2).trans e3).trans e4
    have lp : H4 p = some (.dK []) := e14.keep p _ (fun z => z) upd_same (fun _ z => by cases z)
    refine ⟨lp, [(.inr "register", .ref a1), (.inr "counter", .ref a2), (.inr "set", .ref a3), (.inr "queue", .ref a4)], rfl, by simp, ?_⟩
    have m := mut1 (o := .dK (mergeK [] [(.inr "register", .ref a1), (.inr "counter", .ref a2), (.inr "set", .ref a3), (.inr "queue", .ref a4)])) lp trivial
    have e05 : Ext H _ := Ext.only (e0.trans e14) hp m
    have s5 := s.imm e05.toImm
    obtain ⟨v, hv, rfl⟩ := s5.at_ 0 _ rfl
    have fin : ∀ (k' : OSx.Kind) (a : Addr) (xs : List V) (Ha : Hp), k = k' → Ext Ha H4 → Ha a = some (.lst xs) → Tds K Ha ((wordsOf k').map .text) xs → H a = none → valV (mergeK [] [(.inr "register", V.ref a1), (.inr "counter", .ref a2), (.inr "set", .ref a3), (.inr "queue", .ref a4)]) (.inr (kindS k')) = some (.ref a) → 
        tVar 0 σ (upd H4 p (.dK (mergeK [] [(.inr "register", V.ref a1), (.inr "counter", .ref a2), (.inr "set", .ref a3), (.inr "queue", .ref a4)]))) fun y H2 => ∃ a v, V.ref p = .ref a ∧ DGet H2 a y (some v) ∧ ∃ p xs, v = .ref p ∧ H2 p = some (.lst xs) ∧ ∀ o, D.rt v (upd H2 p (.frz o (.lst xs))) := by
      rintro _ a xs Ha rfl ea la ta h0 hval
      have la4 : H4 a = some (.lst xs) := ea.keep a _ (fun z => z) la (fun _ z => by cases z)
      have hne : a ≠ p := fun z => by rw [z, lp] at la4; cases la4
      have la5 := m.keep a _ hne la4 (fun _ z => by cases z)
      refine ⟨_, hv, p, .ref a, rfl, by rw [← hval]; exact DGet.k (k := .inr (kindS k)) upd_same, a, xs, rfl, la5, fun o => q _ _ (ExtS.freeze e05 la5 (.inl h0)) ⟨a, xs, rfl, .inl ⟨o, upd_same⟩, ((ta.imm ea.toImm _ _).imm m.toImm _ _).imm (Imm.mut la5 trivial) _ _⟩⟩
    have hv4 : mergeK [] [(.inr "register", V.ref a1), (.inr "counter", .ref a2), (.inr "set", .ref a3), (.inr "queue", .ref a4)] = putK (putK (putK (putK ([] : List (Key × V)) (.inr "register") (.ref a1)) (.inr "counter") (.ref a2)) (.inr "set") (.ref a3)) (.inr "queue") (.ref a4) := rfl
    have nn : ∀ (a b : Str), a ≠ b → ¬ (Sum.inr a : Key) = .inr b := fun a b h z => h (Sum.inr.inj z)
    cases k with
    | reg =>
      refine fin .reg a1 x1 H1 rfl ((e2.trans e3).trans e4) l1 t1 (e0.dom _ n1) ?_
      rw [hv4]
      show valV _ (Sum.inr "register" : Key) = _
      rw [valV_put, if_neg (nn _ _ (by decide +kernel)), valV_put, if_neg (nn _ _ (by decide +kernel)), valV_put, if_neg (nn _ _ (by decide +kernel)), valV_put, if_pos rfl]
    | cnt =>
      refine fin .cnt a2 x2 H2 rfl (e3.trans e4) l2 t2 (e0.dom _ (e1.dom _ n2)) ?_
      rw [hv4]
      show valV _ (Sum.inr "counter" : Key) = _
      rw [valV_put, if_neg (nn _ _ (by decide +kernel)), valV_put, if_neg (nn _ _ (by decide +kernel)), valV_put, if_pos rfl]
    | set =>
      refine fin .set a3 x3 H3 rfl e4 l3 t3 (e0.dom _ (e1.dom _ (e2.dom _ n3))) ?_
      rw [hv4]
      show valV _ (Sum.inr "set" : Key) = _
      rw [valV_put, if_neg (nn _ _ (by decide +kernel)), valV_put, if_pos rfl]
    | que =>
      refine fin .que a4 x4 H4 rfl (ExtS.refl _) l4 t4 (e0.dom _ (e1.dom _ (e2.dom _ (e3.dom _ n4)))) ?_
      rw [hv4]
      show valV _ (Sum.inr "queue" : Key) = _
      rw [valV_put, if_pos rfl]
def PMany (K : PySem.W.Frag) : List Ty → Ty → Prop := fun Ts T => ∃ a : OSx.Act, Ts = [tyS K (actS a)] ∧ T = tyI K (a.args.length : Int)
theorem sc__law_many : FnScope ["_law_word"] ["_law_word"] (defScope (top 36)) := C8.fnScope_by (by decide +kernel)
theorem cal__law_many {P : Program} {w : World} {K : PySem.W.Frag} {mg : Str → Option Value} {base : Heap} {f : Addr} {fd : FuncData} {cdv : Value} (F : FunC K mg "_law_many" (top 36) f fd cdv) (M : Nm mg)   : Cal P w K mg base (0 + 1) "_law_many" (Pm [] (PMany K)) := by
  have b := F.binds (ps := ["_law_word"]) fun _ _ _ _ _ _ us hl => match us, hl with | [_], _ => rfl
  have kds := F.kds
  have S := sc__law_many
  refine cal1 F b sc__law_many (fun Ts T h => ?hlen) (fun A outer s H E hr => have hu := hr.units; have hu1 := hu_of hr;
      (pss_cons (ps_if (pt_cmpR (k_op_eqD K hu) (pv 0) pe_str (nomark _))
        (pss_one (ps_ret pe_int))
        pss_nil)
      (pss_one (ps_ret (pe_callTy call_int1 (by rfl) M.n_int boot_int (pa_cons (pe_cmpR (k_op_inK K hu) (pv 0) (pe_lst (pa_cons pe_str (pa_cons pe_str (pa_cons pe_str (pa_cons pe_str (pa_cons pe_str (pa_cons pe_str pa_nil))))))) (by rfl)) pa_nil)))))) (fun Ts T h => ?hbd)
  case hlen =>
    obtain ⟨a, rfl, rfl⟩ := h
    rfl
  case hbd =>
    obtain ⟨a, rfl, rfl⟩ := h
    intro σ H s D q
    have wl : ∀ (Γ : Gam) (x : Str), Ev (tC (.str x)) Γ (tyD K (.text x)) := fun _ _ => ev_s
    by_cases hsw : actS a = "swap"
    · have : ∃ u v, a = .swap u v := by
        cases a <;> first | exact ⟨_, _, rfl⟩ | (exfalso; revert hsw; simp only [actS]; decide +kernel)
      obtain ⟨u, v, rfl⟩ := this
      exact q_yes s (et_str (ev_var rfl) (okAct _) (decide_eq_true hsw)) fun H1 e1 s1 => r_end e1 s1 ev_i q
    · have hmem : decide (NestedKey.text (actS a) ∈ [NestedKey.text "write", .text "add", .text "insert", .text "remove", .text "has", .text "put"]) = decide (a.args.length = 1) := by
        cases a <;> first | exact absurd rfl hsw | exact (decide_eq_true (by simp only [actS]; decide +kernel)).trans rfl | exact (decide_eq_false (by simp only [actS]; decide +kernel)).trans rfl
      refine q_no s (et_str (ev_var rfl) (okAct _) (decide_eq_false hsw)) fun H1 e1 s1 => r_end e1 s1 (ev_is (ev_intB (K := K) (ev_B (ev_inLst (ds := [NestedKey.text "write", .text "add", .text "insert", .text "remove", .text "has", .text "put"]) (ev_var rfl) (ea_cons (wl _ _) (ea_cons (wl _ _) (ea_cons (wl _ _) (ea_cons (wl _ _) (ea_cons (wl _ _) (ea_cons (wl _ _) ea_nil)))))) (by simp) (Nat.zero_le _)) hmem)) ?_) q
      cases a <;> first | exact absurd rfl hsw | rfl
def PLFirst (K : PySem.W.Frag) : List Ty → Ty → Prop := fun Ts T => ∃ k : OSx.Kind, Ts = [tyS K (kindS k)] ∧ T = tyD K (stD (init1 k))
theorem sc__law_first : FnScope ["_law_kind"] ["_law_kind"] (defScope (top 37)) := C8.fnScope_by (by decide +kernel)
theorem cal__law_first {P : Program} {w : World} {K : PySem.W.Frag} {mg : Str → Option Value} {base : Heap} {f : Addr} {fd : FuncData} {cdv : Value} (F : FunC K mg "_law_first" (top 37) f fd cdv) (M : Nm mg)   : Cal P w K mg base (0 + 1) "_law_first" (Pm [] (PLFirst K)) := by
  have b := F.binds (ps := ["_law_kind"]) fun _ _ _ _ _ _ us hl => match us, hl with | [_], _ => rfl
  have kds := F.kds
  have S := sc__law_first
  refine cal1 F b sc__law_first (fun Ts T h => ?hlen) (fun A outer s H E hr => have hu := hr.units; have hu1 := hu_of hr;
      (pss_cons (ps_if (PW.pt (pw_or (pt_cmpR (k_op_eqD K hu) (pv 0) pe_str (nomark _)) (pw_or1 (pt_cmpR (k_op_eqD K hu) (pv 0) pe_str (nomark _)))))
        (pss_one (ps_ret pe_int))
        pss_nil)
      (pss_one (ps_ret (pe_tup pa_nil))))) (fun Ts T h => ?hbd)
  case hlen =>
    obtain ⟨k, rfl, rfl⟩ := h
    rfl
  case hbd =>
    obtain ⟨k, rfl, rfl⟩ := h
    intro σ H s D q
    refine q_when (b := decide (kindS k = "register") || decide (kindS k = "counter")) s (et_or (et_str (ev_var rfl) (okKind _) rfl) fun _ => et_str (ev_var rfl) (okKind _) rfl) (fun hb H1 e1 s1 => ?_) (fun hb H1 e1 s1 => ?_)
    · cases k with
      | reg => exact r_end e1 s1 ev_i q
      | cnt => exact r_end e1 s1 ev_i q
      | set => exact absurd hb (by simp only [kindS]; decide +kernel)
      | que => exact absurd hb (by simp only [kindS]; decide +kernel)
    · cases k with
      | reg => exact absurd hb (by simp only [kindS]; decide +kernel)
      | cnt => exact absurd hb (by simp only [kindS]; decide +kernel)
      | set => exact r_end e1 s1 (ev_tup (ds := []) ea_nil (by simp)) q
      | que => exact r_end e1 s1 (ev_tup (ds := []) ea_nil (by simp)) q
def PArgs (K : PySem.W.Frag) : List Ty → Ty → Prop := fun Ts T => ∃ (a : OSx.Act) (x y : Int), a.args.length ≤ 2 ∧ Ts = [tyS K (actS a), tyI K x, tyI K y] ∧ T = tyT K (nums (([x.fmod 4, y.fmod 4] : List Int).take a.args.length))
theorem sc__law_args : FnScope ["_law_word", "_law_first_here", "_law_second"] ["_law_word", "_law_first_here", "_law_second"] (defScope (top 40)) := C8.fnScope_by (by decide +kernel)
theorem cal__law_args {P : Program} {w : World} {K : PySem.W.Frag} {mg : Str → Option Value} {base : Heap} {f : Addr} {fd : FuncData} {cdv : Value} (F : FunC K mg "_law_args" (top 40) f fd cdv) (M : Nm mg)  (c__law_many : Cal P w K mg base 1 "_law_many" (Pm [] (PMany K))) : Cal P w K mg base (1 + 1) "_law_args" (Pm [] (PArgs K)) := by
  have b := F.binds (ps := ["_law_word", "_law_first_here", "_law_second"]) fun _ _ _ _ _ _ us hl => match us, hl with | [_, _, _], _ => rfl
  have kds := F.kds
  have S := sc__law_args
  refine cal1 F b sc__law_args (fun Ts T h => ?hlen) (fun A outer s H E hr => have hu := hr.units; have hu1 := hu_of hr;
      (pss_one (ps_ret (pe_callTy (k_cr_tupS K) (by rfl) M.n_tuple boot_tuple (pa_cons (pe_slice (k_sl_list K) (pe_lst (pa_cons (pe_op op_modN (pv 1) pe_int) (pa_cons (pe_op op_modN (pv 2) pe_int) pa_nil))) po_none (po_some (pe_c c__law_many hr (by first | decide | omega) (by rfl) (pa_cons (pv 0) pa_nil)))) pa_nil))))) (fun Ts T h => ?hbd)
  case hlen =>
    obtain ⟨a, x, y, _, rfl, rfl⟩ := h
    rfl
  case hbd =>
    obtain ⟨a, x, y, ha, rfl, rfl⟩ := h
    intro σ H s D q
    refine s_ret s (ev_D (ev_tupNew (en_slNew (en_lst (ds := [.num (x.fmod 4), .num (y.fmod 4)]) (ea_cons (ev_op (ev_var rfl) ev_i (rv_mod (by decide))) (ea_cons (ev_op (ev_var rfl) ev_i (rv_mod (by decide))) ea_nil)) (by simp)) (ev_call (tb := []) (F := PMany K) (ea_cons (ev_var rfl) ea_nil) ⟨a, rfl, rfl⟩ (by simp)) (by simpa using ha))) ?_) q
    rw [show ([NestedKey.num (x.fmod 4), .num (y.fmod 4)] : List NestedKey) = nums [x.fmod 4, y.fmod 4] from rfl, nums, ← List.map_take]

/-! ### _law_step -/
def Shp (n : Nat) : OSx.Kind → St1 → Prop
  | .reg, s | .cnt, s => ∃ i, s = .n i
  | .set, s | .que, s => ∃ xs, s = .l xs ∧ xs.length ≤ n
theorem shp_init (k : OSx.Kind) : Shp 0 k (init1 k) := by
  cases k
  · exact ⟨0, rfl⟩
  · exact ⟨0, rfl⟩
  · exact ⟨[], rfl, Nat.le_refl _⟩
  · exact ⟨[], rfl, Nat.le_refl _⟩
theorem Shp.mono {n m : Nat} (h : n ≤ m) {k : OSx.Kind} {s : St1} (g : Shp n k s) : Shp m k s := by
  cases k
  · exact g
  · exact g
  · obtain ⟨xs, e, l⟩ := g; exact ⟨xs, e, Nat.le_trans l h⟩
  · obtain ⟨xs, e, l⟩ := g; exact ⟨xs, e, Nat.le_trans l h⟩
def PLStep (K : PySem.W.Frag) : List Ty → Ty → Prop := fun Ts T => ∃ (k : Str) (a : OSx.Act) (s : St1) (n : Nat), Shp n a.kind s ∧ n ≤ 1000 ∧ Ts = [tyS K k, tyD K (stD s), tyS K (actS a), tyD K (argsD a)] ∧ T = tyE (fun q : St1 × Res => Shp (n + 1) a.kind q.1) fun q => tyT K [stD q.1, resD q.2]
section
variable {K : PySem.W.Frag} {Γ : Gam} {ta tb te : TE} {b c : Bool} {a : OSx.Act} {i : Nat} {x y : Str}
theorem ev_neB (ha : Ev ta Γ (tyB b)) (hb : Ev tb Γ (tyB c)) : Ev (tOp rNe ta tb) Γ (tyB (b != c)) := ev_op ha hb fun x y H r1 r2 Q q => by
  obtain rfl : x = .bl b := r1
  obtain rfl : y = .bl c := r2
  refine ⟨rfl, q _ H (ExtS.refl H) ?_⟩
  show V.bl _ = V.bl _
  congr 1
  cases b <;> cases c <;> rfl
theorem et_act2 (hi : Γ.l[i]? = some (some (tyS K (actS a)))) (h : (decide (actS a = x) || decide (actS a = y)) = b) (hx : PyData.strOk x = true := by decide +kernel) (hy : PyData.strOk y = true := by decide +kernel) : EvT (tOr (tTest (tOp (rEqD K) (tVar i) (tC (.str x)))) (tTest (tOp (rEqD K) (tVar i) (tC (.str y))))) Γ b :=
  et_is (et_or (et_str (ev_var hi) (okAct a) rfl hx) fun _ => et_str (ev_var hi) (okAct a) rfl hy) h
theorem et_act2n (hi : Γ.l[i]? = some (some (tyS K (actS a)))) (h1 : actS a ≠ x) (h2 : actS a ≠ y) (hx : PyData.strOk x = true := by decide +kernel) (hy : PyData.strOk y = true := by decide +kernel) : EvT (tOr (tTest (tOp (rEqD K) (tVar i) (tC (.str x)))) (tTest (tOp (rEqD K) (tVar i) (tC (.str y))))) Γ false :=
  et_act2 hi (by rw [decide_eq_false h1, decide_eq_false h2]; rfl) hx hy
theorem ev_twoE {α : Type} {PP : α → Prop} {g : α → D} {e : D} (ha : Ev ta Γ (tyE PP fun x => tyD K (g x))) (hb : Ev tb Γ (tyD K e)) : Ev (tTup (tCons ta (tCons tb tNil))) Γ (tyE PP fun x => tyT K [g x, e]) := fun σ H s Q q =>
  ha σ H s _ fun v H1 e1 ⟨x, hx, r1⟩ => hb σ H1 (s.imm e1.toImm) _ fun u H2 e2 r2 => ⟨by rw [sizeLine_eq]; simp, fun p hp => q _ _ ((e1.trans e2).trans (Ext.new hp)) ⟨x, hx, p, _, rfl, .inl (.inl upd_same), v, _, rfl, (r1.imm e2.toImm _ _).imm (Ext.new hp).toImm _ _, u, _, rfl, r2.imm (Ext.new hp).toImm _ _, rfl⟩⟩
/-- sorted(..) of a new list of ints -/
theorem ev_tupSortN {ns : List Int} (h : EvN K te Γ (nums ns)) : Ev (tCB (rTupS K) (tCons (tCB (rSortedI K) (tCons te tNil)) tNil)) Γ (tyE (fun ms : List Int => ms.length = ns.length) fun ms => tyT K (nums ms)) := fun σ H s Q q => h σ H s _ fun p xs H1 hp e a t => by
  obtain rfl := tds_nums t
  refine ⟨p, ns, rfl, .inl (.inl a), fun ns' p2 hpm _ hf => ⟨p2, _, rfl, .inl ⟨.inl (.inl upd_same), fun l hl => ?_⟩⟩⟩
  exact q _ _ ((e.trans (Ext.new hf)).trans (Ext.new hl)) ⟨ns', hpm.length_eq, l, _, rfl, .inl (.inl upd_same), tds_of_nums _⟩
end
theorem sc__law_step : FnScope ["_law_kind", "_law_state", "_law_word", "_law_args_here", "_law_answer", "_law_v"] ["_law_kind", "_law_state", "_law_word", "_law_args_here"] (defScope (top 38)) := C8.fnScope_by (by decide +kernel)
theorem cal__law_step {P : Program} {w : World} {K : PySem.W.Frag} {mg : Str → Option Value} {base : Heap} {f : Addr} {fd : FuncData} {cdv : Value} (F : FunC K mg "_law_step" (top 38) f fd cdv) (M : Nm mg)   : Cal P w K mg base (0 + 1) "_law_step" (Pm [] (PLStep K)) := by
  have b := F.binds (ps := ["_law_kind", "_law_state", "_law_word", "_law_args_here"]) fun _ _ _ _ _ _ us hl => match us, hl with | [_, _, _, _], _ => rfl
  have kds := F.kds
  have S := sc__law_step
  refine cal1 F b sc__law_step (fun Ts T h => ?hlen) (fun A outer s H E hr => have hu := hr.units; have hu1 := hu_of hr;
      (pss_cons (ps_if (pt_cmpR (k_op_eqD K hu) (pv 2) pe_str (nomark _))
        (pss_one (ps_ret (pe_tup (pa_cons (pe_ix (k_ix_tup K) (pv 3) pe_int (fun _ _ => rfl)) (pa_cons pe_str pa_nil)))))
        pss_nil)
      (pss_cons (ps_if (PW.pt (pw_or (pt_cmpR (k_op_eqD K hu) (pv 2) pe_str (nomark _)) (pw_or1 (pt_cmpR (k_op_eqD K hu) (pv 2) pe_str (nomark _)))))
        (pss_one (ps_ret (pe_tup (pa_cons (pv 1) (pa_cons (pv 1) pa_nil)))))
        pss_nil)
      (pss_cons (ps_if (pt_cmpR (k_op_eqD K hu) (pv 2) pe_str (nomark _))
        (pss_cons (ps_if (pt_cmpR (k_op_eqD K hu) (pv 1) (pe_ix (k_ix_tup K) (pv 3) pe_int (fun _ _ => rfl)) (nomark _))
          (pss_one (ps_ret (pe_tup (pa_cons (pe_ix (k_ix_tup K) (pv 3) pe_int (fun _ _ => rfl)) (pa_cons pe_str pa_nil)))))
          pss_nil)
        (pss_one (ps_ret (pe_tup (pa_cons (pv 1) (pa_cons pe_str pa_nil))))))
        pss_nil)
      (pss_cons (ps_if (pt_cmpR (k_op_eqD K hu) (pv 2) pe_str (nomark _))
        (pss_one (ps_ret (pe_tup (pa_cons (pe_op op_add (pv 1) (pe_ix (k_ix_tup K) (pv 3) pe_int (fun _ _ => rfl))) (pa_cons pe_str pa_nil)))))
        pss_nil)
      (pss_cons (ps_if (pt_cmpR (k_op_eqD K hu) (pv 2) pe_str (nomark _))
        (pss_one (ps_ret (pe_tup (pa_cons (pe_op (k_op_catA K) (pv 1) (pe_tup (pa_cons (pe_ix (k_ix_tup K) (pv 3) pe_int (fun _ _ => rfl)) pa_nil))) (pa_cons pe_str pa_nil)))))
        pss_nil)
      (pss_cons (ps_if (pt_cmpR (k_op_eqD K hu) (pv 2) pe_str (nomark _))
        (pss_cons (ps_if (pt_cmpR (k_op_eqD K hu) (pe_callB (k_cr_lenS K) (by rfl) M.n_len boot_len (pa_cons (pv 1) pa_nil)) pe_int (nomark _))
          (pss_one (ps_ret (pe_tup (pa_cons (pv 1) (pa_cons pe_str pa_nil)))))
          pss_nil)
        (pss_one (ps_ret (pe_tup (pa_cons (pe_slice (k_sl_tupA K) (pv 1) (po_some pe_int) po_none) (pa_cons (pe_ix (k_ix_tup K) (pv 1) pe_int (fun _ _ => rfl)) pa_nil))))))
        pss_nil)
      (pss_cons (ps_set (i := 4) S.nd rfl (by first | exact .inl rfl | exact .inr rfl) (pe_ix (k_ix_list K) (pe_lst (pa_cons pe_str (pa_cons pe_str pa_nil))) (pe_callTy call_int1 (by rfl) M.n_int boot_int (pa_cons (pe_cmpR op_ne (pe_cmpR (k_op_inK K hu) (pe_ix (k_ix_tup K) (pv 3) pe_int (fun _ _ => rfl)) (pv 1) (by rfl)) (pe_cmpR (k_op_eqD K hu) (pv 2) pe_str (nomark _)) (nomark _)) pa_nil)) (fun _ _ => rfl)))
      (pss_cons (ps_if (pt_cmpR (k_op_eqD K hu) (pv 2) pe_str (nomark _))
        (pss_one (ps_ret (pe_tup (pa_cons (pe_callTy (k_cr_tupS K) (by rfl) M.n_tuple boot_tuple (pa_cons (pe_callB (k_cr_sortedI K) (by rfl) M.n_sorted boot_sorted (pa_cons (pe_op op_cat (pe_lc (own := [("_law_v", 5)]) rfl S.nd (k_pi_tup K (pv 1)) (blkOk_by (N := ["_law_kind", "_law_state", "_law_word", "_law_args_here", "_law_answer", "_law_v"]) (sc := defScope (top 38)) (by decide +kernel)) (fun s H C cl fp => (pg_name (i := 5) S.nd rfl (by first | exact .inl rfl | exact .inr rfl))) (fun s H C cl fp => (pts_one (pt_cmpR (k_op_neD K hu) (pv 5) (pe_ix (k_ix_tup K) (pv 3) pe_int (fun _ _ => rfl)) (nomark _)))) (fun s H C cl fp => (pv 5))) (pe_lst (pa_cons (pe_ix (k_ix_tup K) (pv 3) pe_int (fun _ _ => rfl)) pa_nil))) pa_nil)) pa_nil)) (pa_cons (pv 4) pa_nil)))))
        pss_nil)
      (pss_cons (ps_if (pt_cmpR (k_op_eqD K hu) (pv 2) pe_str (nomark _))
        (pss_one (ps_ret (pe_tup (pa_cons (pe_callTy (k_cr_tupS K) (by rfl) M.n_tuple boot_tuple (pa_cons (pe_lc (own := [("_law_v", 5)]) rfl S.nd (k_pi_tup K (pv 1)) (blkOk_by (N := ["_law_kind", "_law_state", "_law_word", "_law_args_here", "_law_answer", "_law_v"]) (sc := defScope (top 38)) (by decide +kernel)) (fun s H C cl fp => (pg_name (i := 5) S.nd rfl (by first | exact .inl rfl | exact .inr rfl))) (fun s H C cl fp => (pts_one (pt_cmpR (k_op_neD K hu) (pv 5) (pe_ix (k_ix_tup K) (pv 3) pe_int (fun _ _ => rfl)) (nomark _)))) (fun s H C cl fp => (pv 5))) pa_nil)) (pa_cons (pv 4) pa_nil)))))
        pss_nil)
      (pss_one (ps_ret (pe_tup (pa_cons (pv 1) (pa_cons (pv 4) pa_nil))))))))))))))) (fun Ts T h => ?hbd)
  case hlen =>
    obtain ⟨k, a, s, n, _, _, rfl, rfl⟩ := h
    rfl
  case hbd =>
    obtain ⟨k0, a, st, n, hsh, hn, rfl, rfl⟩ := h
    intro σ H s D q
    have eE : ∀ {te : TE} {Γ : Gam} (p : St1 × Res), Shp (n + 1) a.kind p.1 → Ev te Γ (tyT K [stD p.1, resD p.2]) → Ev te Γ (tyE (fun q : St1 × Res => Shp (n + 1) a.kind q.1) fun q => tyT K [stD q.1, resD q.2]) := fun p hp h => ev_imp h fun v H r => ⟨p, hp, r⟩
    cases ha : a with
    | write v =>
      rw [ha] at s
      exact q_yes s (et_act rfl) fun H1 e1 s1 => r_end e1 s1 (eE (.n v, .ok) (by rw [ha]; exact ⟨v, rfl⟩) (ev_two (ev_ix (ev_var rfl) rfl) ev_s)) q
    | read =>
      rw [ha] at s hsh
      obtain ⟨i, rfl⟩ := hsh
      exact q_no s (et_act rfl) fun H1 e1 s1 => q_yes s1 (et_act2 rfl (by simp only [actS]; decide +kernel)) fun H2 e2 s2 => r_end (e1.trans e2) s2 (eE (.n i, .int i) (by rw [ha]; exact ⟨i, rfl⟩) (ev_two (ev_var rfl) (ev_var rfl))) q
    | get =>
      rw [ha] at s hsh
      obtain ⟨i, rfl⟩ := hsh
      exact q_no s (et_act rfl) fun H1 e1 s1 => q_yes s1 (et_act2 rfl (by simp only [actS]; decide +kernel)) fun H2 e2 s2 => r_end (e1.trans e2) s2 (eE (.n i, .int i) (by rw [ha]; exact ⟨i, rfl⟩) (ev_two (ev_var rfl) (ev_var rfl))) q
    | swap u v =>
      rw [ha] at s hsh
      obtain ⟨i, rfl⟩ := hsh
      refine q_no s (et_act rfl) fun H1 e1 s1 => q_no s1 (et_act2n rfl (by simp only [actS]; decide +kernel) (by simp only [actS]; decide +kernel)) fun H2 e2 s2 => q_yes s2 (et_act rfl) fun H3 e3 s3 => ?_
      have e13 := (e1.trans e2).trans e3
      refine q_when s3 (et_eq (ev_var rfl) (ev_ix (ev_var rfl) rfl) Sh8.num Sh8.num) (fun hb H4 e4 s4 => ?_) (fun hb H4 e4 s4 => ?_)
      · exact r_end (e13.trans e4) s4 (eE (.n v, .yes) (by rw [ha]; exact ⟨v, rfl⟩) (ev_two (ev_ix (ev_var rfl) rfl) ev_s)) q
      · exact r_end (e13.trans e4) s4 (eE (.n i, .no) (by rw [ha]; exact ⟨i, rfl⟩) (ev_two (ev_var rfl) ev_s)) q
    | add v =>
      rw [ha] at s hsh
      obtain ⟨i, rfl⟩ := hsh
      exact q_no s (et_act rfl) fun H1 e1 s1 => q_no s1 (et_act2n rfl (by simp only [actS]; decide +kernel) (by simp only [actS]; decide +kernel)) fun H2 e2 s2 => q_no s2 (et_act rfl) fun H3 e3 s3 => q_yes s3 (et_act rfl) fun H4 e4 s4 =>
        r_end (((e1.trans e2).trans e3).trans e4) s4 (eE (.n (i + v), .ok) (by rw [ha]; exact ⟨_, rfl⟩) (ev_two (ev_op (ev_var rfl) (ev_ix (ev_var rfl) rfl) rv_I0) ev_s)) q
    | put v =>
      rw [ha] at s hsh
      obtain ⟨xs, rfl, hl⟩ := hsh
      refine q_no s (et_act rfl) fun H1 e1 s1 => q_no s1 (et_act2n rfl (by simp only [actS]; decide +kernel) (by simp only [actS]; decide +kernel)) fun H2 e2 s2 => q_no s2 (et_act rfl) fun H3 e3 s3 => q_no s3 (et_act rfl) fun H4 e4 s4 => q_yes s4 (et_act rfl) fun H5 e5 s5 =>
        r_end ((((e1.trans e2).trans e3).trans e4).trans e5) s5 (eE (.l (xs ++ [v]), .ok) (by rw [ha]; exact ⟨_, rfl, by simp; omega⟩) (ev_two (ev_D (ev_op (ev_var rfl) (ev_tup (ds := [.num v]) (ea_cons (ev_ix (ev_var rfl) rfl) ea_nil) (by simp)) (rv_cat (ds := nums xs) (es := [.num v]) (by simp; omega))) ?_) ev_s)) q
      show NestedKey.tup (nums xs ++ [NestedKey.num v]) = NestedKey.tup (nums (xs ++ [v]))
      rw [nums_snoc]
    | take =>
      rw [ha] at s hsh
      obtain ⟨xs, rfl, hl⟩ := hsh
      refine q_no s (et_act rfl) fun H1 e1 s1 => q_no s1 (et_act2n rfl (by simp only [actS]; decide +kernel) (by simp only [actS]; decide +kernel)) fun H2 e2 s2 => q_no s2 (et_act rfl) fun H3 e3 s3 => q_no s3 (et_act rfl) fun H4 e4 s4 => q_no s4 (et_act rfl) fun H5 e5 s5 => q_yes s5 (et_act rfl) fun H6 e6 s6 => ?_
      have e16 := ((((e1.trans e2).trans e3).trans e4).trans e5).trans e6
      have hlen : ∀ Γ : Gam, Γ.l[1]? = some (some (tyD K (stD (St1.l xs)))) → Ev (tCB (rLenS K) (tCons (tVar 1) tNil)) Γ (tyI K ((nums xs).length : Int)) := fun Γ h => ev_cb (ea_cons (ev_var h) ea_nil) rc_lenT
      cases xs with
      | nil => exact q_yes s6 (et_is (et_eq (hlen _ rfl) ev_i Sh8.num Sh8.num) (by simp)) fun H7 e7 s7 => r_end (e16.trans e7) s7 (eE (.l [], .empty) (by rw [ha]; exact ⟨_, rfl, by simp⟩) (ev_two (ev_var rfl) ev_s)) q
      | cons x xs =>
        refine q_no s6 (et_is (et_eq (hlen _ rfl) ev_i Sh8.num Sh8.num) (by simp; omega)) fun H7 e7 s7 => ?_
        refine r_end (e16.trans e7) s7 (eE (.l xs, .int x) (by rw [ha]; exact ⟨_, rfl, by simp at hl; omega⟩) (ev_two (ev_D (ev_sl (ds := nums (x :: xs)) (ev_var rfl) (eo_some (K := K) ev_i) eo_none) ?_) (ev_ix (ds := nums (x :: xs)) (d := .num x) (ev_var rfl) (at_nat (k := 0) rfl)))) q
        rw [show cutD (nums (x :: xs)) (some (1 : Int)) none = nums xs from (cut_from (k := 1) (by simp)).trans rfl] <;> rfl
    | _ =>
      all_goals
        have hk : a.kind = .set := by rw [ha]; rfl
        obtain ⟨v, hv⟩ : ∃ v, a.args = [v] := by rw [ha]; exact ⟨_, rfl⟩
        have hd : argsD a = .tup [.num v] := by unfold argsD; rw [hv]; rfl
        rw [hk] at hsh
        obtain ⟨xs, rfl, hl⟩ := hsh
        have hxl : (nums xs).length = xs.length := by simp
        rw [hd] at s
        have n1 : actS a ≠ "write" := by rw [ha]; simp only [actS]; decide +kernel
        have n2 : actS a ≠ "read" := by rw [ha]; simp only [actS]; decide +kernel
        have n3 : actS a ≠ "get" := by rw [ha]; simp only [actS]; decide +kernel
        have n4 : actS a ≠ "swap" := by rw [ha]; simp only [actS]; decide +kernel
        have n5 : actS a ≠ "add" := by rw [ha]; simp only [actS]; decide +kernel
        have n6 : actS a ≠ "put" := by rw [ha]; simp only [actS]; decide +kernel
        have n7 : actS a ≠ "take" := by rw [ha]; simp only [actS]; decide +kernel
        refine q_no s (et_act rfl (decide_eq_false n1)) fun H1 e1 s1 => q_no s1 (et_act2n rfl n2 n3) fun H2 e2 s2 => q_no s2 (et_act rfl (decide_eq_false n4)) fun H3 e3 s3 => q_no s3 (et_act rfl (decide_eq_false n5)) fun H4 e4 s4 => q_no s4 (et_act rfl (decide_eq_false n6)) fun H5 e5 s5 => q_no s5 (et_act rfl (decide_eq_false n7)) fun H6 e6 s6 => ?_
        have e16 := ((((e1.trans e2).trans e3).trans e4).trans e5).trans e6
        refine q_set (T := tyD K (resD (yn (xs.contains v != decide (actS a = "insert"))))) s6 (ev_ixNew (ds := [NestedKey.text "no", .text "yes"]) (en_lst (ea_cons (ev_s (K := K)) (ea_cons (ev_s (K := K)) ea_nil)) (by simp)) (ev_intB (ev_neB (ev_B (ev_op (ev_ix (d := .num v) (ev_var rfl) rfl) (ev_var rfl) (rv_inT (ds := nums xs) (Nat.zero_le _))) mem_numsB) (ev_str (ev_var rfl) (okAct a) rfl))) ?_) fun σ7 H7 e7 s7 => ?_
        · cases (xs.contains v != decide (actS a = "insert")) <;> rfl
        · have e17 := e16.trans e7
          have hlc := en_lc (K := K) (Γ1 := fun i => ⟨[], [some (tyS K k0), some (tyD K (stD (.l xs))), some (tyS K (actS a)), some (tyT K [.num v]), some (tyD K (resD (yn (xs.contains v != decide (actS a = "insert"))))), some (tyI K (xs.getD i 0))]⟩) (Γ := ⟨[], [some (tyS K k0), some (tyD K (stD (.l xs))), some (tyS K (actS a)), some (tyT K [.num v]), some (tyD K (resD (yn (xs.contains v != decide (actS a = "insert"))))), none]⟩) (te := tVar 5) (vs := [5]) (g := gName 5) (t := tTest (tOp (rNeD K) (tVar 5) (tOp (rIxT K) (tVar 3) (tC (.int 0)))))
              (fun i => decide (xs.getD i 0 ≠ v)) (fun i => .num (xs.getD i 0)) (iv_tup (ds := nums xs) (ev_var (i := 1) rfl)) (by rw [hxl]; omega) (fun i hi => by rw [hxl] at hi; rw [nums_getD xs i hi]; exact gt_name (by simp)) (fun i hi => et_is (et_ne (d := .num (xs.getD i 0)) (e := .num v) (ev_var rfl) (ev_ix (d := .num v) (ev_var rfl) rfl) Sh8.num Sh8.num) (by rw [Bool.eq_iff_iff]; simp)) (fun i hi _ => ev_var rfl)
          rw [hxl, gvn_filter xs fun x => decide (x ≠ v)] at hlc
          have hfl : (xs.filter fun x => decide (x ≠ v)).length ≤ xs.length := List.length_filter_le _ _
          refine q_when (b := decide (actS a = "insert")) s7 (et_act rfl rfl) (fun hb H8 e8 s8 => ?_) (fun hb H8 e8 s8 => ?_)
          · refine r_end (e17.trans e8) s8 (ev_imp (ev_twoE (ev_tupSortN (ns := (xs.filter fun x => decide (x ≠ v)) ++ [v]) (nums_snoc (xs.filter fun x => decide (x ≠ v)) v ▸ en_cat hlc (en_lst (ds := [.num v]) (ea_cons (ev_ix (ev_var rfl) rfl) ea_nil) (by simp)) (by simp at hfl ⊢; omega))) (ev_var rfl)) fun w H r => ?_) q
            obtain ⟨ms, hms, r⟩ := r
            exact ⟨(.l ms, yn _), by rw [hk]; exact ⟨ms, rfl, by rw [hms]; simp at hfl ⊢; omega⟩, r⟩
          · refine q_when (b := decide (actS a = "remove")) s8 (et_act rfl rfl) (fun hb H9 e9 s9 => ?_) (fun hb H9 e9 s9 => ?_)
            · exact r_end ((e17.trans e8).trans e9) s9 (eE (.l (xs.filter fun x => decide (x ≠ v)), yn _) (by rw [hk]; exact ⟨_, rfl, by omega⟩) (ev_two (ev_tupNew hlc) (ev_var rfl))) q
            · exact r_end ((e17.trans e8).trans e9) s9 (eE (.l xs, yn _) (by rw [hk]; exact ⟨_, rfl, by omega⟩) (ev_two (ev_var rfl) (ev_var rfl))) q
end OS

end

section
set_option maxHeartbeats 4000000
namespace OS
open PySem PySem.Spec PyProof.Rows L2 GxR OSx

/-! ### _law_objects -/
def k4 (d : Nat) : OSx.Kind := match d with | 0 => .reg | 1 => .cnt | 2 => .set | _ => .que
theorem objsD_snoc (ks : List OSx.Kind) (k : OSx.Kind) : objsD (ks ++ [k]) = objsD ks ++ [.tup [.text (objS ks.length), .text (kindS k)]] := by
  unfold objsD
  rw [List.zipIdx_append, List.map_append]
  simp
def PObjs (K : PySem.W.Frag) : List Ty → Ty → Prop := fun Ts T => ∃ (ns : List Int) (k : Nat), Ts = [tyL K (nums ns), tyI K (k : Int)] ∧ T = tyE (fun ks : List OSx.Kind => 1 ≤ ks.length ∧ ks.length ≤ 3) fun ks => tyL K (objsD ks)
theorem sz_ok : ∀ z ∈ ([4, 4, 4, 5] : List Int), 0 < z ∧ z < 1000 := by decide
theorem sc__law_objects : FnScope ["_law_script", "_law_k", "_law_digits", "_law_kinds", "_law_made", "_law_j"] ["_law_script", "_law_k"] (defScope (top 39)) := C8.fnScope_by (by decide +kernel)
theorem cal__law_objects {P : Program} {w : World} {K : PySem.W.Frag} {mg : Str → Option Value} {base : Heap} {f : Addr} {fd : FuncData} {cdv : Value} (F : FunC K mg "_law_objects" (top 39) f fd cdv) (M : Nm mg)  (c__law_draw : Cal P w K mg base 2 "_law_draw" (Pm [] (PDraw K))) : Cal P w K mg base (2 + 1) "_law_objects" (Pm [] (PObjs K)) := by
  have b := F.binds (ps := ["_law_script", "_law_k"]) fun _ _ _ _ _ _ us hl => match us, hl with | [_, _], _ => rfl
  have kds := F.kds
  have S := sc__law_objects
  refine cal1 F b sc__law_objects (fun Ts T h => ?hlen) (fun A outer s H E hr => have hu := hr.units; have hu1 := hu_of hr;
      (pss_cons (ps_set (i := 2) S.nd rfl (by first | exact .inl rfl | exact .inr rfl) (pe_c c__law_draw hr (by first | decide | omega) (by rfl) (pa_cons (pv 0) (pa_cons (pv 1) (pa_cons (pe_frz (pe_lst (pa_cons pe_int (pa_cons pe_int (pa_cons pe_int (pa_cons pe_int pa_nil)))))) pa_nil)))))
      (pss_cons (ps_set (i := 3) S.nd rfl (by first | exact .inl rfl | exact .inr rfl) (pe_frz (pe_lst (pa_cons pe_str (pa_cons pe_str (pa_cons pe_str (pa_cons pe_str pa_nil)))))))
      (pss_cons (ps_set (i := 4) S.nd rfl (by first | exact .inl rfl | exact .inr rfl) (pe_lst pa_nil))
      (pss_cons (ps_for PassesOwn.never rfl (pi_range1 (by rfl) M.n_range (pa_cons (pe_ix (k_ix_list K) (pe_lst (pa_cons pe_int (pa_cons pe_int (pa_cons pe_int (pa_cons pe_int (pa_cons pe_int pa_nil)))))) (pe_ix (k_ix_list K) (pv 2) pe_int (fun _ _ => rfl)) (fun _ _ => rfl)) pa_nil)) (pg_name (i := 5) S.nd rfl (by first | exact .inl rfl | exact .inr rfl))
        (pss_one (ps_expr (k_append K (pv 4) (pa_cons (pe_tup (pa_cons (pe_ix (k_ix_list K) (pe_lst (pa_cons pe_str (pa_cons pe_str (pa_cons pe_str pa_nil)))) (pv 5) (fun _ _ => rfl)) (pa_cons (pe_ix (k_ix_list K) (pv 3) (pe_ix (k_ix_list K) (pv 2) (pv 5) (fun _ _ => rfl)) (fun _ _ => rfl)) pa_nil))) pa_nil)))))
      (pss_one (ps_ret (pe_frz (pv 4))))))))) (fun Ts T h => ?hbd)
  case hlen =>
    obtain ⟨ns, k, rfl, rfl⟩ := h
    rfl
  case hbd =>
    obtain ⟨ns, k, rfl, rfl⟩ := h
    intro σ H s D q
    refine q_set s (ev_call (tb := []) (F := PDraw K) (Ts := [tyL K (nums ns), tyI K (k : Int), tyL K (nums [4, 4, 4, 5])]) (ea_cons (ev_var rfl) (ea_cons (ev_var rfl) (ea_cons (ev_frz (en_lst (ds := nums [4, 4, 4, 5]) (ea_cons (ev_i (K := K)) (ea_cons (ev_i (K := K)) (ea_cons (ev_i (K := K)) (ea_cons (ev_i (K := K)) ea_nil)))) (by simp))) ea_nil))) ⟨ns, k, [4, 4, 4, 5], sz_ok, by simp, rfl, rfl⟩ (by simp)) fun σ1 H1 e1 s1 => ?_
    obtain ⟨dg, hdg, s1⟩ := s1.open (i := 2) rfl
    refine q_set s1 (ev_frz (en_lst (ds := [NestedKey.text "register", .text "counter", .text "set", .text "queue"]) (ea_cons (ev_s (K := K)) (ea_cons (ev_s (K := K)) (ea_cons (ev_s (K := K)) (ea_cons (ev_s (K := K)) ea_nil)))) (by simp))) fun σ2 H2 e2 s2 => ?_
    refine p_nil K s2 fun p σ3 H3 hp e3 L3 s3 => ?_
    have hp0 : H p = none := e1.dom p (e2.dom p hp)
    obtain ⟨d3, hd3, hd3'⟩ := hdg.at (i := 3) (z := 5) rfl
    obtain ⟨n, hn, hn1, hn3⟩ : ∃ n : Nat, (nums [1, 1, 2, 2, 3])[d3]? = some (.num (n : Int)) ∧ 1 ≤ n ∧ n ≤ 3 := by
      have : d3 < 5 := by omega
      match d3, this with
      | 0, _ => exact ⟨1, rfl, by decide, by decide⟩
      | 1, _ => exact ⟨1, rfl, by decide, by decide⟩
      | 2, _ => exact ⟨2, rfl, by decide, by decide⟩
      | 3, _ => exact ⟨2, rfl, by decide, by decide⟩
      | 4, _ => exact ⟨3, rfl, by decide, by decide⟩
    refine q_for s3 (iv_rng (n := n) (ea_cons (ev_ixNew (en_lst (ds := nums [1, 1, 2, 2, 3]) (ea_cons (ev_i (K := K)) (ea_cons (ev_i (K := K)) (ea_cons (ev_i (K := K)) (ea_cons (ev_i (K := K)) (ea_cons (ev_i (K := K)) ea_nil))))) (by simp)) (ev_ixL (ev_var rfl) (ev_i (K := K)) (at_nat (k := 3) (nums_at hd3))) (at_nat hn)) ea_nil) (by omega)) fun H4 e4 s4 => ?_
    let Γi : Nat → Gam := fun _ => ⟨[], [some (tyL K (nums ns)), some (tyI K (k : Int)), some (tyL K (nums dg)), some (tyL K [NestedKey.text "register", .text "counter", .text "set", .text "queue"]), some (tyR p), none]⟩
    let Mi : Nat → Hp → Prop := fun i H' => Imm H4 H' ∧ Ext H H' ∧ ∃ ks : List OSx.Kind, ks.length = i ∧ Lst K p (objsD ks) H'
    refine ⟨Γi, Mi, ⟨s4.len, s4.at_, s4.tab⟩, ⟨Imm.refl _, ((e1.trans e2).trans e3).trans e4, [], rfl, L3.up e4⟩, fun i H' mm => mm.1, fun i σ' H' hi si mi x H5 ex rx s' => ?_, fun σ' H' sn mn => ?_⟩
    · obtain ⟨m1, m2, ks, hks, L⟩ := mi
      have snx : Sty ⟨[], [some (tyL K (nums ns)), some (tyI K (k : Int)), some (tyL K (nums dg)), some (tyL K [NestedKey.text "register", .text "counter", .text "set", .text "queue"]), some (tyR p), some (tyI K (i : Int))]⟩ (σ'.set 5 (some x)) H5 := Sty.set (i := 5) s' rx
      have hz : ([4, 4, 4, 5] : List Int)[i]? = some 4 := by
        have : i < 3 := by omega
        match i, this with
        | 0, _ => rfl
        | 1, _ => rfl
        | 2, _ => rfl
      obtain ⟨dj, hdj, hdj'⟩ := hdg.at hz
      have hk : ([NestedKey.text "register", .text "counter", .text "set", .text "queue"] : List NestedKey)[dj]? = some (.text (kindS (k4 dj))) := by
        have : dj < 4 := by omega
        match dj, this with
        | 0, _ => rfl
        | 1, _ => rfl
        | 2, _ => rfl
        | 3, _ => rfl
      have ho : ([NestedKey.text "a1", .text "q", .text "zz"] : List NestedKey)[i]? = some (.text (objS i)) := by
        have : i < 3 := by omega
        match i, this with
        | 0, _ => rfl
        | 1, _ => rfl
        | 2, _ => rfl
      have hol : (objsD ks).length = i := by rw [objsD_len, hks]
      show tDrop _ _ (σ'.set 5 (some x)) H5
      refine m_app snx (L.up ex) (ev_var rfl) ((ev_two (ev_ixNew (en_lst (ds := [NestedKey.text "a1", .text "q", .text "zz"]) (ea_cons (ev_s (K := K)) (ea_cons (ev_s (K := K)) (ea_cons (ev_s (K := K)) ea_nil))) (by simp)) (ev_var rfl) (at_nat ho)) (ev_ixL (ev_var rfl) (ev_ixL (ev_var rfl) (ev_var rfl) (at_nat (nums_at hdj))) (at_nat hk))).loc snx) (by omega) fun H6 e6 s6 L6 => ?_
      refine ⟨s6.lose (i := 5), m1.trans (ex.toImm.trans e6.toImm), Ext.only (m2.trans ex) hp0 e6, ks ++ [k4 dj], by simp [hks], ?_⟩
      rw [objsD_snoc, hks]
      exact L6
    · obtain ⟨m1, m2, ks, hks, L⟩ := mn
      exact m_retE (PP := fun ks : List OSx.Kind => 1 ≤ ks.length ∧ ks.length ≤ 3) (TT := objsD) sn m2 hp0 L (ev_var rfl) (by rw [hks]; exact ⟨hn1, hn3⟩) q

/-! ### _law_row -/
section
variable {K : PySem.W.Frag} {Γ Γ' : Gam} {T U : Ty} {ta tb te : TE} {t : TT} {ds : List D} {b : Bool} {σ : L2.St} {H H0 : Hp} {Dd : Ends} {tz : TS} {vs : List Nat} {g : TG}
theorem en_listRg {n : Nat} (h : Ev ta Γ (tyI K (n : Int))) (hn : n ≤ 100000) : EvN K (tLstRg (tRg1 ta)) Γ (nums (nats (List.range n))) := fun σ H s Q q => h σ H s _ fun v H1 e r => by
  obtain rfl : v = .int (n : Int) := r
  refine ⟨n, rfl, RgOk.of_le (by omega) (by omega) (by omega) (by omega), fun p hp => q p _ _ (e.dom p hp) (e.trans (Ext.new hp)) upd_same ?_⟩
  have : rgV 0 (n : Int) = (nats (List.range n)).map V.int := by
    unfold rgV
    rw [Int.sub_zero, Int.toNat_natCast, List.map_map]
    refine List.map_congr_left fun i _ => ?_
    show V.int (0 + (i : Int)) = V.int (i : Int)
    rw [Int.zero_add]
  rw [this]
  exact tds_of_nums _
theorem at_last {α : Type} (l : List α) (d : α) : atI (l ++ [d]) (-1) = some d := by
  unfold atI ixN
  rw [if_neg (by decide), if_pos (by simp; omega)]
  show (l ++ [d])[((-1 : Int) + ((l ++ [d]).length : Int)).toNat]? = some d
  rw [show ((-1 : Int) + ((l ++ [d]).length : Int)).toNat = l.length by simp; omega]
  simp
/-- i = [.. if ..] frozen, the test told from the heap on -/
theorem m_setFL {wi : TI} {n i0 : Nat} {Y : Nat → Ty} {Γ1 : Nat → Gam} (f : Nat → Bool) (v : Nat → D) (hi0 : i0 < Γ.l.length) (s : Sty Γ σ H) (h : Iv wi Γ n Y) (hn : n ≤ 2000000) (hg : ∀ i, i < n → Gt g vs (wipeG Γ vs) (Y i) (Γ1 i))
    (ht : ∀ i, i < n → ∀ σ2 H2, Ext H H2 → Sty (Γ1 i) σ2 H2 → EvTL t σ2 H2 (f i)) (he : ∀ i, i < n → f i = true → Ev te (Γ1 i) (tyD K (v i)))
    (k : ∀ σ' H', Ext H H' → Sty (Γ.set i0 (some (tyL K (gvn n f v)))) σ' H' → Dd.nx σ' H') : tSetF (tLc wi g t te vs) i0 Dd σ H := h σ H s _ fun J H1 G e g1 gs w Dl hD => by
  have s1 : Sty (wipeG Γ vs) (L2.wipe σ vs) H1 := (s.imm e.toImm).wipe vs
  refine lc_it w (fun i H' => Ext H1 H' ∧ ∃ xs, H' Dl = some (.lst xs) ∧ Tds K H' (gvn i f v) xs) ⟨Ext.new hD, [], upd_same, rfl⟩ (fun i H' _ p => gs _ _ p.1.toImm g1) (fun i x H' H2 hi p y => ?_) fun H' p => ?_
  · obtain ⟨e1, xs, hl, r⟩ := p
    obtain ⟨e2, rx⟩ := y
    refine hg i hi x _ H2 (s1.imm (e1.trans e2).toImm) rx _ fun σ2 s2 w2 => ⟨w2.trans wipe_wipe, ht i hi σ2 H2 ((e.trans e1).trans e2) s2 H2 (ExtS.refl _) _ fun H3 e3 => ?_⟩
    have l3 : H3 Dl = some (.lst xs) := (e2.trans e3).keep _ _ (fun z => z) hl (fun _ z => by cases z)
    have hxs : xs.length < 2000000 := by rw [r.length]; have := gvn_len i f v; omega
    cases hf : f i with
    | false =>
      show Ext H1 H3 ∧ _
      exact ⟨(e1.trans e2).trans e3, xs, l3, by rw [gvn_no hf]; exact r.imm (e2.trans e3).toImm _ _⟩
    | true =>
      refine he i hi hf σ2 H3 (s2.imm e3.toImm) _ fun y H4 e4 r4 => ?_
      have l4 : H4 Dl = some (.lst xs) := e4.keep _ _ (fun z => z) l3 (fun _ z => by cases z)
      have m := Imm.mut (o := .lst (xs ++ [y])) l4 trivial
      refine ⟨xs, l4, by rw [sizeLine_eq]; omega, (((e1.trans e2).trans e3).trans e4).mut l4 trivial (.inl hD), xs ++ [y], upd_same, ?_⟩
      rw [gvn_yes hf]
      exact ((r.imm ((e2.trans e3).trans e4).toImm _ _).snoc r4).imm m _ _
  · obtain ⟨e1, xs, hl, r⟩ := p
    refine ⟨Dl, xs, hl, List.getElem?_set_self (by rw [s.len]; exact hi0), fun o => ?_⟩
    have e3 : Ext H (upd H' Dl (.frz o (.lst xs))) := ExtS.freeze (e.trans e1) hl (.inl (e.dom _ hD))
    exact k _ _ e3 ((s.imm e3.toImm).set ⟨Dl, xs, rfl, .inl ⟨o, upd_same⟩, r.imm (Imm.mut hl trivial) _ _⟩)
theorem ev_tupM {p : Addr} (s : Sty Γ σ H) (L : Lst K p ds H) (ha : Ev ta Γ (tyR p)) : EvL (tCB (rTupS K) (tCons ta tNil)) σ H (tyT K ds) := fun H1 e1 Q q => ha σ H1 (s.imm e1.toImm) _ fun w H2 e2 r => by
  obtain rfl : w = .ref p := r
  obtain ⟨xs, a, t⟩ := L.up (e1.trans e2)
  exact ⟨p, xs, rfl, .inl ⟨.inl (.inl a), fun l hl => q _ _ (e2.trans (Ext.new hl)) ⟨l, xs, rfl, .inl (.inl upd_same), t.imm (Ext.new hl).toImm _ _⟩⟩⟩
end
def PLRow (K : PySem.W.Frag) : List Ty → Ty → Prop := fun Ts T => ∃ (ns : List Int) (k n : Nat), n ≤ 12 ∧ Ts = [tyL K (nums ns), tyI K (k : Int), tyI K (n : Int)] ∧ T = tyE (fun r : List Nat => r.length = n ∧ ∀ i ∈ r, i < n) fun r => tyT K (nums (nats r))
theorem nats_filter (l : List Nat) (x : Nat) : (nats l).filter (fun y => decide (y ≠ (x : Int))) = nats (l.filter fun y => decide (y ≠ x)) := by
  induction l with
  | nil => rfl
  | cons a l ih =>
    show (List.filter _ ((a : Int) :: nats l)) = nats (List.filter _ (a :: l))
    rw [List.filter_cons, List.filter_cons, ih]
    by_cases e : a = x
    · subst e; simp
    · have : (a : Int) ≠ (x : Int) := by omega
      simp [e, this]
theorem sc__law_row : FnScope ["_law_script", "_law_k", "_law_many_here", "_law_digits", "_law_row_here", "_law_left", "_law_j", "_law_other"] ["_law_script", "_law_k", "_law_many_here"] (defScope (top 44)) := C8.fnScope_by (by decide +kernel)
theorem cal__law_row {P : Program} {w : World} {K : PySem.W.Frag} {mg : Str → Option Value} {base : Heap} {f : Addr} {fd : FuncData} {cdv : Value} (F : FunC K mg "_law_row" (top 44) f fd cdv) (M : Nm mg)  (c__law_draw : Cal P w K mg base 2 "_law_draw" (Pm [] (PDraw K))) : Cal P w K mg base (2 + 1) "_law_row" (Pm [] (PLRow K)) := by
  have b := F.binds (ps := ["_law_script", "_law_k", "_law_many_here"]) fun _ _ _ _ _ _ us hl => match us, hl with | [_, _, _], _ => rfl
  have kds := F.kds
  have S := sc__law_row
  refine cal1 F b sc__law_row (fun Ts T h => ?hlen) (fun A outer s H E hr => have hu := hr.units; have hu1 := hu_of hr;
      (pss_cons (ps_set (i := 3) S.nd rfl (by first | exact .inl rfl | exact .inr rfl) (pe_c c__law_draw hr (by first | decide | omega) (by rfl) (pa_cons (pv 0) (pa_cons (pv 1) (pa_cons (pe_frz (pe_op op_rep (pe_lst (pa_cons pe_int pa_nil)) pe_int)) pa_nil)))))
      (pss_cons (ps_set (i := 4) S.nd rfl (by first | exact .inl rfl | exact .inr rfl) (pe_lst pa_nil))
      (pss_cons (ps_set (i := 5) S.nd rfl (by first | exact .inl rfl | exact .inr rfl) (pe_frz (pe_listRg rfl (by rfl) M.n_list (prg_1 (by rfl) M.n_range (pv 2)))))
      (pss_cons (ps_for PassesOwn.never rfl (pi_range1 (by rfl) M.n_range (pa_cons (pv 2) pa_nil)) (pg_name (i := 6) S.nd rfl (by first | exact .inl rfl | exact .inr rfl))
        (pss_cons (ps_expr (k_append K (pv 4) (pa_cons (pe_ix (k_ix_list K) (pv 5) (pe_op op_modN (pe_ix (k_ix_list K) (pv 3) (pv 6) (fun _ _ => rfl)) (pe_callB (k_cr_lenS K) (by rfl) M.n_len boot_len (pa_cons (pv 5) pa_nil))) (fun _ _ => rfl)) pa_nil)))
        (pss_one (ps_frzL (ps_setLc (i := 5) (own := [("_law_other", 7)]) rfl S.nd rfl rfl (sw_true rfl rfl rfl rfl) (k_pi_list K (pv 5)) (blkOk_by (N := ["_law_script", "_law_k", "_law_many_here", "_law_digits", "_law_row_here", "_law_left", "_law_j", "_law_other"]) (sc := defScope (top 44)) (by decide +kernel)) (fun s H C cl fp => (pg_name (i := 7) S.nd rfl (by first | exact .inl rfl | exact .inr rfl))) (fun s H C cl fp => (pts_one (pt_cmpR (k_op_neD K hu) (pv 7) (pe_ix (k_ix_list K) (pv 4) (pe_un un_neg pe_int) (fun _ _ => rfl)) (nomark _)))) (fun s H C cl fp => (pv 7)))))))
      (pss_one (ps_ret (pe_callTy (k_cr_tupS K) (by rfl) M.n_tuple boot_tuple (pa_cons (pv 4) pa_nil))))))))) (fun Ts T h => ?hbd)
  case hlen =>
    obtain ⟨ns, k, n, _, rfl, rfl⟩ := h
    rfl
  case hbd =>
    obtain ⟨ns, k, n, hn, rfl, rfl⟩ := h
    intro σ H s D q
    have hsz : (List.replicate 12 ([.num 12] : List NestedKey)).flatten = nums (List.replicate 12 12) := by rfl
    refine q_set s (ev_call (tb := []) (F := PDraw K) (Ts := [tyL K (nums ns), tyI K (k : Int), tyL K (nums (List.replicate 12 12))]) (ea_cons (ev_var rfl) (ea_cons (ev_var rfl) (ea_cons (ev_frz (hsz ▸ en_rep (n := 12) (en_lst (ds := [.num 12]) (ea_cons (ev_i (K := K)) ea_nil) (by simp)) (ev_i (K := K)) (by omega) (by simp))) ea_nil))) ⟨ns, k, List.replicate 12 12, by decide, by simp, rfl, rfl⟩ (by simp)) fun σ1 H1 e1 s1 => ?_
    obtain ⟨dg, hdg, s1⟩ := s1.open (i := 3) rfl
    refine p_nil K s1 fun p σ3 H3 hp e3 L3 s3 => ?_
    have hp0 : H p = none := e1.dom p hp
    refine q_set s3 (ev_frz (en_listRg (ev_var rfl) (by omega))) fun σ4 H4 e4 s4 => ?_
    refine q_for s4 (iv_rng (ea_cons (ev_var rfl) ea_nil) (by omega)) fun H5 e5 s5 => ?_
    let Γi : Nat → Gam := fun _ => ⟨[], [some (tyL K (nums ns)), some (tyI K (k : Int)), some (tyI K (n : Int)), some (tyL K (nums dg)), some (tyR p), none, none, none]⟩
    let Mi : Nat → L2.St → Hp → Prop := fun i σ' H' => True
    -- what is left
    let LP : Nat → List Nat → Prop := fun i l => l.Nodup ∧ l.length = n - i ∧ ∀ x ∈ l, x < n
    let Γj : Nat → Gam := fun i => ⟨[], [some (tyL K (nums ns)), some (tyI K (k : Int)), some (tyI K (n : Int)), some (tyL K (nums dg)), some (tyR p), some (tyE (LP i) fun l => tyL K (nums (nats l))), none, none]⟩
    let Mj : Nat → Hp → Prop := fun i H' => Imm H5 H' ∧ Ext H H' ∧ ∃ r : List Nat, r.length = i ∧ (∀ x ∈ r, x < n) ∧ Lst K p (nums (nats r)) H'
    refine ⟨Γj, Mj, ?_, ⟨Imm.refl _, ((e1.trans e3).trans e4).trans e5, [], rfl, fun _ z => (by cases z), (L3.up e4).up e5⟩, fun i H' mm => mm.1, fun i σ' H' hi si mi x H6 ex rx s' => ?_, fun σ' H' sn mn => ?_⟩
    · exact s5.to (i := 5) rfl fun v r => ⟨List.range n, ⟨List.nodup_range, by simp, fun x hx => List.mem_range.mp hx⟩, r⟩
    · obtain ⟨m1, m2, r, hr, hrn, L⟩ := mi
      obtain ⟨l, ⟨hl1, hl2, hl3⟩, s'⟩ := s'.open (i := 5) rfl
      have snx : Sty ⟨[], [some (tyL K (nums ns)), some (tyI K (k : Int)), some (tyI K (n : Int)), some (tyL K (nums dg)), some (tyR p), some (tyL K (nums (nats l))), some (tyI K (i : Int)), none]⟩ (σ'.set 6 (some x)) H6 := Sty.set (i := 6) s' rx
      have hz : (List.replicate 12 (12 : Int))[i]? = some 12 := by rw [List.getElem?_replicate, if_pos (by omega)]
      obtain ⟨dj, hdj, _⟩ := hdg.at hz
      have hll : (nums (nats l)).length = l.length := by simp
      have hpos : 0 < l.length := by omega
      have hm := fmod_pos (a := (dj : Int)) (n := (l.length : Int)) (by omega)
      obtain ⟨j, hj⟩ : ∃ j : Nat, (dj : Int).fmod (l.length : Int) = (j : Int) := ⟨((dj : Int).fmod (l.length : Int)).toNat, by omega⟩
      have hjl : j < l.length := by omega
      have hget : (nums (nats l))[j]? = some (.num ((l[j] : Nat) : Int)) := by rw [List.getElem?_map, List.getElem?_map, List.getElem?_eq_getElem hjl] <;> rfl
      show tSeq _ _ _ (σ'.set 6 (some x)) H6
      refine p_app snx (L.up ex) (ev_var rfl) (d := .num ((l[j] : Nat) : Int)) ((ev_ixL (k := (j : Int)) (ev_var rfl) (ev_is (ev_op (ev_ixL (ev_var rfl) (ev_var rfl) (at_nat (nums_at hdj))) (ev_cb (ea_cons (ev_var rfl) ea_nil) rc_lenL) (rv_mod (K := K) (by rw [hll]; omega))) (by rw [hll, hj])) (at_nat hget)).loc snx) (by simp [hr]; omega) fun H7 e7 s7 L7 => ?_
      refine m_setFL (K := K) (Γ1 := fun o => ⟨[], [some (tyL K (nums ns)), some (tyI K (k : Int)), some (tyI K (n : Int)), some (tyL K (nums dg)), some (tyR p), some (tyL K (nums (nats l))), some (tyI K (i : Int)), some (tyI K ((nats l).getD o 0))]⟩) (fun o => decide ((nats l).getD o 0 ≠ ((l[j] : Nat) : Int))) (fun o => .num ((nats l).getD o 0)) (by simp) s7 (iv_list (ev_var rfl)) (by rw [hll]; omega) (fun o ho => ?_) (fun o ho σ2 H2 e2 s2 => ?_) (fun o ho _ => ev_var rfl) fun σ8 H8 e8 s8 => ?_
      · rw [nums_getD (nats l) o (by simpa using ho)]
        exact gt_name (by simp)
      · refine (lt_test (l_op (l_var (i := 7) s2 rfl) (l_ixM (L7.up e2) (l_var (i := 4) s2 rfl) ((ev_neg (i := 1) ev_i).loc s2) (at_last _ _)) (rv_ne (d := .num ((nats l).getD o 0)) (e := .num ((l[j] : Nat) : Int)) (shaped_D Sh8.num.ok Sh8.num.dp) (shaped_D Sh8.num.ok Sh8.num.dp)))).is ?_
        rw [Bool.eq_iff_iff]
        simp
      · have hgv : gvn (nums (nats l)).length (fun o => decide ((nats l).getD o 0 ≠ ((l[j] : Nat) : Int))) (fun o => .num ((nats l).getD o 0)) = nums (nats (l.filter fun y => decide (y ≠ l[j]))) := by
          rw [← nats_filter, ← gvn_filter (nats l) fun y => decide (y ≠ ((l[j] : Nat) : Int))]
          rw [List.length_map]
        rw [hgv] at s8
        refine ⟨((s8.to (i := 5) rfl (U := tyE (LP (i + 1)) fun l => tyL K (nums (nats l))) fun v rr => ⟨_, ⟨hl1.filter _, ?_, fun y hy => hl3 y (List.mem_filter.mp hy).1⟩, rr⟩).lose (i := 6)).lose (i := 7), m1.trans ((ex.toImm.trans e7.toImm).trans e8.toImm), (Ext.only (m2.trans ex) hp0 e7).trans e8, r ++ [l[j]], by simp [hr], fun y hy => ?_, ?_⟩
        · have h1 := hl1.erase_eq_filter l[j]
          have h2 := List.length_erase_of_mem (List.getElem_mem hjl)
          rw [h1] at h2
          have h3 : (l.filter fun y => decide (y ≠ l[j])) = l.filter fun y => y != l[j] := by
            refine List.filter_congr fun y _ => ?_
            rw [Bool.eq_iff_iff]; simp
          rw [h3, h2]
          omega
        · rcases List.mem_append.mp hy with z | z
          · exact hrn y z
          · rw [List.mem_singleton] at z; rw [z]; exact hl3 _ (List.getElem_mem hjl)
        · have : nums (nats (r ++ [l[j]])) = nums (nats r) ++ [.num ((l[j] : Nat) : Int)] := by simp [nums, nats]
          rw [this]
          exact L7.up e8
    · obtain ⟨m1, m2, r, hr, hrn, L⟩ := mn
      exact ev_tupM sn L (ev_var rfl) H' (ExtS.refl _) _ fun v H8 e8 r8 => q v H8 (m2.trans e8) ⟨r, ⟨hr, hrn⟩, r8⟩
end OS

end

section
set_option maxHeartbeats 4000000
namespace OS
open PySem PySem.Spec PyProof.Rows L2 GxR OSx

/-! ### _law_dropped -/
def tFrzK (te : TE) : TE := fun σ H Q => te σ H fun v H1 => ∃ p kvs, v = .ref p ∧ H1 p = some (.dK kvs) ∧ ∀ o, Q v (upd H1 p (.frz o (.dK kvs)))
theorem pe_frzK {X : Cx} {e : Expr} {te : TE} (h : PE X e te) : PE X e (tFrzK te) := by
  refine ⟨fun pins s σ H Q I hq => thn (h.run pins s σ H _ I hq) fun u s1 ⟨v, H1, I1, r, p, xs, ev, hp, q⟩ => ?_⟩
  obtain ⟨od, I2⟩ := I1.lock hp trivial
  exact ⟨v, _, I2, r, q od⟩
def SpDrop (K : PySem.W.Frag) : Sp := fun vs H Q _ => ∃ (d : Addr) (o : Obj) (kvs : List (Key × V)) (x : Str) (n : Nat) (f : Str → Option D), vs = [.ref d, .str x] ∧ PyData.strOk x = true ∧ (∀ y, f y ≠ none → PyData.strOk y = true) ∧ H d = some (.frz o (.dK kvs)) ∧ DctV K H n f kvs ∧ n ≤ 1000 ∧
  ∀ p H', H p = none → Ext H H' → Dct K p n (fun y => if y = x then none else f y) H' → Q (.ref p) H'
def hasK (l : List (Key × V)) (y : Str) : Bool := l.any fun kv => decide (kv.1 = .inr y)
theorem hasK_snoc (l : List (Key × V)) (z y : Str) (v : V) : hasK (l ++ [(.inr z, v)]) y = (hasK l y || decide (y = z)) := by
  unfold hasK
  rw [List.any_append]
  congr 1
  simp only [List.any_cons, List.any_nil, Bool.or_false]
  rw [Bool.eq_iff_iff, decide_eq_true_eq, decide_eq_true_eq, Sum.inr.injEq]
  exact eq_comm
theorem keyIn {kvs : List (Key × V)} {y : Str} {v : V} (h : (Sum.inr y, v) ∈ kvs) : ∃ v', valV kvs (.inr y) = some v' := by
  have := valV_any (.inr y) kvs
  have h2 : (kvs.any fun kv => decide (kv.1 = .inr y)) = true := List.any_eq_true.mpr ⟨_, h, by simp⟩
  rw [h2] at this
  cases hv : valV kvs (.inr y) with
  | none => rw [hv] at this; cases this
  | some v' => exact ⟨v', rfl⟩
theorem sc__law_dropped : FnScope ["_law_rows", "_law_key", "_law_kept", "_law_other"] ["_law_rows", "_law_key"] (defScope (top 32)) := C8.fnScope_by (by decide +kernel)
theorem cal__law_dropped {P : Program} {w : World} {K : PySem.W.Frag} {mg : Str → Option Value} {base : Heap} {f : Addr} {fd : FuncData} {cdv : Value} (F : FunC K mg "_law_dropped" (top 32) f fd cdv) (M : Nm mg)   : Cal P w K mg base (0 + 1) "_law_dropped" (SpDrop K) := by
  have b := F.binds (ps := ["_law_rows", "_law_key"]) fun _ _ _ _ _ _ us hl => match us, hl with | [_, _], _ => rfl
  have kds := F.kds
  have S := sc__law_dropped
  refine ⟨f, fd, ["_law_rows", "_law_key"], fnok1 F sc__law_dropped (fun vs H Q E h => ?hlen) (fun A outer s H E hr => have hu := hr.units; have hu1 := hu_of hr;
      (pss_cons (ps_set (i := 2) S.nd rfl (by first | exact .inl rfl | exact .inr rfl) pe_dnewK)
      (pss_cons (ps_for PassesOwn.never rfl (pi_keys (pv 0)) (pg_name (i := 3) S.nd rfl (by first | exact .inl rfl | exact .inr rfl))
        (pss_one (ps_if (pt_cmpR (k_op_neD K hu) (pv 3) (pv 1) (nomark _))
          (pss_one (ps_asg (pe_dget hu1 (pv 0) (pv 3) (fun _ _ => rfl)) (pg_sub (pv 2) (pv 3) (set_dict hu1))))
          pss_nil)))
      (pss_one (ps_ret (pv 2)))))) (fun vs H Q E h => ?hbd), F.mgf, F.kp, b⟩
  case hlen =>
    obtain ⟨d, o, kvs, x, n, f', rfl, _⟩ := h
    rfl
  case hbd =>
    obtain ⟨d, o, kvs, x, n, ff, rfl, hx, hy, hd, V0, hn, hk⟩ := h
    have s : Sty ⟨[], [some (tyR d), some (tyS K x), none, none]⟩ (L2.start ["_law_rows", "_law_key", "_law_kept", "_law_other"] [.ref d, .str x]) H :=
      start_sty (tb := []) (fun _ z => by cases z) 2 (Ts := [tyR d, tyS K x]) ⟨_, _, rfl, rfl, _, _, rfl, rfl, rfl⟩
    refine p_newK (K := K) s fun p σ1 H1 hp e1 D1 s1 => ?_
    obtain ⟨v0, hv0, rfl⟩ := s1.at_ 0 _ rfl
    have hd1 : H1 d = some (.frz o (.dK kvs)) := e1.frz _ _ _ hd
    let fi : Nat → Str → Option D := fun i y => if y = x then none else if hasK (kvs.take i) y = true then ff y else none
    refine ⟨.ref d, hv0, d, o, rfl, .inl ⟨kvs, hd1, for_it (walk_keys (d := d) (o := o) (kvs := kvs)) (fun i σ' H' => Sty ⟨[], [some (tyR d), some (tyS K x), some (tyR p), none]⟩ σ' H' ∧ Ext H H' ∧ Dct K p i (fi i) H') ⟨s1, e1, D1.as fun y => by simp [fi, hasK]⟩ (fun i σ' H' _ pp => pp.2.1.frz _ _ _ hd) (fun i y σ' H' H2 hi pp yy => ?_) fun σ' H' pp => ?_⟩⟩
    · obtain ⟨rfl, k, v, hkv, rfl⟩ := yy
      obtain ⟨si, ei, Di⟩ := pp
      obtain ⟨z, hz⟩ := V0.str _ (List.mem_of_getElem? hkv)
      have hz : k = .inr z := hz
      subst hz
      obtain ⟨v', hv'⟩ := keyIn (List.mem_of_getElem? hkv)
      have hval := V0.val z
      rw [hv'] at hval
      obtain ⟨dz, hdz⟩ : ∃ dz, ff z = some dz := by
        cases e : ff z with
        | none => rw [e] at hval; exact hval.elim
        | some dz => exact ⟨dz, rfl⟩
      rw [hdz] at hval
      have hval : Td K H dz v' := hval
      have hzk : PyData.strOk z = true := hy z (by rw [hdz]; simp)
      have snx : Sty ⟨[], [some (tyR d), some (tyS K x), some (tyR p), some (tyS K z)]⟩ (σ'.set 3 (some (.str z))) H2 := Sty.set (i := 3) si rfl
      have htake : kvs.take (i + 1) = kvs.take i ++ [(Sum.inr z, v)] := take_snoc hkv
      show tIfS _ _ _ _ (σ'.set 3 (some (.str z))) H2
      refine s_when (b := !decide (z = x)) snx (et_is (et_ne (d := .text z) (e := .text x) (ev_var rfl) (ev_var rfl) (.text hzk) (.text hx)) (by congr 1; rw [Bool.eq_iff_iff]; simp)) (fun hb H3 e3 s3 => ?_) (fun hb H3 e3 s3 => ?_)
      · rw [Bool.not_eq_true', decide_eq_false_iff_not] at hb
        have hilt : i < kvs.length := hi
        have hnn := V0.len
        refine m_setD (K := K) (d := dz) s3 (Di.up e3) (fun H4 e4 Q qq => ?_) (ev_var rfl) (ev_var rfl) (by omega) fun H4 e4 s4 D4 => ?_
        · obtain ⟨w0, hw0, rfl⟩ := s3.at_ 0 _ rfl
          obtain ⟨w3, hw3, rfl⟩ := s3.at_ 3 _ rfl
          have eall := (ei.trans e3).trans e4
          exact ⟨_, hw0, _, hw3, d, v', rfl, .inl ⟨kvs, .inr z, .inr ⟨o, eall.frz _ _ _ hd⟩, rfl, hv'.symm⟩, qq v' H4 (ExtS.refl _) (hval.imm eall.toImm _ _)⟩
        · refine ⟨s4.lose (i := 3), Ext.only (ei.trans e3) hp e4, D4.as fun y => ?_⟩
          by_cases ey : y = z
          · subst ey
            rw [if_pos rfl]
            show _ = if y = x then none else if hasK (kvs.take (i + 1)) y = true then ff y else none
            rw [if_neg hb, if_pos (by rw [htake, hasK_snoc]; simp), hdz]
          · rw [if_neg ey]
            show (if y = x then none else if hasK (kvs.take i) y = true then ff y else none) = if y = x then none else if hasK (kvs.take (i + 1)) y = true then ff y else none
            have : hasK (kvs.take (i + 1)) y = hasK (kvs.take i) y := by
              rw [htake, hasK_snoc]
              simp [ey]
            simp only [this]
      · rw [Bool.not_eq_false', decide_eq_true_eq] at hb
        subst hb
        refine ⟨s3.lose (i := 3), ei.trans e3, ((Di.up e3).mono (Nat.le_succ i)).as fun y => ?_⟩
        show (if y = z then none else if hasK (kvs.take i) y = true then ff y else none) = if y = z then none else if hasK (kvs.take (i + 1)) y = true then ff y else none
        by_cases ey : y = z
        · simp only [if_pos ey]
        · have : hasK (kvs.take (i + 1)) y = hasK (kvs.take i) y := by
            rw [htake, hasK_snoc]
            simp [ey]
          simp only [this]
    · obtain ⟨sn, en, Dn⟩ := pp
      refine s_ret sn (ev_var (i := 2) rfl) fun v H9 e9 r9 => ?_
      obtain rfl : v = .ref p := r9
      refine hk p H9 hp (en.trans e9) (((Dn.up e9).mono V0.len).as fun y => ?_)
      show (if y = x then none else if hasK (kvs.take kvs.length) y = true then ff y else none) = _
      rw [List.take_length]
      by_cases ey : y = x
      · simp only [if_pos ey]
      · rw [if_neg ey, if_neg ey]
        by_cases hm : hasK kvs y = true
        · rw [if_pos hm]
        · rw [if_neg hm]
          have hv := V0.val y
          have : valV kvs (.inr y) = none := by
            have h1 := valV_any (.inr y) kvs
            have h2 : (kvs.any fun kv => decide (kv.1 = .inr y)) = false := by
              cases hh : hasK kvs y with
              | true => exact absurd hh hm
              | false => exact hh
            rw [h2] at h1
            cases hvv : valV kvs (.inr y) with
            | none => rfl
            | some v => rw [hvv] at h1; cases h1
          rw [this] at hv
          cases e : ff y with
          | none => rfl
          | some dd => rw [e] at hv; exact hv.elim
end OS

end

section
set_option maxHeartbeats 4000000
namespace OS
open PySem PySem.Spec PyProof.Rows L2 GxR OSx

/-! ### _law_weave: what stands -/
def opnD (o : Nat) (a : OSx.Act) : D := .tup [.text (objS o), .text (actS a), argsD a]
structure WSt (K : PySem.W.Frag) (H0 : Hp) (ks : List OSx.Kind) (mh : Nat) (pS pK pE po pf : Addr) (ev : List OSx.Ev) (el m : Nat) (H : Hp) : Prop where
  ext : Ext H0 H
  wf : WF ks ev
  evl : ev.length ≤ el
  cl : (opsOf ev).length ≤ mh
  E : Lst K pE (ev.map evD) H
  S : ∃ f, Dct K pS (m + 10) f H ∧ ∀ o k, ks[o]? = some k → ∃ s, f (objS o) = some (stD s) ∧ Shp m k s
  Kd : ∃ f, Dct K pK (m + 10) f H ∧ ∀ o k, ks[o]? = some k → f (objS o) = some (.text (kindS k))
  O : ∃ f, Dct K po (m + 10) f H ∧ (∀ c, c < 3 → (accOf ev).f c = true → ∃ o a, f (cliS c) = some (opnD o a) ∧ ks[o]? = some a.kind ∧ a.small) ∧ (∀ c, c < 3 → (accOf ev).f c = false → f (cliS c) = none) ∧ ∀ y, f y ≠ none → PyData.strOk y = true
  F : ∃ f, Dct K pf (m + 10) f H ∧ (∀ c, c < 3 → ∀ d, f (cliS c) = some d → ∃ r, d = resD r) ∧ ∀ y, f y ≠ none → PyData.strOk y = true
  n1 : pS ≠ pK
  n2 : pS ≠ po
  n3 : pS ≠ pf
  n4 : pK ≠ po
  n5 : pK ≠ pf
  n6 : po ≠ pf
  fS : H0 pS = none
  fK : H0 pK = none
  fE : H0 pE = none
  fo : H0 po = none
  ff : H0 pf = none
section
variable {K : PySem.W.Frag} {H0 H H' : Hp} {ks : List OSx.Kind} {mh : Nat} {pS pK pE po pf : Addr} {ev : List OSx.Ev} {el m : Nat}
theorem WSt.up (W : WSt K H0 ks mh pS pK pE po pf ev el m H) (e : Ext H H') : WSt K H0 ks mh pS pK pE po pf ev el m H' where
  ext := W.ext.trans e
  wf := W.wf
  evl := W.evl
  cl := W.cl
  E := W.E.up e
  S := let ⟨f, d, h⟩ := W.S; ⟨f, d.up e, h⟩
  Kd := let ⟨f, d, h⟩ := W.Kd; ⟨f, d.up e, h⟩
  O := let ⟨f, d, h⟩ := W.O; ⟨f, d.up e, h⟩
  F := let ⟨f, d, h⟩ := W.F; ⟨f, d.up e, h⟩
  n1 := W.n1
  n2 := W.n2
  n3 := W.n3
  n4 := W.n4
  n5 := W.n5
  n6 := W.n6
  fS := W.fS
  fK := W.fK
  fE := W.fE
  fo := W.fo
  ff := W.ff
theorem WSt.more (W : WSt K H0 ks mh pS pK pE po pf ev el m H) {m' el' : Nat} (h : m ≤ m') (h2 : el ≤ el') : WSt K H0 ks mh pS pK pE po pf ev el' m' H where
  ext := W.ext
  wf := W.wf
  evl := Nat.le_trans W.evl h2
  cl := W.cl
  E := W.E
  S := let ⟨f, d, h1⟩ := W.S; ⟨f, d.mono (by omega), fun o k hk => let ⟨s, a, b⟩ := h1 o k hk; ⟨s, a, b.mono h⟩⟩
  Kd := let ⟨f, d, h1⟩ := W.Kd; ⟨f, d.mono (by omega), h1⟩
  O := let ⟨f, d, h1⟩ := W.O; ⟨f, d.mono (by omega), h1⟩
  F := let ⟨f, d, h1⟩ := W.F; ⟨f, d.mono (by omega), h1⟩
  n1 := W.n1
  n2 := W.n2
  n3 := W.n3
  n4 := W.n4
  n5 := W.n5
  n6 := W.n6
  fS := W.fS
  fK := W.fK
  fE := W.fE
  fo := W.fo
  ff := W.ff
theorem neE {p : Addr} {n : Nat} {f : Str → Option D} {ds : List D} (L : Lst K pE ds H) (D : Dct K p n f H) : pE ≠ p := fun z => by
  obtain ⟨xs, a, _⟩ := L
  obtain ⟨ys, b, _⟩ := D
  rw [z, b] at a
  cases a
/-- states[name] = s -/
theorem WSt.setS (W : WSt K H0 ks mh pS pK pE po pf ev el m H) (e : ExtS (· = pS) H H') {f : Str → Option D} (hf : ∀ o k, ks[o]? = some k → ∃ s, f (objS o) = some (stD s) ∧ Shp (m + 1) k s) (D : Dct K pS (m + 1 + 10) f H') : WSt K H0 ks mh pS pK pE po pf ev el (m + 1) H' where
  ext := Ext.only W.ext W.fS e
  wf := W.wf
  evl := W.evl
  cl := W.cl
  E := let ⟨f, d, _⟩ := W.S; W.E.upS e (neE W.E d)
  S := ⟨f, D, hf⟩
  Kd := let ⟨f, d, h1⟩ := W.Kd; ⟨f, (d.upS e W.n1.symm).mono (by omega), h1⟩
  O := let ⟨f, d, h1⟩ := W.O; ⟨f, (d.upS e W.n2.symm).mono (by omega), h1⟩
  F := let ⟨f, d, h1⟩ := W.F; ⟨f, (d.upS e W.n3.symm).mono (by omega), h1⟩
  n1 := W.n1
  n2 := W.n2
  n3 := W.n3
  n4 := W.n4
  n5 := W.n5
  n6 := W.n6
  fS := W.fS
  fK := W.fK
  fE := W.fE
  fo := W.fo
  ff := W.ff
/-- effect changed, to the dict at pf' -/
theorem WSt.setF (W : WSt K H0 ks mh pS pK pE po pf ev el m H) (e : ExtS (· = pf) H H') {f : Str → Option D} {pf' : Addr} (hf : ∀ c, c < 3 → ∀ d, f (cliS c) = some d → ∃ r, d = resD r) (hok : ∀ y, f y ≠ none → PyData.strOk y = true) (D : Dct K pf' (m + 1 + 10) f H') (hp : pf' = pf ∨ H pf' = none) : WSt K H0 ks mh pS pK pE po pf' ev el (m + 1) H' := by
  have ne : ∀ q, q ≠ pf → H q ≠ none → q ≠ pf' := fun q h1 h2 => by
    rcases hp with rfl | hp
    · exact h1
    · exact fun z => h2 (z ▸ hp)
  obtain ⟨fS, dS, hS⟩ := W.S
  obtain ⟨fK, dK, hK⟩ := W.Kd
  obtain ⟨fO, dO, hO⟩ := W.O
  obtain ⟨fF, dF, hF⟩ := W.F
  exact {
    ext := Ext.only W.ext W.ff e
    wf := W.wf
    evl := W.evl
    cl := W.cl
    E := W.E.upS e (neE W.E dF)
    S := ⟨fS, (dS.upS e W.n3).mono (by omega), fun o k hk => let ⟨s, a, b⟩ := hS o k hk; ⟨s, a, b.mono (Nat.le_succ m)⟩⟩
    Kd := ⟨fK, (dK.upS e W.n5).mono (by omega), hK⟩
    O := ⟨fO, (dO.upS e W.n6).mono (by omega), hO⟩
    F := ⟨f, D, hf, hok⟩
    n1 := W.n1
    n2 := W.n2
    n3 := ne _ W.n3 dS.dom
    n4 := W.n4
    n5 := ne _ W.n5 dK.dom
    n6 := ne _ W.n6 dO.dom
    fS := W.fS
    fK := W.fK
    fE := W.fE
    fo := W.fo
    ff := by
      rcases hp with rfl | hp
      · exact W.ff
      · exact W.ext.dom _ hp }
/-- open_calls and events changed -/
theorem WSt.setO (W : WSt K H0 ks mh pS pK pE po pf ev el m H) {ev' : List OSx.Ev} (hev : WF ks ev') (hel : ev'.length ≤ el + 1) (hcl : (opsOf ev').length ≤ mh) {H1 : Hp} (e1 : ExtS (· = pE) H H1) (L : Lst K pE (ev'.map evD) H1) (e : ExtS (· = po) H1 H') {f : Str → Option D} {po' : Addr}
    (hf : (∀ c, c < 3 → (accOf ev').f c = true → ∃ o a, f (cliS c) = some (opnD o a) ∧ ks[o]? = some a.kind ∧ a.small) ∧ (∀ c, c < 3 → (accOf ev').f c = false → f (cliS c) = none) ∧ ∀ y, f y ≠ none → PyData.strOk y = true) (D : Dct K po' (m + 1 + 10) f H') (hp : po' = po ∨ H1 po' = none) : WSt K H0 ks mh pS pK pE po' pf ev' (el + 1) (m + 1) H' := by
  obtain ⟨fS, dS, hS⟩ := W.S
  obtain ⟨fK, dK, hK⟩ := W.Kd
  obtain ⟨fO, dO, hO⟩ := W.O
  obtain ⟨fF, dF, hF⟩ := W.F
  have eS := dS.upS e1 (neE W.E dS).symm
  have eK := dK.upS e1 (neE W.E dK).symm
  have eO := dO.upS e1 (neE W.E dO).symm
  have eF := dF.upS e1 (neE W.E dF).symm
  have ne : ∀ q, q ≠ po → H1 q ≠ none → q ≠ po' := fun q h1 h2 => by
    rcases hp with rfl | hp
    · exact h1
    · exact fun z => h2 (z ▸ hp)
  have ext1 := Ext.only W.ext W.fE e1
  exact {
    ext := Ext.only ext1 W.fo e
    wf := hev
    evl := hel
    cl := hcl
    E := L.upS e (neE L eO)
    S := ⟨fS, (eS.upS e W.n2).mono (by omega), fun o k hk => let ⟨s, a, b⟩ := hS o k hk; ⟨s, a, b.mono (Nat.le_succ m)⟩⟩
    Kd := ⟨fK, (eK.upS e W.n4).mono (by omega), hK⟩
    O := ⟨f, D, hf⟩
    F := ⟨fF, (eF.upS e W.n6.symm).mono (by omega), hF⟩
    n1 := W.n1
    n2 := ne _ W.n2 eS.dom
    n3 := W.n3
    n4 := ne _ W.n4 eK.dom
    n5 := W.n5
    n6 := fun z => ne _ W.n6.symm eF.dom z.symm
    fS := W.fS
    fK := W.fK
    fE := W.fE
    fo := by
      rcases hp with rfl | hp
      · exact W.fo
      · exact ext1.dom _ hp
    ff := W.ff }
end
section
variable {K : PySem.W.Frag} {Γ Γ' Γ1 Γ2 Γ3 : Gam} {T : Ty} {d e f : D} {vs : List Nat} {g1 g2 g3 : TG} {σ : L2.St} {H H0 : Hp} {Dd : Ends} {tz tu : TS}
theorem gt_tup3 (h1 : Gt g1 vs Γ (tyD K d) Γ1) (h2 : Gt g2 vs Γ1 (tyD K e) Γ2) (h3 : Gt g3 vs Γ2 (tyD K f) Γ3) : Gt (gTup K 3 (gCons g1 (gCons g2 (gCons g3 gNil)))) vs Γ (tyT K [d, e, f]) Γ3 := fun v σ H s r Q q => by
  obtain ⟨a, xs, rfl, s1, x, l, rfl, r1, y, m, rfl, r2, z, m2, rfl, r3, rfl⟩ := r
  refine ⟨a, _, rfl, s1, rfl, x, [y, z], rfl, h1 x σ H s r1 _ fun σ1 g1 w1 => ⟨y, [z], rfl, h2 y σ1 H g1 r2 _ fun σ2 g2 w2 => ⟨z, [], rfl, h3 z σ2 H g2 r3 _ fun σ3 g3 w3 => ⟨rfl, q σ3 g3 ((w3.trans w2).trans w1)⟩⟩⟩⟩
/-- for, any invariant -/
theorem s_forG {wi : TI} {n : Nat} {Y : Nat → Ty} {g : TG} (s : Sty Γ σ H) (h : Iv wi Γ n Y)
    (k : ∀ H1, Ext H H1 → Sty Γ σ H1 → ∃ (Pv : Nat → L2.St → Hp → Prop), Pv 0 σ H1 ∧ (∀ i σ H', Pv i σ H' → Imm H1 H') ∧
      (∀ i σ' H', i < n → Pv i σ' H' → ∀ x H2, Ext H' H2 → (Y i).is x H2 → g x σ' H2 fun σ3 H3 => tu { Dd with nx := Pv (i + 1), ct := Pv (i + 1), bk := Dd.nx } σ3 H3) ∧
      (∀ σ' H', Pv n σ' H' → Dd.nx σ' H')) : tFor wi g tu Dd σ H := h σ H s _ fun J H1 G e g1 gs w => by
  obtain ⟨Pv, h0, mi, hs, hd⟩ := k H1 e (s.imm e.toImm)
  refine for_it w Pv h0 (fun i σ' H' _ p => gs _ _ (mi i σ' H' p) g1) (fun i x σ' H' H2 hi p y => hs i σ' H' hi p x H2 y.1 y.2) fun σ' H' p => hd σ' H' p
theorem q_forG {wi : TI} {n : Nat} {Y : Nat → Ty} {g : TG} (s : Sty Γ σ H) (h : Iv wi Γ n Y)
    (k : ∀ H1, Ext H H1 → Sty Γ σ H1 → ∃ (Pv : Nat → L2.St → Hp → Prop), Pv 0 σ H1 ∧ (∀ i σ H', Pv i σ H' → Imm H1 H') ∧
      (∀ i σ' H', i < n → Pv i σ' H' → ∀ x H2, Ext H' H2 → (Y i).is x H2 → g x σ' H2 fun σ3 H3 => tu { Dd with nx := Pv (i + 1), ct := Pv (i + 1), bk := tz Dd } σ3 H3) ∧
      (∀ σ' H', Pv n σ' H' → tz Dd σ' H')) : tSeq (tFor wi g tu) tz Dd σ H := s_forG (Dd := { Dd with nx := tz Dd }) s h k
end
def wG (K : PySem.W.Frag) (ns : List Int) (k : Nat) (ks : List OSx.Kind) (mh : Nat) (dg : List Int) (pS pK pE po pf : Addr) (calls : Nat) (t6 t7 t13 t14 t15 t16 t17 t18 : Option Ty) : Gam :=
  ⟨[], [some (tyL K (nums ns)), some (tyI K (k : Int)), some (tyL K (objsD ks)), some (tyI K (mh : Int)), some (tyL K (nums dg)), some (tyR pS), t6, t7, some (tyR pK), some (tyR pE), some (tyR po), some (tyR pf), some (tyI K (calls : Int)), t13, t14, t15, t16, t17, t18]⟩
end OS

end

section
set_option maxHeartbeats 4000000
namespace OS
open PySem PySem.Spec PyProof.Rows L2 GxR OSx

def HasF (K : PySem.W.Frag) (pf : Addr) (c : Nat) (H : Hp) : Prop := ∃ n f, Dct K pf n f H ∧ ∃ r, f (cliS c) = some (resD r)
theorem HasF.up {K : PySem.W.Frag} {pf : Addr} {c : Nat} {H H' : Hp} (h : HasF K pf c H) (e : Ext H H') : HasF K pf c H' := let ⟨n, f, d, r⟩ := h; ⟨n, f, d.up e, r⟩
section
variable {K : PySem.W.Frag} {H0 H H' : Hp} {ks : List OSx.Kind} {mh : Nat} {pS pK pE po pf : Addr} {ev : List OSx.Ev} {el m : Nat} {ns : List Int} {k : Nat} {dg : List Int} {calls : Nat} {t6 t7 t13 t14 t15 t16 t17 t18 : Option Ty} {σ : L2.St} {Dd : Ends}
/-- the text: name, word, args = open_calls[client]; states[name], effect[client] = _law_step(..) -/
abbrev tDo (K : PySem.W.Frag) (ci : Nat) : TS :=
  tSeq (tAsg (tDGet (tVar 10) (tVar ci)) (gTup K 3 (gCons (gName 6) (gCons (gName 16) (gCons (gName 17) gNil)))))
    (tAsg (tCall (Pm [] (PLStep K)) [] E0 (tCons (tDGet (tVar 8) (tVar 6)) (tCons (tDGet (tVar 5) (tVar 6)) (tCons (tVar 16) (tCons (tVar 17) tNil))))) (gTup K 2 (gCons (gSub (tVar 5) (tVar 6) rSetD) (gCons (gSub (tVar 11) (tVar ci) rSetD) gNil))))
theorem w_do {ci c : Nat} (k3 : ks.length ≤ 3) (s : Sty (wG K ns k ks mh dg pS pK pE po pf calls t6 t7 t13 t14 t15 t16 t17 t18) σ H) (hci : ci ≠ 6 ∧ ci ≠ 16 ∧ ci ≠ 17) (hcv : (wG K ns k ks mh dg pS pK pE po pf calls t6 t7 t13 t14 t15 t16 t17 t18).l[ci]? = some (some (tyS K (cliS c))))
    (W : WSt K H0 ks mh pS pK pE po pf ev el m H) (hc : c < 3) (hop : (accOf ev).f c = true) (hm : m ≤ 900)
    (kk : ∀ σ' H', Imm H H' → Sty (wG K ns k ks mh dg pS pK pE po pf calls none t7 t13 t14 t15 none none t18) σ' H' → WSt K H0 ks mh pS pK pE po pf ev el (m + 2) H' → HasF K pf c H' → Dd.nx σ' H') : tDo K ci Dd σ H := by
  obtain ⟨fO, dO, hO1, hO2, hO3⟩ := W.O
  obtain ⟨o, a, hfo, hko, hsm⟩ := hO1 c hc hop
  have ho3 : o < ks.length := (List.getElem?_eq_some_iff.mp hko).1
  refine p_asg (vs := [6, 16, 17]) s (l_dget dO (l_var (i := 10) s rfl) (l_var s hcv) hfo) (gt_tup3 (d := .text (objS o)) (e := .text (actS a)) (f := argsD a) (gt_name (by simp)) (gt_name (by simp)) (gt_name (by simp))) fun σ1 H1 e1 s1 => ?_
  have W1 := W.up e1
  have s1 : Sty (wG K ns k ks mh dg pS pK pE po pf calls (some (tyS K (objS o))) t7 t13 t14 t15 (some (tyS K (actS a))) (some (tyD K (argsD a))) t18) σ1 H1 := s1
  have hcv1 : (wG K ns k ks mh dg pS pK pE po pf calls (some (tyS K (objS o))) t7 t13 t14 t15 (some (tyS K (actS a))) (some (tyD K (argsD a))) t18).l[ci]? = some (some (tyS K (cliS c))) := by
    have e : (wG K ns k ks mh dg pS pK pE po pf calls (some (tyS K (objS o))) t7 t13 t14 t15 (some (tyS K (actS a))) (some (tyD K (argsD a))) t18).l = ((((wG K ns k ks mh dg pS pK pE po pf calls t6 t7 t13 t14 t15 t16 t17 t18).l.set 6 (some (tyS K (objS o)))).set 16 (some (tyS K (actS a)))).set 17 (some (tyD K (argsD a)))) := rfl
    rw [e, List.getElem?_set_ne (fun z => hci.2.2 z.symm), List.getElem?_set_ne (fun z => hci.2.1 z.symm), List.getElem?_set_ne (fun z => hci.1 z.symm)]
    exact hcv
  obtain ⟨fS, dS, hS⟩ := W1.S
  obtain ⟨fK, dK, hK⟩ := W1.Kd
  obtain ⟨fF, dF, hF1, hF2⟩ := W1.F
  obtain ⟨st, hst, hsh⟩ := hS o _ hko
  have hkd := hK o _ hko
  refine (l_call (tb := []) (F := PLStep K) (Ts := [tyS K (kindS a.kind), tyD K (stD st), tyS K (actS a), tyD K (argsD a)]) (T := tyE (fun q : St1 × Res => Shp (m + 1) a.kind q.1) fun q => tyT K [stD q.1, resD q.2]) s1 (la_cons (l_dget dK (l_var (i := 8) s1 rfl) (l_var (i := 6) s1 rfl) hkd) (la_cons (l_dget dS (l_var (i := 5) s1 rfl) (l_var (i := 6) s1 rfl) hst) (la_cons (l_var (i := 16) s1 rfl) (la_cons (l_var (i := 17) s1 rfl) la_nil)))) ⟨kindS a.kind, a, st, m, hsh, by omega, rfl, rfl⟩ (by simp)) H1 (ExtS.refl _) _ fun v H2 e2 ⟨q, hq, r⟩ => ?_
  obtain ⟨ad, xs, rfl, sq, x, l, rfl, rx, y, l2, rfl, ry, rfl⟩ := r
  have s2 := s1.imm e2.toImm
  refine ⟨ad, _, rfl, sq, rfl, x, [y], rfl, ?_⟩
  -- states[name] = ..
  obtain ⟨v5, g5, rfl⟩ := s2.at_ 5 _ rfl
  obtain ⟨v6, g6, rfl⟩ := s2.at_ 6 _ rfl
  obtain ⟨H3, p3, e3, d3⟩ := (dS.up e2).put (objS o) rx (by omega)
  refine ⟨_, g5, _, g6, pS, H3, rfl, p3, y, [], rfl, ?_⟩
  obtain ⟨v11, g11, rfl⟩ := s2.at_ 11 _ rfl
  obtain ⟨vc, gc, rfl⟩ := s2.at_ ci _ hcv1
  have W3 := (W1.up e2).setS (f := fun z => if z = objS o then some (stD q.1) else fS z) e3 (fun o' k' hk' => by
    by_cases eo : o' = o
    · subst eo
      rw [hko] at hk'
      cases hk'
      exact ⟨q.1, if_pos rfl, hq⟩
    · obtain ⟨s', h1, h2⟩ := hS o' k' hk'
      have ho' : o' < ks.length := (List.getElem?_eq_some_iff.mp hk').1
      exact ⟨s', by show (if objS o' = objS o then _ else _) = _; rw [if_neg fun z => eo (objS_inj (by omega) (by omega) z)]; exact h1, h2.mono (Nat.le_succ m)⟩) (d3.mono (by omega))
  obtain ⟨H4, p4, e4, d4⟩ := ((dF.up e2).upS e3 W1.n3.symm).put (cliS c) (ry.imm e3.toImm _ _) (by omega)
  refine ⟨_, g11, _, gc, pf, H4, rfl, p4, rfl, ?_⟩
  have W4 := W3.setF (pf' := pf) (f := fun z => if z = cliS c then some (resD q.2) else fF z) e4 (fun c' hc' d hd => by
    by_cases ec : cliS c' = cliS c
    · have hd : (if cliS c' = cliS c then some (resD q.2) else fF (cliS c')) = some d := hd
      rw [if_pos ec] at hd
      cases hd
      exact ⟨_, rfl⟩
    · have hd : (if cliS c' = cliS c then some (resD q.2) else fF (cliS c')) = some d := hd
      rw [if_neg ec] at hd
      exact hF1 c' hc' d hd) (fun z hz => by
    by_cases ec : z = cliS c
    · rw [ec]; exact okCli c
    · exact hF2 z (by
        have hz : (if z = cliS c then some (resD q.2) else fF z) ≠ none := hz
        rwa [if_neg ec] at hz)) (d4.mono (by omega)) (.inl rfl)
  refine kk σ1 H4 (((e1.toImm.trans e2.toImm).trans e3.toImm).trans e4.toImm) ?_ W4 ⟨_, _, d4, q.2, if_pos rfl⟩
  exact ((((s2.imm e3.toImm).imm e4.toImm).lose (i := 6)).lose (i := 16)).lose (i := 17)
end
end OS

end

section
set_option maxHeartbeats 4000000
namespace OS
open PySem PySem.Spec PyProof.Rows L2 GxR OSx

def rDictP (K : PySem.W.Frag) : List V → Hp → VK → Prop := fun xs H Q => ∃ (a : Addr) (ps : List Addr) (kvs : List (Key × V)), xs = [.ref a] ∧ SqL K H a (ps.map V.ref) ∧ Paired (fun p kv => SqT K H p [kV kv.1, kv.2]) ps kvs ∧
    ∀ p, H p = none → Q (.ref p) (upd H p (.dK (mergeK [] kvs)))
theorem k_call_dictP {X : Cx} (K : PySem.W.Frag) (hc : X.calm = true) (hK : X.K = K := by rfl) : CallR X (.type "dict") (rDictP K) := by subst hK; exact call_dictP hc
section
variable {K : PySem.W.Frag} {Γ Γ' : Gam} {T : Ty} {ta tb te : TE} {t : TT} {b : Bool} {σ : L2.St} {H H0 H1 : Hp} {Dd : Ends} {tz tu tw : TS}
theorem p_ifP {PJ : L2.St → Hp → Prop} (s : Sty Γ σ H) (h : EvTL t σ H b) (h1 : b = true → ∀ H', Ext H H' → Sty Γ σ H' → (∀ σ2 H2, PJ σ2 H2 → tz Dd σ2 H2) → tu { Dd with nx := tz Dd } σ H') (h2 : b = false → ∀ H', Ext H H' → Sty Γ σ H' → (∀ σ2 H2, PJ σ2 H2 → tz Dd σ2 H2) → tw { Dd with nx := tz Dd } σ H')
    (k : ∀ σ2 H2, PJ σ2 H2 → tz Dd σ2 H2) : tSeq (tIfS t tu tw) tz Dd σ H := p_if s h (fun hb H' e s' => h1 hb H' e s' k) fun hb H' e s' => h2 hb H' e s' k
/-- x = _law_dropped(x, client) -/
theorem w_drop {i c n : Nat} {p : Addr} {f : Str → Option D} (hi : Γ.l[i]? = some (some (tyR p))) (hc : Γ.l[14]? = some (some (tyS K (cliS c)))) (s : Sty Γ σ H) (D : Dct K p n f H) (hn : n ≤ 1000) (hy : ∀ y, f y ≠ none → PyData.strOk y = true)
    (k : ∀ p' H', H p' = none → ExtS (· = p) H H' → Dct K p' n (fun y => if y = cliS c then none else f y) H' → Sty (Γ.set i (some (tyR p'))) (σ.set i (some (.ref p'))) H' → Dd.nx (σ.set i (some (.ref p'))) H') :
    tAsg (tCall (SpDrop K) [] E0 (tCons (tFrzK (tVar i)) (tCons (tVar 14) tNil))) (gName i) Dd σ H := by
  obtain ⟨v, hv, rfl⟩ := s.at_ i _ hi
  obtain ⟨w, hw, rfl⟩ := s.at_ 14 _ hc
  obtain ⟨kvs, a, V0⟩ := D
  refine ⟨_, hv, p, kvs, rfl, a, fun o => ⟨_, hw, p, o, kvs, cliS c, n, f, rfl, okCli c, hy, upd_same, V0.imm (Imm.mut a trivial), hn, fun p' H' hp' e' D' => ?_⟩⟩
  have m := mut1 (o := .frz o (.dK kvs)) a trivial
  have mm := m.trans (Ext.to e')
  exact k p' H' (m.dom p' hp') mm D' ((s.imm mm.toImm).set rfl)
end
def wsz : List Int := (List.replicate 24 ([4, 3, 5, 4, 4, 3] : List Int)).flatten
theorem wsz_at : ∀ j, j < 24 → wsz[6 * j]? = some 4 ∧ wsz[6 * j + 1]? = some 3 ∧ wsz[6 * j + 2]? = some 5 ∧ wsz[6 * j + 3]? = some 4 ∧ wsz[6 * j + 4]? = some 4 ∧ wsz[6 * j + 5]? = some 3 := by decide
theorem wsz_ok : (∀ z ∈ wsz, 0 < z ∧ z < 1000) ∧ wsz.length ≤ 1000 := by decide
section
variable {K : PySem.W.Frag} {Γ : Gam} {dg : List Int} {j r : Nat} {d : Int}
theorem ev_dg (h4 : Γ.l[4]? = some (some (tyL K (nums dg)))) (h13 : Γ.l[13]? = some (some (tyI K (j : Int)))) (hd : dg[6 * j + r]? = some d) : Ev (tOp (rIxL K) (tVar 4) (tOp (rI0 fun i j => .int (i + j)) (tOp (rI CMul fun i j => .int (i * j)) (tC (.int 6)) (tVar 13)) (tC (.int (r : Int))))) Γ (tyI K d) :=
  ev_ixL (k := ((6 * j + r : Nat) : Int)) (ev_var h4) (ev_is (ev_op (ev_op ev_i (ev_var h13) (rv_I (K := K) (C := CMul) (.inl (by decide)))) ev_i rv_I0) (by congr 2)) (at_nat (nums_at hd))
theorem ev_dg0 (h4 : Γ.l[4]? = some (some (tyL K (nums dg)))) (h13 : Γ.l[13]? = some (some (tyI K (j : Int)))) (hd : dg[6 * j]? = some d) : Ev (tOp (rIxL K) (tVar 4) (tOp (rI CMul fun i j => .int (i * j)) (tC (.int 6)) (tVar 13))) Γ (tyI K d) :=
  ev_ixL (k := ((6 * j : Nat) : Int)) (ev_var h4) (ev_is (ev_op ev_i (ev_var h13) (rv_I (K := K) (C := CMul) (.inl (by decide)))) (by congr 2)) (at_nat (nums_at hd))
end
theorem cli_at {c : Nat} (h : c < 3) : ([NestedKey.text "c", .text "d", .text "e2"] : List NestedKey)[c]? = some (.text (cliS c)) := by
  match c, h with
  | 0, _ => rfl
  | 1, _ => rfl
  | 2, _ => rfl
theorem cli_lst {K : PySem.W.Frag} {Γ : Gam} : EvN K (tLst (tCons (tC (.str "c")) (tCons (tC (.str "d")) (tCons (tC (.str "e2")) tNil)))) Γ [.text "c", .text "d", .text "e2"] := en_lst (ds := [.text "c", .text "d", .text "e2"]) (ea_cons (ev_s (K := K)) (ea_cons (ev_s (K := K)) (ea_cons (ev_s (K := K)) ea_nil))) (by simp)
/-- dict(objects) -/
theorem ks_dict {K : PySem.W.Frag} {H : Hp} : ∀ (l : List (OSx.Kind × Nat)) (xs : List V), Tds K H (l.map fun p => .tup [.text (objS p.2), .text (kindS p.1)]) xs → ∃ (ps : List Addr), xs = ps.map V.ref ∧ Paired (fun p kv => SqT K H p [kV kv.1, kv.2]) ps (l.map fun p => ((.inr (objS p.2) : Key), V.str (kindS p.1)))
  | [], xs, h => ⟨[], by rw [show xs = [] from h]; rfl, .nil⟩
  | e :: l, xs, h => by
    obtain ⟨x, r, rfl, ⟨a, ys, rfl, sq, y, l1, rfl, hy, z, l2, rfl, hz, rfl⟩, h2⟩ := h
    obtain ⟨ps, rfl, hp⟩ := ks_dict l r h2
    obtain rfl : y = .str _ := hy
    obtain rfl : z = .str _ := hz
    exact ⟨a :: ps, rfl, .cons sq hp⟩
theorem ks_merge {K : PySem.W.Frag} {H : Hp} : ∀ (l : List (OSx.Kind × Nat)) (kvs : List (Key × V)) (n : Nat) (f : Str → Option D), DctV K H n f kvs →
    ∃ g, DctV K H (n + l.length) g (mergeK kvs (l.map fun p => ((.inr (objS p.2) : Key), V.str (kindS p.1)))) ∧ (∀ y, (∀ p ∈ l, y ≠ objS p.2) → g y = f y) ∧ (∀ p ∈ l, (∀ q ∈ l, objS q.2 = objS p.2 → q.1 = p.1) → g (objS p.2) = some (.text (kindS p.1)))
  | [], kvs, n, f, h => ⟨f, h, fun _ _ => rfl, fun _ z => by cases z⟩
  | e :: l, kvs, n, f, h => by
    have h1 := h.put (objS e.2) (d := .text (kindS e.1)) (v := .str (kindS e.1)) rfl
    obtain ⟨g, g1, g2, g3⟩ := ks_merge l _ _ _ h1
    refine ⟨g, ?_, fun y hy => ?_, fun p hp hu => ?_⟩
    · have : n + (e :: l).length = n + 1 + l.length := by simp; omega
      rw [this]
      exact g1
    · rw [g2 y fun p hp => hy p (List.mem_cons_of_mem _ hp), if_neg (hy e (List.mem_cons_self ..))]
    · by_cases hm : ∃ q ∈ l, objS q.2 = objS p.2
      · obtain ⟨q, hq, eq⟩ := hm
        have hqp := hu q (List.mem_cons_of_mem _ hq) eq
        rw [← eq, ← hqp]
        exact g3 q hq fun q' hq' eq' => (hu q' (List.mem_cons_of_mem _ hq') (eq'.trans eq)).trans hqp.symm
      · rcases List.mem_cons.mp hp with rfl | hp'
        · rw [g2 _ fun q hq z => hm ⟨q, hq, z.symm⟩, if_pos rfl]
        · exact absurd ⟨p, hp', rfl⟩ hm
def PWeave (K : PySem.W.Frag) : List Ty → Ty → Prop := fun Ts T => ∃ (ns : List Int) (k : Nat) (ks : List OSx.Kind) (mh : Nat), 1 ≤ ks.length ∧ ks.length ≤ 3 ∧ Ts = [tyL K (nums ns), tyI K (k : Int), tyL K (objsD ks), tyI K (mh : Int)] ∧
  T = tyE (fun ev : List OSx.Ev => WF ks ev ∧ ev.length ≤ 24 ∧ (opsOf ev).length ≤ mh) fun ev => tyL K (ev.map evD)
theorem sc__law_weave : FnScope ["_law_script", "_law_k", "_law_objects_here", "_law_many_here", "_law_digits", "_law_states", "_law_name", "_law_kind", "_law_kinds", "_law_events", "_law_open_calls", "_law_effect", "_law_calls", "_law_j", "_law_client", "_law_words", "_law_word", "_law_args_here", "_law_other"] ["_law_script", "_law_k", "_law_objects_here", "_law_many_here"] (defScope (top 41)) := C8.fnScope_by (by decide +kernel)
theorem cal__law_weave {P : Program} {w : World} {K : PySem.W.Frag} {mg : Str → Option Value} {base : Heap} {f : Addr} {fd : FuncData} {cdv : Value} (F : FunC K mg "_law_weave" (top 41) f fd cdv) (M : Nm mg)  (c__law_draw : Cal P w K mg base 2 "_law_draw" (Pm [] (PDraw K))) (c__law_first : Cal P w K mg base 1 "_law_first" (Pm [] (PLFirst K))) (c__law_names : Cal P w K mg base 1 "_law_names" (Pm [] (PNames K))) (c__law_args : Cal P w K mg base 2 "_law_args" (Pm [] (PArgs K))) (c__law_step : Cal P w K mg base 1 "_law_step" (Pm [] (PLStep K))) (c__law_dropped : Cal P w K mg base 1 "_law_dropped" (SpDrop K)) : Cal P w K mg base (3 + 1) "_law_weave" (Pm [] (PWeave K)) := by
  have b := F.binds (ps := ["_law_script", "_law_k", "_law_objects_here", "_law_many_here"]) fun _ _ _ _ _ _ us hl => match us, hl with | [_, _, _, _], _ => rfl
  have kds := F.kds
  have S := sc__law_weave
  refine cal1 F b sc__law_weave (fun Ts T h => ?hlen) (fun A outer s H E hr => have hu := hr.units; have hu1 := hu_of hr;
      (pss_cons (ps_set (i := 4) S.nd rfl (by first | exact .inl rfl | exact .inr rfl) (pe_c c__law_draw hr (by first | decide | omega) (by rfl) (pa_cons (pv 0) (pa_cons (pv 1) (pa_cons (pe_frz (pe_op op_rep (pe_lst (pa_cons pe_int (pa_cons pe_int (pa_cons pe_int (pa_cons pe_int (pa_cons pe_int (pa_cons pe_int pa_nil))))))) pe_int)) pa_nil)))))
      (pss_cons (ps_set (i := 5) S.nd rfl (by first | exact .inl rfl | exact .inr rfl) pe_dnewK)
      (pss_cons (ps_for PassesOwn.never rfl (k_pi_list K (pv 2)) (k_pg_tup K (n := 2) rfl (pgs_cons (pg_name (i := 6) S.nd rfl (by first | exact .inl rfl | exact .inr rfl)) (pgs_cons (pg_name (i := 7) S.nd rfl (by first | exact .inl rfl | exact .inr rfl)) pgs_nil)))
        (pss_one (ps_asg (pe_c c__law_first hr (by first | decide | omega) (by rfl) (pa_cons (pv 7) pa_nil)) (pg_sub (pv 5) (pv 6) (set_dict hu1)))))
      (pss_cons (ps_set (i := 8) S.nd rfl (by first | exact .inl rfl | exact .inr rfl) (pe_callTy (k_call_dictP K rfl) (by rfl) M.n_dict boot_dict (pa_cons (pv 2) pa_nil)))
      (pss_cons (ps_set (i := 9) S.nd rfl (by first | exact .inl rfl | exact .inr rfl) (pe_lst pa_nil))
      (pss_cons (ps_set (i := 10) S.nd rfl (by first | exact .inl rfl | exact .inr rfl) pe_dnewK)
      (pss_cons (ps_set (i := 11) S.nd rfl (by first | exact .inl rfl | exact .inr rfl) pe_dnewK)
      (pss_cons (ps_set (i := 12) S.nd rfl (by first | exact .inl rfl | exact .inr rfl) pe_int)
      (pss_cons (ps_for PassesOwn.never rfl (pi_range1 (by rfl) M.n_range (pa_cons pe_int pa_nil)) (pg_name (i := 13) S.nd rfl (by first | exact .inl rfl | exact .inr rfl))
        (pss_cons (ps_set (i := 14) S.nd rfl (by first | exact .inl rfl | exact .inr rfl) (pe_ix (k_ix_list K) (pe_lst (pa_cons pe_str (pa_cons pe_str (pa_cons pe_str pa_nil)))) (pe_ix (k_ix_list K) (pv 4) (pe_op op_add (pe_op op_mul pe_int (pv 13)) pe_int) (fun _ _ => rfl)) (fun _ _ => rfl)))
        (pss_cons (ps_if (PW.pt (pw_and (pt_cmp (pc_dnotin hu1 (pv 14) (pv 10))) (pw_and1 (pt_cmpR op_lt (pv 12) (pv 3) (nomark _)))))
          (pss_cons (ps_set (i := 6) S.nd rfl (by first | exact .inl rfl | exact .inr rfl) (pe_ix (k_ix_tup K) (pe_ix (k_ix_list K) (pv 2) (pe_op op_modN (pe_ix (k_ix_list K) (pv 4) (pe_op op_add (pe_op op_mul pe_int (pv 13)) pe_int) (fun _ _ => rfl)) (pe_callB (k_cr_lenS K) (by rfl) M.n_len boot_len (pa_cons (pv 2) pa_nil))) (fun _ _ => rfl)) pe_int (fun _ _ => rfl)))
          (pss_cons (ps_set (i := 15) S.nd rfl (by first | exact .inl rfl | exact .inr rfl) (pe_c c__law_names hr (by first | decide | omega) (by rfl) (pa_cons (pe_dget hu1 (pv 8) (pv 6) (fun _ _ => rfl)) pa_nil)))
          (pss_cons (ps_set (i := 16) S.nd rfl (by first | exact .inl rfl | exact .inr rfl) (pe_ix (k_ix_list K) (pv 15) (pe_op op_modN (pe_ix (k_ix_list K) (pv 4) (pe_op op_mul pe_int (pv 13)) (fun _ _ => rfl)) (pe_callB (k_cr_lenS K) (by rfl) M.n_len boot_len (pa_cons (pv 15) pa_nil))) (fun _ _ => rfl)))
          (pss_cons (ps_set (i := 17) S.nd rfl (by first | exact .inl rfl | exact .inr rfl) (pe_c c__law_args hr (by first | decide | omega) (by rfl) (pa_cons (pv 16) (pa_cons (pe_ix (k_ix_list K) (pv 4) (pe_op op_add (pe_op op_mul pe_int (pv 13)) pe_int) (fun _ _ => rfl)) (pa_cons (pe_ix (k_ix_list K) (pv 4) (pe_op op_add (pe_op op_mul pe_int (pv 13)) pe_int) (fun _ _ => rfl)) pa_nil)))))
          (pss_cons (ps_expr (k_append K (pv 9) (pa_cons (pe_tup (pa_cons pe_str (pa_cons (pv 14) (pa_cons (pv 6) (pa_cons (pv 16) (pa_cons (pv 17) pa_nil)))))) pa_nil)))
          (pss_cons (ps_asg (pe_tup (pa_cons (pv 6) (pa_cons (pv 16) (pa_cons (pv 17) pa_nil)))) (pg_sub (pv 10) (pv 14) (set_dict hu1)))
          (pss_one (ps_set (i := 12) S.nd rfl (by first | exact .inl rfl | exact .inr rfl) (pe_op op_add (pv 12) pe_int)))))))))
          (pss_one (ps_if (pt_cmp (pc_din hu1 (pv 14) (pv 10)))
            (pss_cons (ps_if (pt_cmp (pc_dnotin hu1 (pv 14) (pv 11)))
              (pss_cons (ps_asg (pe_dget hu1 (pv 10) (pv 14) (fun _ _ => rfl)) (k_pg_tup K (n := 3) rfl (pgs_cons (pg_name (i := 6) S.nd rfl (by first | exact .inl rfl | exact .inr rfl)) (pgs_cons (pg_name (i := 16) S.nd rfl (by first | exact .inl rfl | exact .inr rfl)) (pgs_cons (pg_name (i := 17) S.nd rfl (by first | exact .inl rfl | exact .inr rfl)) pgs_nil)))))
              (pss_one (ps_asg (pe_c c__law_step hr (by first | decide | omega) (by rfl) (pa_cons (pe_dget hu1 (pv 8) (pv 6) (fun _ _ => rfl)) (pa_cons (pe_dget hu1 (pv 5) (pv 6) (fun _ _ => rfl)) (pa_cons (pv 16) (pa_cons (pv 17) pa_nil))))) (k_pg_tup K (n := 2) rfl (pgs_cons (pg_sub (pv 5) (pv 6) (set_dict hu1)) (pgs_cons (pg_sub (pv 11) (pv 14) (set_dict hu1)) pgs_nil))))))
              pss_nil)
            (pss_one (ps_if (PW.pt (pw_or (pt_cmpR op_gt (pe_ix (k_ix_list K) (pv 4) (pe_op op_add (pe_op op_mul pe_int (pv 13)) pe_int) (fun _ _ => rfl)) pe_int (nomark _)) (pw_or1 (pt_cmpR (k_op_eqD K hu) (pv 12) (pv 3) (nomark _)))))
              (pss_cons (ps_expr (k_append K (pv 9) (pa_cons (pe_tup (pa_cons pe_str (pa_cons (pv 14) (pa_cons (pe_dget hu1 (pv 11) (pv 14) (fun _ _ => rfl)) pa_nil)))) pa_nil)))
              (pss_cons (ps_set (i := 10) S.nd rfl (by first | exact .inl rfl | exact .inr rfl) (pe_c c__law_dropped hr (by first | decide | omega) (by rfl) (pa_cons (pe_frzK (pv 10)) (pa_cons (pv 14) pa_nil))))
              (pss_one (ps_set (i := 11) S.nd rfl (by first | exact .inl rfl | exact .inr rfl) (pe_c c__law_dropped hr (by first | decide | omega) (by rfl) (pa_cons (pe_frzK (pv 11)) (pa_cons (pv 14) pa_nil)))))))
              pss_nil)))
            pss_nil)))
        (pss_cons (ps_set (i := 18) S.nd rfl (by first | exact .inl rfl | exact .inr rfl) (pe_ix (k_ix_list K) (pe_lst (pa_cons pe_str (pa_cons pe_str (pa_cons pe_str pa_nil)))) (pe_ix (k_ix_list K) (pv 4) (pe_op op_add (pe_op op_mul pe_int (pv 13)) pe_int) (fun _ _ => rfl)) (fun _ _ => rfl)))
        (pss_one (ps_if (PW.pt (pw_and (pt_cmp (pc_din hu1 (pv 18) (pv 10))) (pw_and (pt_cmp (pc_dnotin hu1 (pv 18) (pv 11))) (pw_and1 (pt_cmpR (k_op_eqD K hu) (pe_ix (k_ix_list K) (pv 4) (pe_op op_add (pe_op op_mul pe_int (pv 13)) pe_int) (fun _ _ => rfl)) pe_int (nomark _))))))
          (pss_cons (ps_asg (pe_dget hu1 (pv 10) (pv 18) (fun _ _ => rfl)) (k_pg_tup K (n := 3) rfl (pgs_cons (pg_name (i := 6) S.nd rfl (by first | exact .inl rfl | exact .inr rfl)) (pgs_cons (pg_name (i := 16) S.nd rfl (by first | exact .inl rfl | exact .inr rfl)) (pgs_cons (pg_name (i := 17) S.nd rfl (by first | exact .inl rfl | exact .inr rfl)) pgs_nil)))))
          (pss_one (ps_asg (pe_c c__law_step hr (by first | decide | omega) (by rfl) (pa_cons (pe_dget hu1 (pv 8) (pv 6) (fun _ _ => rfl)) (pa_cons (pe_dget hu1 (pv 5) (pv 6) (fun _ _ => rfl)) (pa_cons (pv 16) (pa_cons (pv 17) pa_nil))))) (k_pg_tup K (n := 2) rfl (pgs_cons (pg_sub (pv 5) (pv 6) (set_dict hu1)) (pgs_cons (pg_sub (pv 11) (pv 18) (set_dict hu1)) pgs_nil))))))
          pss_nil))))))
      (pss_one (ps_ret (pe_frz (pv 9)))))))))))))) (fun Ts T h => ?hbd)
  case hlen =>
    obtain ⟨ns, k, ks, mh, _, _, rfl, rfl⟩ := h
    rfl
  case hbd =>
    obtain ⟨ns, k, ks, mh, k1, k3, rfl, rfl⟩ := h
    intro σ H s D q
    have hsz : (List.replicate 24 (nums [4, 3, 5, 4, 4, 3])).flatten = nums wsz := by rfl
    refine q_set s (ev_call (tb := []) (F := PDraw K) (Ts := [tyL K (nums ns), tyI K (k : Int), tyL K (nums wsz)]) (ea_cons (ev_var rfl) (ea_cons (ev_var rfl) (ea_cons (ev_frz (hsz ▸ en_rep (n := 24) (en_lst (ds := nums [4, 3, 5, 4, 4, 3]) (ea_cons (ev_i (K := K)) (ea_cons (ev_i (K := K)) (ea_cons (ev_i (K := K)) (ea_cons (ev_i (K := K)) (ea_cons (ev_i (K := K)) (ea_cons (ev_i (K := K)) ea_nil)))))) (by simp)) (ev_i (K := K)) (by omega) (by simp))) ea_nil))) ⟨ns, k, wsz, wsz_ok.1, wsz_ok.2, rfl, rfl⟩ (by simp)) fun σ1 H1 e1 s1 => ?_
    obtain ⟨dg, hdg, s1⟩ := s1.open (i := 4) rfl
    refine p_newK (K := K) s1 fun pS σ2 H2 hS e2 dS s2 => ?_
    have hS0 : H pS = none := e1.dom pS hS
    -- for name, kind in objects: states[name] = first(kind)
    refine q_for s2 (iv_list (ev_var rfl)) fun H3 e3 s3 => ?_
    let Γo : Gam := ⟨[], [some (tyL K (nums ns)), some (tyI K (k : Int)), some (tyL K (objsD ks)), some (tyI K (mh : Int)), some (tyL K (nums dg)), some (tyR pS), none, none, none, none, none, none, none, none, none, none, none, none, none]⟩
    let Mo : Nat → Hp → Prop := fun i H' => Imm H3 H' ∧ Ext H H' ∧ ∃ f, Dct K pS i f H' ∧ ∀ o kd, o < i → ks[o]? = some kd → f (objS o) = some (stD (init1 kd))
    refine ⟨fun _ => Γo, Mo, s3, ⟨Imm.refl _, (e1.trans e2).trans e3, _, dS.up e3, fun o kd ho => by omega⟩, fun i H' mm => mm.1, fun i σ' H' hi si mi x H4 ex rx s' => ?_, fun σ' H' sn mn => ?_⟩
    · obtain ⟨m1, m2, f0, d0, hf0⟩ := mi
      rw [objsD_len] at hi
      rw [objsD_getD hi] at rx
      refine gt_tup2 (vs := [6, 7]) (gt_name (by simp)) (gt_name (by simp)) x σ' H4 s' rx _ fun σ5 s5 _ => ?_
      have s5 : Sty ⟨[], [some (tyL K (nums ns)), some (tyI K (k : Int)), some (tyL K (objsD ks)), some (tyI K (mh : Int)), some (tyL K (nums dg)), some (tyR pS), some (tyS K (objS i)), some (tyS K (kindS ks[i])), none, none, none, none, none, none, none, none, none, none, none]⟩ σ5 H4 := s5
      refine m_setD (d := stD (init1 ks[i])) s5 (d0.up ex) ((ev_call (tb := []) (F := PLFirst K) (ea_cons (ev_var rfl) ea_nil) ⟨ks[i], rfl, rfl⟩ (by simp)).loc s5) (ev_var rfl) (ev_var rfl) (by omega) fun H6 e6 s6 D6 => ?_
      refine ⟨(s6.lose (i := 6)).lose (i := 7), m1.trans (ex.toImm.trans e6.toImm), Ext.only (m2.trans ex) hS0 e6, _, D6, fun o kd ho hk => ?_⟩
      have hol : o < ks.length := (List.getElem?_eq_some_iff.mp hk).1
      by_cases eo : o = i
      · subst eo
        rw [List.getElem?_eq_getElem hi] at hk
        cases hk
        exact if_pos rfl
      · show (if objS o = objS i then _ else f0 (objS o)) = _
        rw [if_neg fun z => eo (objS_inj (by omega) (by omega) z)]
        exact hf0 o kd (by omega) hk
    · obtain ⟨m1, m2, fS, dS, hfS⟩ := mn
      rw [objsD_len] at dS hfS
      -- kinds = dict(objects)
      obtain ⟨v2, g2, aO, xs, rfl, sqO, tO⟩ := sn.at_ 2 _ rfl
      obtain ⟨ps, rfl, hpp⟩ := ks_dict ks.zipIdx xs tO
      refine ⟨_, g2, aO, ps, _, rfl, sqO.sq, hpp, fun pK hK => ?_⟩
      have eK : Ext H' (upd H' pK (.dK (mergeK [] (ks.zipIdx.map fun p => ((.inr (objS p.2) : Key), V.str (kindS p.1)))))) := Ext.new hK
      obtain ⟨fK, vK, _, hK3⟩ := ks_merge (K := K) (H := H') ks.zipIdx [] 0 (fun _ => none) ⟨Nat.le_refl _, fun _ z => by simp at z, fun _ => trivial⟩
      have dK : Dct K pK (0 + ks.zipIdx.length) fK _ := ⟨_, upd_same, vK.imm eK.toImm⟩
      have hfK : ∀ o kd, ks[o]? = some kd → fK (objS o) = some (.text (kindS kd)) := fun o kd hk => by
        have hm : (kd, o) ∈ ks.zipIdx := List.mem_zipIdx_iff_getElem?.mpr hk
        refine hK3 (kd, o) hm fun q' hq' eq' => ?_
        have h1 := List.mem_zipIdx_iff_getElem?.mp hq'
        have hl1 : q'.2 < ks.length := (List.getElem?_eq_some_iff.mp h1).1
        have hl2 : o < ks.length := (List.getElem?_eq_some_iff.mp hk).1
        have : q'.2 = o := objS_inj (by omega) (by omega) eq'
        rw [this, hk] at h1
        cases h1
        rfl
      have hK0 : H pK = none := m2.dom pK hK
      have nSK : pS ≠ pK := fun z => dS.dom (z ▸ hK)
      have s4 : Sty (Γo.set 8 (some (tyR pK))) (σ'.set 8 (some (.ref pK))) _ := (sn.imm eK.toImm).set rfl
      show tSeq _ _ D (σ'.set 8 (some (.ref pK))) _
      refine p_nil K s4 fun pE σ5 H5 hE e5 LE s5 => ?_
      refine p_newK (K := K) s5 fun po σ6 H6 ho e6 dO s6 => ?_
      refine p_newK (K := K) s6 fun pf σ7 H7 hf e7 dF s7 => ?_
      refine q_set s7 (ev_i (K := K)) fun σ8 H8 e8 s8 => ?_
      have e48 := ((e5.trans e6).trans e7).trans e8
      have dS8 := (dS.up eK).up e48
      have dK8 := dK.up e48
      have dO8 := (dO.up e7).up e8
      have W0 : WSt K H ks mh pS pK pE po pf [] 0 0 H8 :=
        { ext := (m2.trans eK).trans e48
          wf := WF.nil ks
          evl := Nat.le_refl _
          cl := Nat.zero_le _
          E := LE.up ((e6.trans e7).trans e8)
          S := ⟨fS, dS8.mono (by omega), fun o kd hk => ⟨init1 kd, hfS o kd (List.getElem?_eq_some_iff.mp hk).1 hk, shp_init kd⟩⟩
          Kd := ⟨fK, dK8.mono (by simp; omega), hfK⟩
          O := ⟨_, dO8.mono (by omega), ⟨fun c _ z => (by cases z), fun c _ _ => rfl, fun y z => absurd rfl z⟩⟩
          F := ⟨_, (dF.up e8).mono (by omega), ⟨fun c _ d z => (by cases z), fun y z => absurd rfl z⟩⟩
          n1 := nSK
          n2 := fun z => (((dS.up eK).up e5).dom) (z ▸ ho)
          n3 := fun z => ((((dS.up eK).up e5).up e6).dom) (z ▸ hf)
          n4 := fun z => ((dK.up e5).dom) (z ▸ ho)
          n5 := fun z => (((dK.up e5).up e6).dom) (z ▸ hf)
          n6 := fun z => dO.dom (z ▸ hf)
          fS := hS0
          fK := hK0
          fE := (m2.trans eK).dom _ hE
          fo := ((m2.trans eK).trans e5).dom _ ho
          ff := (((m2.trans eK).trans e5).trans e6).dom _ hf }
      refine q_forG s8 (iv_rng (K := K) (n := 24) (ea_cons ev_i ea_nil) (by omega)) fun H9 e9 s9 => ?_
      let Pv : Nat → L2.St → Hp → Prop := fun j σ' H' => Imm H9 H' ∧ ∃ po pf ev, Sty (wG K ns k ks mh dg pS pK pE po pf (opsOf ev).length none none none none none none none none) σ' H' ∧ WSt K H ks mh pS pK pE po pf ev j (8 * j) H'
      refine ⟨Pv, ⟨Imm.refl _, po, pf, [], s9, W0.up e9⟩, fun j σ' H' pp => pp.1, fun j σ' H' hj pp x H10 ex rx => ?_, fun σ' H' pp => ?_⟩
      · obtain ⟨i9, po, pf, ev, sw, W⟩ := pp
        obtain ⟨w0, w1, w2, w3, w4, w5⟩ := wsz_at j hj
        obtain ⟨d0, hd0, hb0⟩ := hdg.at w0
        obtain ⟨d1, hd1, hb1⟩ := hdg.at w1
        obtain ⟨d2, hd2, hb2⟩ := hdg.at w2
        obtain ⟨d3, hd3, hb3⟩ := hdg.at w3
        obtain ⟨d4, hd4, hb4⟩ := hdg.at w4
        obtain ⟨d5, hd5, hb5⟩ := hdg.at w5
        have hc1 : d1 < 3 := by omega
        have hc5 : d5 < 3 := by omega
        have snx : Sty (wG K ns k ks mh dg pS pK pE po pf (opsOf ev).length none none (some (tyI K (j : Int))) none none none none none) (σ'.set 13 (some x)) H10 := Sty.set (i := 13) (sw.imm ex.toImm) rx
        show tSeq _ _ _ (σ'.set 13 (some x)) H10
        refine q_set snx (T := tyS K (cliS d1)) (ev_ixNew cli_lst (ev_dg (r := 1) rfl rfl hd1) (at_nat (cli_at hc1))) fun σ11 H11 e11 s11 => ?_
        have W11 := (W.up ex).up e11
        have s11 : Sty (wG K ns k ks mh dg pS pK pE po pf (opsOf ev).length none none (some (tyI K (j : Int))) (some (tyS K (cliS d1))) none none none none) σ11 H11 := s11
        have i11 : Imm H9 H11 := i9.trans (ex.toImm.trans e11.toImm)
        obtain ⟨fO, dO, hO1, hO2, hO3⟩ := W11.O
        have oO : ∀ c, c < 3 → (fO (cliS c)).isSome = (accOf ev).f c := fun c hc => by
          cases hf : (accOf ev).f c with
          | true => obtain ⟨o, a, h1, _⟩ := hO1 c hc hf; rw [h1] <;> rfl
          | false => rw [hO2 c hc hf] <;> rfl
        let PJ : L2.St → Hp → Prop := fun σ2 H2 => Imm H9 H2 ∧ ∃ po pf ev, Sty (wG K ns k ks mh dg pS pK pE po pf (opsOf ev).length none none (some (tyI K (j : Int))) (some (tyS K (cliS d1))) none none none none) σ2 H2 ∧ WSt K H ks mh pS pK pE po pf ev (j + 1) (8 * j + 5) H2
        refine p_ifP (PJ := PJ) (b := !(accOf ev).f d1 && decide ((opsOf ev).length < mh)) s11 (lt_and (lt_B ((l_dnin dO (l_var (i := 14) s11 rfl) (l_var (i := 10) s11 rfl)).isB (by rw [oO d1 hc1]))) fun _ => EvTL.is ((et_test (ev_op (ev_var (i := 12) rfl) (ev_var (i := 3) rfl) rv_C0)).loc s11) (by rw [Bool.eq_iff_iff]; simp)) (fun hb H12 e12 s12 kk => ?_) (fun hb H12 e12 s12 kk => ?_) (fun σ2 H2 pj => ?_)
        · -- a call
          rw [Bool.and_eq_true, Bool.not_eq_true', decide_eq_true_eq] at hb
          have W12 := W11.up e12
          have s12 : Sty (wG K ns k ks mh dg pS pK pE po pf (opsOf ev).length none none (some (tyI K (j : Int))) (some (tyS K (cliS d1))) none none none none) σ11 H12 := s12
          have hm2 := fmod_pos (a := (d2 : Int)) (n := (ks.length : Int)) (by omega)
          obtain ⟨o, ho⟩ : ∃ o : Nat, (d2 : Int).fmod (ks.length : Int) = (o : Int) := ⟨((d2 : Int).fmod (ks.length : Int)).toNat, by omega⟩
          have hol : o < ks.length := by omega
          have hko : ks[o]? = some ks[o] := List.getElem?_eq_getElem hol
          show tSeq _ _ _ σ11 H12
          refine q_set s12 (T := tyS K (objS o)) (ev_ix (ev_ixL (k := (o : Int)) (ev_var rfl) (ev_is (ev_op (ev_dg (r := 2) rfl rfl hd2) (ev_cb (ea_cons (ev_var rfl) ea_nil) rc_lenL) (rv_mod (K := K) (by rw [objsD_len]; omega))) (by rw [objsD_len, ho])) (at_nat (objsD_get hko))) rfl) fun σ13 H13 e13 s13 => ?_
          obtain ⟨fK', dK', hK'⟩ := (W12.up e13).Kd
          refine p_set s13 (l_call (tb := []) (F := PNames K) s13 (la_cons (l_dget dK' (l_var (i := 8) s13 rfl) (l_var (i := 6) s13 rfl) (hK' o _ hko)) la_nil) ⟨ks[o], rfl, rfl⟩ (by simp)) fun σ14 H14 e14 s14 => ?_
          obtain ⟨wl1, wl2⟩ := words_len ks[o]
          have hwl : ((wordsOf ks[o]).map NestedKey.text).length = (wordsOf ks[o]).length := by simp
          have hm0 := fmod_pos (a := (d0 : Int)) (n := ((wordsOf ks[o]).length : Int)) (by omega)
          obtain ⟨wj, hwj⟩ : ∃ z : Nat, (d0 : Int).fmod ((wordsOf ks[o]).length : Int) = (z : Int) := ⟨((d0 : Int).fmod ((wordsOf ks[o]).length : Int)).toNat, by omega⟩
          have hwjl : wj < (wordsOf ks[o]).length := by omega
          obtain ⟨a1, a2, a3⟩ := mkAct_word ks[o] wj hwjl ((d3 : Int).fmod 4) ((d4 : Int).fmod 4)
          have hact : ((wordsOf ks[o]).map NestedKey.text)[wj]? = some (.text (actS (mkAct ks[o] wj ((d3 : Int).fmod 4) ((d4 : Int).fmod 4)))) := by rw [List.getElem?_map, a1] <;> rfl
          have hal : (mkAct ks[o] wj ((d3 : Int).fmod 4) ((d4 : Int).fmod 4)).args.length ≤ 2 := by
            have := congrArg List.length a3
            rw [List.length_take] at this
            simp at this
            omega
          have hargs : argsD (mkAct ks[o] wj ((d3 : Int).fmod 4) ((d4 : Int).fmod 4)) = .tup (nums (([(d3 : Int).fmod 4, (d4 : Int).fmod 4] : List Int).take (mkAct ks[o] wj ((d3 : Int).fmod 4) ((d4 : Int).fmod 4)).args.length)) := by unfold argsD; rw [← a3]
          have hsm : (mkAct ks[o] wj ((d3 : Int).fmod 4) ((d4 : Int).fmod 4)).small := fun v hv => by
            rw [a3] at hv
            have := List.mem_of_mem_take hv
            rcases List.mem_cons.mp this with rfl | h2
            · exact fmod_pos (by decide)
            · rw [List.mem_singleton] at h2; rw [h2]; exact fmod_pos (by decide)
          generalize mkAct ks[o] wj ((d3 : Int).fmod 4) ((d4 : Int).fmod 4) = act at a1 a2 a3 hact hal hargs hsm
          refine q_set s14 (T := tyS K (actS act)) (ev_ixL (k := (wj : Int)) (ev_var rfl) (ev_is (ev_op (ev_dg0 rfl rfl hd0) (ev_cb (ea_cons (ev_var rfl) ea_nil) rc_lenL) (rv_mod (K := K) (by rw [hwl]; omega))) (by rw [hwl, hwj])) (at_nat hact)) fun σ15 H15 e15 s15 => ?_
          refine q_set s15 (ev_call (tb := []) (F := PArgs K) (ea_cons (ev_var rfl) (ea_cons (ev_dg (r := 3) rfl rfl hd3) (ea_cons (ev_dg (r := 4) rfl rfl hd4) ea_nil))) ⟨act, _, _, hal, rfl, rfl⟩ (by simp)) fun σ16 H16 e16 s16 => ?_
          have W16 := (((W12.up e13).up e14).up e15).up e16
          have s16 : Sty (wG K ns k ks mh dg pS pK pE po pf (opsOf ev).length (some (tyS K (objS o))) none (some (tyI K (j : Int))) (some (tyS K (cliS d1))) (some (tyL K ((wordsOf ks[o]).map .text))) (some (tyS K (actS act))) (some (tyD K (argsD act))) none) σ16 H16 := by rw [hargs]; exact s16
          have hevl := W16.evl
          refine p_app s16 W16.E (ev_var rfl) (d := evD (.call d1 o act)) ((ev_tup (ds := [.text "call", .text (cliS d1), .text (objS o), .text (actS act), argsD act]) (ea_cons (ev_s (K := K)) (ea_cons (ev_var rfl) (ea_cons (ev_var rfl) (ea_cons (ev_var rfl) (ea_cons (ev_var rfl) ea_nil))))) (by simp)).loc s16) (by simp; omega) fun H17 e17 s17 L17 => ?_
          obtain ⟨fo', do', ho1, ho2, ho3⟩ := W16.O
          have do17 := do'.upS e17 (neE W16.E do').symm
          refine p_setD (d := opnD o act) s17 do17 ((ev_tup (ds := [.text (objS o), .text (actS act), argsD act]) (ea_cons (ev_var rfl) (ea_cons (ev_var rfl) (ea_cons (ev_var rfl) ea_nil))) (by simp)).loc s17) (ev_var rfl) (ev_var rfl) (by omega) fun H18 e18 s18 D18 => ?_
          have hwf : WF ks (ev ++ [.call d1 o act]) := W16.wf.snoc ⟨hc1, hb.1, by rw [hko, a2], hsm⟩
          have haf : (accOf (ev ++ [.call d1 o act])).f = fun y => if y = d1 then true else (accOf ev).f y := by rw [accOf_snoc]; rfl
          have hop : (opsOf (ev ++ [.call d1 o act])).length = (opsOf ev).length + 1 := by
            show (accOf (ev ++ [_])).l.length = _
            rw [accOf_snoc]
            show ((accOf ev).l ++ [_]).length = _
            rw [List.length_append] <;> rfl
          have W18 := W16.setO (ev' := ev ++ [.call d1 o act]) hwf (by simp; omega) (by rw [hop]; omega) e17 (by rw [List.map_append]; exact L17) e18 (po' := po) (f := fun y => if y = cliS d1 then some (opnD o act) else fo' y) ⟨fun c hc hf => by
              rw [haf] at hf
              by_cases ec : c = d1
              · subst ec; exact ⟨o, act, if_pos rfl, by rw [hko, a2], hsm⟩
              · have hf : (if c = d1 then true else (accOf ev).f c) = true := hf
                rw [if_neg ec] at hf
                obtain ⟨o', a', h1, h2⟩ := ho1 c hc hf
                exact ⟨o', a', by show (if cliS c = cliS d1 then _ else _) = _; rw [if_neg fun z => ec (cliS_inj hc hc1 z)]; exact h1, h2⟩, fun c hc hf => by
              rw [haf] at hf
              by_cases ec : c = d1
              · have hf : (if c = d1 then true else (accOf ev).f c) = false := hf
                rw [if_pos ec] at hf; cases hf
              · have hf : (if c = d1 then true else (accOf ev).f c) = false := hf
                rw [if_neg ec] at hf
                show (if cliS c = cliS d1 then _ else _) = _
                rw [if_neg fun z => ec (cliS_inj hc hc1 z)]; exact ho2 c hc hf, fun y hy => by
              by_cases ey : y = cliS d1
              · rw [ey]; exact okCli d1
              · have hy : (if y = cliS d1 then some (opnD o act) else fo' y) ≠ none := hy
                rw [if_neg ey] at hy; exact ho3 y hy⟩ D18 (.inl rfl)
          refine s_set s18 (ev_op (ev_var rfl) (ev_i (K := K)) rv_I0) fun σ19 H19 e19 s19 => kk σ19 H19 ⟨(((((((i11.trans e12.toImm).trans e13.toImm).trans e14.toImm).trans e15.toImm).trans e16.toImm).trans e17.toImm).trans e18.toImm).trans e19.toImm, po, pf, ev ++ [.call d1 o act], ?_, (W18.up e19).more (by omega) (Nat.le_refl _)⟩
          rw [hop]
          have := (((s19.lose (i := 6)).lose (i := 15)).lose (i := 16)).lose (i := 17)
          exact this
        · -- no call
          have W12 := W11.up e12
          have s12 : Sty (wG K ns k ks mh dg pS pK pE po pf (opsOf ev).length none none (some (tyI K (j : Int))) (some (tyS K (cliS d1))) none none none none) σ11 H12 := s12
          show tIfS _ _ _ _ σ11 H12
          refine m_if (b := (accOf ev).f d1) s12 (lt_B ((l_din (dO.up e12) (l_var (i := 14) s12 rfl) (l_var (i := 10) s12 rfl)).isB (oO d1 hc1))) (fun hop H13 e13 s13 => ?_) (fun hop H13 e13 s13 => ?_)
          · obtain ⟨fF, dF, hF1, hF2⟩ := (W12.up e13).F
            let PJ2 : L2.St → Hp → Prop := fun σ2 H2 => Imm H9 H2 ∧ Sty (wG K ns k ks mh dg pS pK pE po pf (opsOf ev).length none none (some (tyI K (j : Int))) (some (tyS K (cliS d1))) none none none none) σ2 H2 ∧ WSt K H ks mh pS pK pE po pf ev j (8 * j + 2) H2 ∧ HasF K pf d1 H2
            have i13 := (i11.trans e12.toImm).trans e13.toImm
            show tSeq _ _ _ σ11 H13
            refine p_ifP (PJ := PJ2) (b := !(fF (cliS d1)).isSome) s13 (lt_B (l_dnin dF (l_var (i := 14) s13 rfl) (l_var (i := 11) s13 rfl))) (fun hb2 H14 e14 s14 kk2 => ?_) (fun hb2 H14 e14 s14 kk2 => ?_) (fun σ2 H2 pj => ?_)
            · refine w_do (ci := 14) (c := d1) k3 s14 (by decide) rfl ((W12.up e13).up e14) hc1 hop (by omega) fun σ15 H15 i15 s15 W15 h15 => kk2 σ15 H15 ⟨(i13.trans e14.toImm).trans i15, s15, W15, h15⟩
            · rw [Bool.not_eq_false'] at hb2
              obtain ⟨dd, hdd⟩ := Option.isSome_iff_exists.mp hb2
              obtain ⟨r, hr⟩ := hF1 d1 hc1 dd hdd
              exact kk2 σ11 H14 ⟨i13.trans e14.toImm, s14, ((W12.up e13).up e14).more (by omega) (Nat.le_refl _), _, _, dF.up e14, r, by rw [hdd, hr]⟩
            · obtain ⟨i2, s2, W2, ⟨nF, fF2, dF2, r, hr⟩⟩ := pj
              refine m_if s2 ((et_or (et_test (ev_op (ev_dg (r := 5) rfl rfl hd5) ev_i (rv_C0 (K := K) (g := fun i j => decide (j < i))))) (fun _ => et_eq (ev_var (i := 12) rfl) (ev_var (i := 3) rfl) Sh8.num Sh8.num)).loc s2) (fun _ H14 e14 s14 => ?_) (fun _ H14 e14 s14 => ?_)
              · have W14 := W2.up e14
                have hevl := W14.evl
                have dF14 := dF2.up e14
                show tSeq _ _ _ σ2 H14
                refine p_app s14 W14.E (ev_var rfl) (d := evD (.ret d1 r)) (l_tup (ds := [.text "return", .text (cliS d1), resD r]) (la_cons ((ev_s (K := K)).loc s14) (la_cons (l_var (i := 14) s14 rfl) (la_cons (l_dget dF14 (l_var (i := 11) s14 rfl) (l_var (i := 14) s14 rfl) hr) la_nil))) (by simp)) (by simp; omega) fun H15 e15 s15 L15 => ?_
                obtain ⟨fo', do', ho1, ho2, ho3⟩ := W14.O
                have do15 := do'.upS e15 (neE W14.E do').symm
                show tAsg _ _ _ σ2 H15
                refine w_drop (i := 10) (c := d1) rfl rfl s15 do15 (by omega) ho3 fun po' H16 hpo e16 D16 s16 => ?_
                have hwf : WF ks (ev ++ [.ret d1 r]) := W14.wf.snoc ⟨hc1, hop⟩
                have haf : (accOf (ev ++ [.ret d1 r])).f = fun y => if y = d1 then false else (accOf ev).f y := by rw [accOf_snoc]; rfl
                have hopl : (opsOf (ev ++ [.ret d1 r])).length = (opsOf ev).length := by
                  show (accOf (ev ++ [_])).l.length = _
                  rw [accOf_snoc]
                  show ((accOf ev).l.modify _ _).length = _
                  rw [List.length_modify]
                have W16 := W14.setO (ev' := ev ++ [.ret d1 r]) hwf (by simp; omega) (by rw [hopl]; exact W14.cl) e15 (by rw [List.map_append]; exact L15) e16 (po' := po') (f := fun y => if y = cliS d1 then none else fo' y) ⟨fun c hc hf => by
                    rw [haf] at hf
                    have hf : (if c = d1 then false else (accOf ev).f c) = true := hf
                    by_cases ec : c = d1
                    · rw [if_pos ec] at hf; cases hf
                    · rw [if_neg ec] at hf
                      obtain ⟨o', a', h1, h2⟩ := ho1 c hc hf
                      exact ⟨o', a', by show (if cliS c = cliS d1 then _ else _) = _; rw [if_neg fun z => ec (cliS_inj hc hc1 z)]; exact h1, h2⟩, fun c hc hf => by
                    rw [haf] at hf
                    have hf : (if c = d1 then false else (accOf ev).f c) = false := hf
                    show (if cliS c = cliS d1 then none else fo' (cliS c)) = none
                    by_cases ec : c = d1
                    · rw [if_pos (by rw [ec])]
                    · rw [if_neg ec] at hf
                      rw [if_neg fun z => ec (cliS_inj hc hc1 z)]; exact ho2 c hc hf, fun y hy => by
                    by_cases ey : y = cliS d1
                    · rw [ey]; exact okCli d1
                    · have hy : (if y = cliS d1 then none else fo' y) ≠ none := hy
                      rw [if_neg ey] at hy; exact ho3 y hy⟩ (D16.mono (by omega)) (.inr hpo)
                obtain ⟨fe, de, he1, he2⟩ := W16.F
                refine w_drop (i := 11) (c := d1) rfl rfl s16 de (by omega) he2 fun pf' H17 hpf e17 D17 s17 => ?_
                have W17 := W16.setF (pf' := pf') (f := fun y => if y = cliS d1 then none else fe y) e17 (fun c hc dd hdd => by
                    have hdd : (if cliS c = cliS d1 then none else fe (cliS c)) = some dd := hdd
                    by_cases ec : cliS c = cliS d1
                    · rw [if_pos ec] at hdd; cases hdd
                    · rw [if_neg ec] at hdd; exact he1 c hc dd hdd) (fun y hy => by
                    by_cases ey : y = cliS d1
                    · rw [ey]; exact okCli d1
                    · have hy : (if y = cliS d1 then none else fe y) ≠ none := hy
                      rw [if_neg ey] at hy; exact he2 y hy) (D17.mono (by omega)) (.inr hpf)
                refine kk _ H17 ⟨(((i2.trans e14.toImm).trans e15.toImm).trans e16.toImm).trans e17.toImm, po', pf', ev ++ [.ret d1 r], ?_, W17.more (by omega) (Nat.le_refl _)⟩
                rw [hopl]
                exact s17
              · exact kk σ2 H14 ⟨i2.trans e14.toImm, po, pf, ev, s14, (W2.up e14).more (by omega) (Nat.le_succ j)⟩
          · exact kk σ11 H13 ⟨(i11.trans e12.toImm).trans e13.toImm, po, pf, ev, s13, (W12.up e13).more (by omega) (Nat.le_succ j)⟩
        · obtain ⟨i2, po2, pf2, ev2, s2, W2⟩ := pj
          refine q_set s2 (T := tyS K (cliS d5)) (ev_ixNew cli_lst (ev_dg (r := 5) rfl rfl hd5) (at_nat (cli_at hc5))) fun σ3 H3' e3' s3' => ?_
          have W3 := W2.up e3'
          have s3' : Sty (wG K ns k ks mh dg pS pK pE po2 pf2 (opsOf ev2).length none none (some (tyI K (j : Int))) (some (tyS K (cliS d1))) none none none (some (tyS K (cliS d5)))) σ3 H3' := s3'
          obtain ⟨fO3, dO3, hP1, hP2, hP3⟩ := W3.O
          obtain ⟨fF3, dF3, hQ1, hQ2⟩ := W3.F
          have oO3 : (fO3 (cliS d5)).isSome = (accOf ev2).f d5 := by
            cases hf : (accOf ev2).f d5 with
            | true => obtain ⟨o, a, h1, _⟩ := hP1 d5 hc5 hf; rw [h1] <;> rfl
            | false => rw [hP2 d5 hc5 hf] <;> rfl
          refine m_if s3' (lt_and (lt_B ((l_din dO3 (l_var (i := 18) s3' rfl) (l_var (i := 10) s3' rfl)).isB oO3)) fun _ => lt_and (lt_B (l_dnin dF3 (l_var (i := 18) s3' rfl) (l_var (i := 11) s3' rfl))) fun _ => (et_eq (ev_dg (r := 3) rfl rfl hd3) (ev_i (K := K)) Sh8.num Sh8.num).loc s3') (fun hb H4' e4' s4' => ?_) (fun hb H4' e4' s4' => ?_)
          · rw [Bool.and_eq_true] at hb
            refine w_do (ci := 18) (c := d5) k3 s4' (by decide) rfl (W3.up e4') hc5 hb.1 (by omega) fun σ5' H5' i5' s5' W5' _ => ?_
            exact ⟨((i2.trans e3'.toImm).trans e4'.toImm).trans i5', po2, pf2, ev2, ((s5'.lose (i := 13)).lose (i := 14)).lose (i := 18), W5'.more (by omega) (Nat.le_refl _)⟩
          · exact ⟨(i2.trans e3'.toImm).trans e4'.toImm, po2, pf2, ev2, ((s4'.lose (i := 13)).lose (i := 14)).lose (i := 18), (W3.up e4').more (by omega) (Nat.le_refl _)⟩
      · obtain ⟨_, po, pf, ev, sf, Wf⟩ := pp
        exact m_retE (PP := fun ev : List OSx.Ev => WF ks ev ∧ ev.length ≤ 24 ∧ (opsOf ev).length ≤ mh) (TT := fun ev => ev.map evD) sf Wf.ext Wf.fE Wf.E (ev_var (i := 9) rfl) ⟨Wf.wf, Wf.evl, Wf.cl⟩ q
end OS

end

section
set_option maxHeartbeats 4000000
namespace OS
open PySem PySem.Spec PyProof.Rows L2 GxR OSx

/-! ### results changed: a history all the same -/
def shpE : OSx.Ev → OSx.Ev
  | .call c o a => .call c o a
  | .ret c _ => .ret c .ok
structure AccR (x y : Acc) : Prop where
  f : x.f = y.f
  w : x.w = y.w
  p : x.p = y.p
  l : x.l.length = y.l.length
theorem accR_add {x y : Acc} (h : AccR x y) (e : OSx.Ev) : AccR (x.add e) (y.add (shpE e)) := by
  obtain ⟨hf, hw, hp, hl⟩ := h
  cases e with
  | call c o a =>
    refine ⟨?_, ?_, ?_, ?_⟩
    · show (fun z => if z = c then true else x.f z) = fun z => if z = c then true else y.f z
      rw [hf]
    · show (fun z => if z = c then x.l.length else x.w z) = fun z => if z = c then y.l.length else y.w z
      rw [hw, hl]
    · show x.p + 1 = y.p + 1
      rw [hp]
    · show (x.l ++ [_]).length = (y.l ++ [_]).length
      rw [List.length_append, List.length_append, hl] <;> rfl
  | ret c r =>
    refine ⟨?_, hw, ?_, ?_⟩
    · show (fun z => if z = c then false else x.f z) = fun z => if z = c then false else y.f z
      rw [hf]
    · show x.p + 1 = y.p + 1
      rw [hp]
    · show (x.l.modify _ _).length = (y.l.modify _ _).length
      rw [List.length_modify, List.length_modify, hl]
theorem accR_of : ∀ (ev : List OSx.Ev) (x y : Acc), AccR x y → AccR (ev.foldl Acc.add x) ((ev.map shpE).foldl Acc.add y)
  | [], _, _, h => h
  | e :: ev, x, y, h => accR_of ev _ _ (accR_add h e)
theorem accR (ev : List OSx.Ev) : AccR (accOf ev) (accOf (ev.map shpE)) := accR_of ev _ _ ⟨rfl, rfl, rfl, rfl⟩
theorem okEv_shp {ks : List OSx.Kind} {f : Nat → Bool} (e : OSx.Ev) : OkEv ks f (shpE e) ↔ OkEv ks f e := by cases e <;> exact Iff.rfl
theorem wf_shp {ks : List OSx.Kind} (ev : List OSx.Ev) : WF ks ev ↔ WF ks (ev.map shpE) := by
  constructor
  · intro h i e he
    rw [List.getElem?_map] at he
    cases hi : ev[i]? with
    | none => rw [hi] at he; cases he
    | some e0 =>
      rw [hi] at he
      cases he
      rw [← List.map_take, ← (accR (ev.take i)).f]
      exact (okEv_shp e0).mpr (h i e0 hi)
  · intro h i e he
    have := h i (shpE e) (by rw [List.getElem?_map, he]; rfl)
    rw [← List.map_take, ← (accR (ev.take i)).f] at this
    exact (okEv_shp e).mp this
structure Same (ev ev' : List OSx.Ev) : Prop where
  m : ev'.map shpE = ev.map shpE
theorem Same.wf {ks : List OSx.Kind} {ev ev' : List OSx.Ev} (h : Same ev ev') (w : WF ks ev) : WF ks ev' := (wf_shp ev').mpr (h.m ▸ (wf_shp ev).mp w)
theorem Same.len {ev ev' : List OSx.Ev} (h : Same ev ev') : ev'.length = ev.length := by have := congrArg List.length h.m; simpa using this
theorem Same.ops {ev ev' : List OSx.Ev} (h : Same ev ev') : (opsOf ev').length = (opsOf ev).length := by
  rw [show (opsOf ev').length = _ from (accR ev').l, show (opsOf ev).length = _ from (accR ev).l, h.m]
theorem Same.set {ev ev' : List OSx.Ev} (h : Same ev ev') {p c : Nat} {r r' : Res} (hp : ev'[p]? = some (.ret c r)) : Same ev (ev'.set p (.ret c r')) := by
  refine ⟨?_⟩
  rw [List.map_set, ← h.m]
  refine List.ext_getElem? fun i => ?_
  by_cases e : p = i
  · subst e
    have hl : p < ev'.length := (List.getElem?_eq_some_iff.mp hp).1
    rw [List.getElem?_set_self (by simpa using hl), List.getElem?_map, hp] <;> rfl
  · rw [List.getElem?_set_ne e]
section
variable {K : PySem.W.Frag} {Γ : Gam} {te ta tb : TE} {r : Res} {i j : Int}
def isI : Res → Bool | .int _ => true | _ => false
theorem ev_isi (h : Ev te Γ (tyD K (resD r))) : Ev (tCB (rIsi K) (tCons te (tCons (tC (.ty "int")) tNil))) Γ (tyB (isI r)) := fun σ H s Q q => h σ H s _ fun v H1 e rv => by
  cases r with
  | int i =>
    obtain rfl : v = .int i := rv
    exact ⟨_, _, _, _, true, rfl, .ty "int", .base (.int i), kit_ty (by rfl), q _ H1 e rfl⟩
  | _ =>
    obtain rfl : v = .str _ := rv
    exact ⟨_, _, _, _, false, rfl, .ty "int", .base (.str _), kit_ty (by rfl), q _ H1 e rfl⟩
end
def ssz : List Int := [3, 24, 6, 24, 6]
def PSpoil (K : PySem.W.Frag) : List Ty → Ty → Prop := fun Ts T => ∃ (ns : List Int) (k : Nat) (ev : List OSx.Ev), ev.length ≤ 40 ∧ Ts = [tyL K (nums ns), tyI K (k : Int), tyL K (ev.map evD)] ∧ T = tyE (Same ev) fun ev' => tyL K (ev'.map evD)
theorem ssz_at : ∀ j, j < 2 → ssz[1 + 2 * j]? = some 24 ∧ ssz[2 + 2 * j]? = some 6 := by decide
theorem sc__law_spoil : FnScope ["_law_script", "_law_k", "_law_events", "_law_digits", "_law_made", "_law_j", "_law_place", "_law_result"] ["_law_script", "_law_k", "_law_events"] (defScope (top 42)) := C8.fnScope_by (by decide +kernel)
theorem cal__law_spoil {P : Program} {w : World} {K : PySem.W.Frag} {mg : Str → Option Value} {base : Heap} {f : Addr} {fd : FuncData} {cdv : Value} (F : FunC K mg "_law_spoil" (top 42) f fd cdv) (M : Nm mg)  (c__law_draw : Cal P w K mg base 2 "_law_draw" (Pm [] (PDraw K))) : Cal P w K mg base (2 + 1) "_law_spoil" (Pm [] (PSpoil K)) := by
  have b := F.binds (ps := ["_law_script", "_law_k", "_law_events"]) fun _ _ _ _ _ _ us hl => match us, hl with | [_, _, _], _ => rfl
  have kds := F.kds
  have S := sc__law_spoil
  refine cal1 F b sc__law_spoil (fun Ts T h => ?hlen) (fun A outer s H E hr => have hu := hr.units; have hu1 := hu_of hr;
      (pss_cons (ps_set (i := 3) S.nd rfl (by first | exact .inl rfl | exact .inr rfl) (pe_c c__law_draw hr (by first | decide | omega) (by rfl) (pa_cons (pv 0) (pa_cons (pv 1) (pa_cons (pe_frz (pe_lst (pa_cons pe_int (pa_cons pe_int (pa_cons pe_int (pa_cons pe_int (pa_cons pe_int pa_nil))))))) pa_nil)))))
      (pss_cons (ps_set (i := 4) S.nd rfl (by first | exact .inl rfl | exact .inr rfl) (pe_callTy (k_cr_listS K) (by rfl) M.n_list boot_list (pa_cons (pv 2) pa_nil)))
      (pss_cons (ps_for PassesOwn.never rfl (pi_range1 (by rfl) M.n_range (pa_cons (pe_ix (k_ix_list K) (pv 3) pe_int (fun _ _ => rfl)) pa_nil)) (pg_name (i := 5) S.nd rfl (by first | exact .inl rfl | exact .inr rfl))
        (pss_cons (ps_set (i := 6) S.nd rfl (by first | exact .inl rfl | exact .inr rfl) (pe_op op_modN (pe_ix (k_ix_list K) (pv 3) (pe_op op_add pe_int (pe_op op_mul pe_int (pv 5))) (fun _ _ => rfl)) (pe_callB (call_max2 rfl) (by rfl) M.n_max boot_max (pa_cons pe_int (pa_cons (pe_callB (k_cr_lenS K) (by rfl) M.n_len boot_len (pa_cons (pv 4) pa_nil)) pa_nil)))))
        (pss_one (ps_if (PW.pt (pw_and (pt_cmpR op_gt (pe_callB (k_cr_lenS K) (by rfl) M.n_len boot_len (pa_cons (pv 4) pa_nil)) pe_int (nomark _)) (pw_and1 (pt_cmpR (k_op_eqD K hu) (pe_ix (k_ix_tup K) (pe_ix (k_ix_list K) (pv 4) (pv 6) (fun _ _ => rfl)) pe_int (fun _ _ => rfl)) pe_str (nomark _)))))
          (pss_cons (ps_set (i := 7) S.nd rfl (by first | exact .inl rfl | exact .inr rfl) (pe_ix (k_ix_tup K) (pe_ix (k_ix_list K) (pv 4) (pv 6) (fun _ _ => rfl)) pe_int (fun _ _ => rfl)))
          (pss_one (ps_if (PW.pt (pw_and (pt_val (pe_callB (k_call_isi K) (by rfl) M.n_isinstance boot_isinstance (pa_cons (pv 7) (pa_cons (pe_bltn (v := V.ty "int") (by rfl) M.n_int boot_int rfl) pa_nil)))) (pw_and1 (pt_cmpR op_le (pv 7) pe_int (nomark _)))))
            (pss_one (ps_asg (pe_tup (pa_cons pe_str (pa_cons (pe_ix (k_ix_tup K) (pe_ix (k_ix_list K) (pv 4) (pv 6) (fun _ _ => rfl)) pe_int (fun _ _ => rfl)) (pa_cons (pe_ix (k_ix_list K) (pv 3) (pe_op op_add pe_int (pe_op op_mul pe_int (pv 5))) (fun _ _ => rfl)) pa_nil)))) (pg_sub (pv 4) (pv 6) set_list)))
            (pss_one (ps_if (pt_cmpR (k_op_eqD K hu) (pv 7) pe_str (nomark _))
              (pss_one (ps_asg (pe_tup (pa_cons pe_str (pa_cons (pe_ix (k_ix_tup K) (pe_ix (k_ix_list K) (pv 4) (pv 6) (fun _ _ => rfl)) pe_int (fun _ _ => rfl)) (pa_cons pe_str pa_nil)))) (pg_sub (pv 4) (pv 6) set_list)))
              (pss_one (ps_if (pt_cmpR (k_op_eqD K hu) (pv 7) pe_str (nomark _))
                (pss_one (ps_asg (pe_tup (pa_cons pe_str (pa_cons (pe_ix (k_ix_tup K) (pe_ix (k_ix_list K) (pv 4) (pv 6) (fun _ _ => rfl)) pe_int (fun _ _ => rfl)) (pa_cons pe_str pa_nil)))) (pg_sub (pv 4) (pv 6) set_list)))
                pss_nil)))))))
          pss_nil))))
      (pss_one (ps_ret (pe_frz (pv 4)))))))) (fun Ts T h => ?hbd)
  case hlen =>
    obtain ⟨ns, k, ev, _, rfl, rfl⟩ := h
    rfl
  case hbd =>
    obtain ⟨ns, k, ev, hev, rfl, rfl⟩ := h
    intro σ H s D q
    refine q_set s (ev_call (tb := []) (F := PDraw K) (Ts := [tyL K (nums ns), tyI K (k : Int), tyL K (nums ssz)]) (ea_cons (ev_var rfl) (ea_cons (ev_var rfl) (ea_cons (ev_frz (en_lst (ds := nums ssz) (ea_cons (ev_i (K := K)) (ea_cons (ev_i (K := K)) (ea_cons (ev_i (K := K)) (ea_cons (ev_i (K := K)) (ea_cons (ev_i (K := K)) ea_nil))))) (by simp [ssz]))) ea_nil))) ⟨ns, k, ssz, by decide, by decide, rfl, rfl⟩ (by simp)) fun σ1 H1 e1 s1 => ?_
    obtain ⟨dg, hdg, s1⟩ := s1.open (i := 3) rfl
    refine p_new s1 (en_listL (ev_var rfl)) fun p σ2 H2 hp e2 L2 s2 => ?_
    have hp0 : H p = none := e1.dom p hp
    obtain ⟨d0, hd0, hb0⟩ := hdg.at (i := 0) (z := 3) rfl
    refine q_for s2 (iv_rng (n := d0) (ea_cons (ev_ixL (ev_var rfl) (ev_i (K := K)) (at_nat (k := 0) (nums_at hd0))) ea_nil) (by omega)) fun H3 e3 s3 => ?_
    let Γi : Nat → Gam := fun _ => ⟨[], [some (tyL K (nums ns)), some (tyI K (k : Int)), some (tyL K (ev.map evD)), some (tyL K (nums dg)), some (tyR p), none, none, none]⟩
    let Mi : Nat → Hp → Prop := fun i H' => Imm H3 H' ∧ Ext H H' ∧ ∃ ev', Same ev ev' ∧ Lst K p (ev'.map evD) H'
    refine ⟨Γi, Mi, s3, ⟨Imm.refl _, (e1.trans e2).trans e3, ev, ⟨rfl⟩, L2.up e3⟩, fun i H' mm => mm.1, fun i σ' H' hi si mi x H4 ex rx s' => ?_, fun σ' H' sn mn => ?_⟩
    · obtain ⟨m1, m2, ev', hs, L⟩ := mi
      have hi2 : i < 2 := by omega
      obtain ⟨w1, w2⟩ := ssz_at i hi2
      obtain ⟨d1, hd1, hb1⟩ := hdg.at w1
      obtain ⟨d2, hd2, hb2⟩ := hdg.at w2
      have L4 := L.up ex
      have hlen : ev'.length ≤ 40 := by rw [hs.len]; exact hev
      have hml : (ev'.map evD).length = ev'.length := by simp
      have snx : Sty ⟨[], [some (tyL K (nums ns)), some (tyI K (k : Int)), some (tyL K (ev.map evD)), some (tyL K (nums dg)), some (tyR p), some (tyI K (i : Int)), none, none]⟩ (σ'.set 5 (some x)) H4 := Sty.set (i := 5) s' rx
      show tSeq _ _ _ (σ'.set 5 (some x)) H4
      have hmx : EvL (tCB (fun xs H Q => ∃ i j, xs = [V.int i, .int j] ∧ Q (.int (if j > i then j else i)) H) (tCons (tC (.int 1)) (tCons (tCB (rLenS K) (tCons (tVar 4) tNil)) tNil))) (σ'.set 5 (some x)) H4 (tyI K (if (ev'.length : Int) > 1 then (ev'.length : Int) else 1)) := fun H5 e5 Q qq => by
        refine l_lenM L4 (l_var snx rfl) H5 e5 _ fun v H6 e6 r6 => ⟨1, (ev'.length : Int), ?_, qq _ H6 e6 rfl⟩
        rw [show v = _ from r6, hml]
      have hmp : (0 : Int) < (if (ev'.length : Int) > 1 then (ev'.length : Int) else 1) := by split <;> omega
      have hf := fmod_pos (a := (d1 : Int)) hmp
      obtain ⟨pl, hpl⟩ : ∃ z : Nat, (d1 : Int).fmod (if (ev'.length : Int) > 1 then (ev'.length : Int) else 1) = (z : Int) := ⟨((d1 : Int).fmod (if (ev'.length : Int) > 1 then (ev'.length : Int) else 1)).toNat, by omega⟩
      refine p_set (T := tyI K (pl : Int)) snx ((l_op ((ev_ixL (k := ((1 + 2 * i : Nat) : Int)) (ev_var rfl) (ev_is (ev_op (ev_i (K := K)) (ev_op ev_i (ev_var rfl) (rv_I (K := K) (C := CMul) (.inl (by decide)))) rv_I0) (by congr 2)) (at_nat (nums_at hd1))).loc snx) hmx (rv_mod (K := K) (by omega))).isD (by rw [hpl])) fun σ5 H5 e5 s5 => ?_
      have L5 := L4.up e5
      have s5 : Sty ⟨[], [some (tyL K (nums ns)), some (tyI K (k : Int)), some (tyL K (ev.map evD)), some (tyL K (nums dg)), some (tyR p), some (tyI K (i : Int)), some (tyI K (pl : Int)), none]⟩ σ5 H5 := s5
      have m15 := m1.trans (ex.toImm.trans e5.toImm)
      have m25 := (m2.trans ex).trans e5
      -- nothing changed
      have done0 : ∀ H', Ext H5 H' → Sty ⟨[], [some (tyL K (nums ns)), some (tyI K (k : Int)), some (tyL K (ev.map evD)), some (tyL K (nums dg)), some (tyR p), none, none, none]⟩ σ5 H' → (Sty (Γi (i + 1)) σ5 H' ∧ Mi (i + 1) H') := fun H' e s => ⟨s, m15.trans e.toImm, m25.trans e, ev', hs, L5.up e⟩
      by_cases hz : ev' = []
      · subst hz
        refine m_if (b := false) s5 (EvTL.is (lt_and (b := false) (c := false) (EvTL.is (lt_test (l_op (l_lenM L5 (l_var s5 rfl)) ((ev_i (K := K)).loc s5) (rv_C0 (K := K) (g := fun i j => decide (j < i))))) (by simp)) (fun z => by cases z)) rfl) (fun z => by cases z) fun _ H6 e6 s6 => ?_
        exact done0 H6 e6 ((s6.lose (i := 5)).lose (i := 6))
      · have hl0 : 0 < ev'.length := List.length_pos_iff.mpr hz
        have hpl2 : pl < ev'.length := by
          have h2 : (if (ev'.length : Int) > 1 then (ev'.length : Int) else 1) = (ev'.length : Int) := by split <;> omega
          rw [h2] at hf hpl
          omega
        obtain ⟨e0, he0⟩ : ∃ e0, ev'[pl]? = some e0 := get_lt hpl2
        have hget : (ev'.map evD)[pl]? = some (evD e0) := by rw [List.getElem?_map, he0] <;> rfl
        have gt : ∀ H', Ext H5 H' → Sty ⟨[], [some (tyL K (nums ns)), some (tyI K (k : Int)), some (tyL K (ev.map evD)), some (tyL K (nums dg)), some (tyR p), some (tyI K (i : Int)), some (tyI K (pl : Int)), none]⟩ σ5 H' → EvL (tOp (rIxL K) (tVar 4) (tVar 6)) σ5 H' (tyD K (evD e0)) := fun H' e s => l_ixM (L5.up e) (l_var s rfl) (l_var s rfl) (at_nat hget)
        have hlt : EvTL (tTest (tOp (rI0 fun i j => .bl (decide (j < i))) (tCB (rLenS K) (tCons (tVar 4) tNil)) (tC (.int 0)))) σ5 H5 true := EvTL.is (lt_test (l_op (l_lenM L5 (l_var s5 rfl)) ((ev_i (K := K)).loc s5) (rv_C0 (K := K) (g := fun i j => decide (j < i))))) (by rw [hml]; simp; exact hl0)
        cases e0 with
        | call c o a =>
          refine m_if (b := false) s5 (EvTL.is (lt_and hlt fun _ => EvTL.is (lt_test (l_op (l_ix (d := .text "call") (gt H5 (ExtS.refl _) s5) rfl) ((ev_s (K := K)).loc s5) (rv_eq (shaped_D (Sh8.text (x := "call") (by decide +kernel)).ok (Nat.zero_le _)) (shaped_D (Sh8.text (x := "return") (by decide +kernel)).ok (Nat.zero_le _))))) (c := false) (by decide +kernel)) rfl) (fun z => by cases z) fun _ H6 e6 s6 => ?_
          exact done0 H6 e6 ((s6.lose (i := 5)).lose (i := 6))
        | ret c r =>
          refine m_if (b := true) s5 (EvTL.is (lt_and hlt fun _ => EvTL.is (lt_test (l_op (l_ix (d := .text "return") (gt H5 (ExtS.refl _) s5) rfl) ((ev_s (K := K)).loc s5) (rv_eq (shaped_D (Sh8.text (x := "return") (by decide +kernel)).ok (Nat.zero_le _)) (shaped_D (Sh8.text (x := "return") (by decide +kernel)).ok (Nat.zero_le _))))) (c := true) (by decide +kernel)) rfl) (fun _ H6 e6 s6 => ?_) fun z => by cases z
          show tSeq _ _ _ σ5 H6
          refine p_set s6 (l_ix (d := resD r) (gt H6 e6 s6) rfl) fun σ7 H7 e7 s7 => ?_
          have e57 := e6.trans e7
          let Γ7 : Gam := ⟨[], [some (tyL K (nums ns)), some (tyI K (k : Int)), some (tyL K (ev.map evD)), some (tyL K (nums dg)), some (tyR p), some (tyI K (i : Int)), some (tyI K (pl : Int)), some (tyD K (resD r))]⟩
          have s7 : Sty Γ7 σ7 H7 := s7
          have gt7 : ∀ H', Ext H5 H' → Sty Γ7 σ7 H' → EvL (tOp (rIxL K) (tVar 4) (tVar 6)) σ7 H' (tyD K (evD (.ret c r))) := fun H' e s => l_ixM (L5.up e) (l_var s rfl) (l_var s rfl) (at_nat hget)
          have done7 : ∀ H', Ext H5 H' → Sty Γ7 σ7 H' → (Sty (Γi (i + 1)) σ7 H' ∧ Mi (i + 1) H') := fun H' e s => ⟨((s.lose (i := 5)).lose (i := 6)).lose (i := 7), m15.trans e.toImm, m25.trans e, ev', hs, L5.up e⟩
          have setR : ∀ (r' : Res) (te : TE) (H8 : Hp) (Dd : Ends), Ext H5 H8 → Sty Γ7 σ7 H8 → EvL te σ7 H8 (tyD K (resD r')) → (∀ σ' H', Sty (Γi (i + 1)) σ' H' ∧ Mi (i + 1) H' → Dd.nx σ' H') →
              tAsg (tTup (tCons (tC (.str "return")) (tCons (tOp (rIxT K) (tOp (rIxL K) (tVar 4) (tVar 6)) (tC (.int 1))) (tCons te tNil)))) (gSub (tVar 4) (tVar 6) rSetL) Dd σ7 H8 := fun r' te H8 Dd e8 s8 hte hnx => by
            refine m_setL s8 (L5.up e8) (d := evD (.ret c r')) (l_tup (ds := [.text "return", .text (cliS c), resD r']) (la_cons ((ev_s (K := K)).loc s8) (la_cons (l_ix (gt7 H8 e8 s8) rfl) (la_cons hte la_nil))) (by simp)) (ev_var rfl) (ev_var rfl) (by rw [hml]; exact hpl2) fun H9 e9 s9 L9 => ?_
            refine hnx σ7 H9 ⟨((s9.lose (i := 5)).lose (i := 6)).lose (i := 7), (m15.trans e8.toImm).trans e9.toImm, Ext.only (m25.trans e8) hp0 e9, ev'.set pl (.ret c r'), hs.set he0, ?_⟩
            rw [List.map_set]
            exact L9
          have eqT : ∀ (y : Str) (H8 : Hp), PyData.strOk y = true → Sty Γ7 σ7 H8 → EvTL (tTest (tOp (rEqD K) (tVar 7) (tC (.str y)))) σ7 H8 (decide (resD r = .text y)) := fun y H8 hy s8 => (et_eq (ev_var rfl) (ev_s (K := K)) (sh_res r) (.text hy)).loc s8
          have tail : ∀ (H8 : Hp) (Dd : Ends), Ext H5 H8 → Sty Γ7 σ7 H8 → (∀ σ' H', Sty (Γi (i + 1)) σ' H' ∧ Mi (i + 1) H' → Dd.nx σ' H') →
              tIfS (tTest (tOp (rEqD K) (tVar 7) (tC (.str "yes")))) (tAsg (tTup (tCons (tC (.str "return")) (tCons (tOp (rIxT K) (tOp (rIxL K) (tVar 4) (tVar 6)) (tC (.int 1))) (tCons (tC (.str "no")) tNil)))) (gSub (tVar 4) (tVar 6) rSetL))
                (tIfS (tTest (tOp (rEqD K) (tVar 7) (tC (.str "no")))) (tAsg (tTup (tCons (tC (.str "return")) (tCons (tOp (rIxT K) (tOp (rIxL K) (tVar 4) (tVar 6)) (tC (.int 1))) (tCons (tC (.str "yes")) tNil)))) (gSub (tVar 4) (tVar 6) rSetL)) tNext) Dd σ7 H8 := fun H8 Dd e8 s8 hnx => by
            refine m_if s8 (eqT "yes" H8 (by decide +kernel) s8) (fun _ H9 e9 s9 => setR .no _ H9 Dd (e8.trans e9) s9 ((ev_s (K := K)).loc s9) hnx) fun _ H9 e9 s9 => ?_
            exact m_if s9 (eqT "no" H9 (by decide +kernel) s9) (fun _ H10 e10 s10 => setR .yes _ H10 Dd ((e8.trans e9).trans e10) s10 ((ev_s (K := K)).loc s10) hnx) fun _ H10 e10 s10 => hnx _ _ (done7 H10 ((e8.trans e9).trans e10) s10)
          have hres : ∀ n : Nat, resD (.int (n : Int)) = .num (n : Int) := fun _ => rfl
          by_cases hI : isI r = true
          · obtain ⟨z, rfl⟩ : ∃ z, r = .int z := by cases r <;> first | exact ⟨_, rfl⟩ | cases hI
            refine m_if s7 (lt_and (b := true) (lt_B ((ev_isi (r := .int z) (ev_var rfl)).loc s7)) fun _ => (et_test (ev_op (ev_var (T := tyI K z) rfl) (ev_i (K := K)) rv_C0)).loc s7) (fun _ H8 e8 s8 => ?_) fun _ H8 e8 s8 => tail H8 _ (e57.trans e8) s8 fun _ _ h => h
            exact setR (.int (d2 : Int)) _ H8 _ (e57.trans e8) s8 ((ev_ixL (k := ((2 + 2 * i : Nat) : Int)) (ev_var rfl) (ev_is (ev_op (ev_i (K := K)) (ev_op ev_i (ev_var rfl) (rv_I (K := K) (C := CMul) (.inl (by decide)))) rv_I0) (by congr 2)) (at_nat (nums_at hd2))).loc s8) fun _ _ h => h
          · have hI : isI r = false := by cases h : isI r; rfl; exact absurd h hI
            exact m_if (b := false) s7 (EvTL.is (lt_and (b := false) (c := false) (lt_B (EvL.isB ((ev_isi (ev_var rfl)).loc s7) hI)) fun z => by cases z) rfl) (fun z => by cases z) fun _ H8 e8 s8 => tail H8 _ (e57.trans e8) s8 fun _ _ h => h
    · obtain ⟨m1, m2, ev', hs, L⟩ := mn
      exact m_retE (PP := Same ev) (TT := fun ev => ev.map evD) sn m2 hp0 L (ev_var rfl) hs q

/-! ### _law_history -/
def PHist (K : PySem.W.Frag) : List Ty → Ty → Prop := fun Ts T => ∃ (ns : List Int) (k : Nat), Ts = [tyL K (nums ns), tyI K (k : Int), tyI K ((9 : Nat) : Int)] ∧ T = tyE (fun h : Hist => h.Ok) fun h => tyD K (histD h)
theorem ev_tupL {K : PySem.W.Frag} {Γ : Gam} {te : TE} {ds : List D} (h : Ev te Γ (tyL K ds)) : Ev (tCB (rTupS K) (tCons te tNil)) Γ (tyT K ds) := fun σ H s Q q => h σ H s _ fun v H1 e r => by
  obtain ⟨a, xs, rfl, sq, t⟩ := r
  exact ⟨a, xs, rfl, .inl ⟨sq.sq, fun l hl => q _ _ (e.trans (Ext.new hl)) ⟨l, xs, rfl, .inl (.inl upd_same), t.imm (Ext.new hl).toImm _ _⟩⟩⟩
theorem ev_call3E {α : Type} {Γ : Gam} {a b c : TE} {A B T : Ty} {PP : α → Prop} {U : α → Ty} {F : List Ty → Ty → Prop} (ha : Ev a Γ A) (hb : Ev b Γ B) (hc : Ev c Γ (tyE PP U)) (hF : ∀ x, PP x → ∃ Tx, F [A, B, U x] Tx ∧ ∀ v H, Tx.is v H → T.is v H) : Ev (tCall (Pm [] F) [] E0 (tCons a (tCons b (tCons c tNil)))) Γ T := fun σ H s Q q =>
  ha σ H s _ fun va H1 e1 r1 => hb σ H1 (s.imm e1.toImm) _ fun vb H2 e2 r2 => hc σ H2 (s.imm (e1.trans e2).toImm) _ fun vc H3 e3 ⟨x, hx, r3⟩ => by
    obtain ⟨Tx, h1, h2⟩ := hF x hx
    exact ⟨_, Tx, h1, ⟨va, _, rfl, A.mono (e2.trans e3).toImm r1, vb, _, rfl, B.mono e3.toImm r2, vc, _, rfl, r3, rfl⟩, fun _ z => (by cases z), fun v H4 e4 r4 => q v H4 (((e1.trans e2).trans e3).trans e4) (h2 v H4 r4)⟩
theorem sc__law_history : FnScope ["_law_script", "_law_k", "_law_many_here", "_law_objects_here", "_law_events"] ["_law_script", "_law_k", "_law_many_here"] (defScope (top 43)) := C8.fnScope_by (by decide +kernel)
theorem cal__law_history {P : Program} {w : World} {K : PySem.W.Frag} {mg : Str → Option Value} {base : Heap} {f : Addr} {fd : FuncData} {cdv : Value} (F : FunC K mg "_law_history" (top 43) f fd cdv) (M : Nm mg)  (c__law_objects : Cal P w K mg base 3 "_law_objects" (Pm [] (PObjs K))) (c__law_weave : Cal P w K mg base 4 "_law_weave" (Pm [] (PWeave K))) (c__law_spoil : Cal P w K mg base 3 "_law_spoil" (Pm [] (PSpoil K))) : Cal P w K mg base (4 + 1) "_law_history" (Pm [] (PHist K)) := by
  have b := F.binds (ps := ["_law_script", "_law_k", "_law_many_here"]) fun _ _ _ _ _ _ us hl => match us, hl with | [_, _, _], _ => rfl
  have kds := F.kds
  have S := sc__law_history
  refine cal1 F b sc__law_history (fun Ts T h => ?hlen) (fun A outer s H E hr => have hu := hr.units; have hu1 := hu_of hr;
      (pss_cons (ps_set (i := 3) S.nd rfl (by first | exact .inl rfl | exact .inr rfl) (pe_c c__law_objects hr (by first | decide | omega) (by rfl) (pa_cons (pv 0) (pa_cons (pv 1) pa_nil))))
      (pss_cons (ps_set (i := 4) S.nd rfl (by first | exact .inl rfl | exact .inr rfl) (pe_c c__law_spoil hr (by first | decide | omega) (by rfl) (pa_cons (pv 0) (pa_cons (pe_op op_add (pv 1) pe_int) (pa_cons (pe_c c__law_weave hr (by first | decide | omega) (by rfl) (pa_cons (pv 0) (pa_cons (pe_op op_add (pv 1) pe_int) (pa_cons (pv 3) (pa_cons (pv 2) pa_nil))))) pa_nil)))))
      (pss_one (ps_ret (pe_tup (pa_cons (pe_callTy (k_cr_tupS K) (by rfl) M.n_tuple boot_tuple (pa_cons (pv 3) pa_nil)) (pa_cons (pe_callTy (k_cr_tupS K) (by rfl) M.n_tuple boot_tuple (pa_cons (pv 4) pa_nil)) pa_nil)))))))) (fun Ts T h => ?hbd)
  case hlen =>
    obtain ⟨ns, k, rfl, rfl⟩ := h
    rfl
  case hbd =>
    obtain ⟨ns, k, rfl, rfl⟩ := h
    intro σ H s D q
    refine q_set s (ev_call (tb := []) (F := PObjs K) (ea_cons (ev_var rfl) (ea_cons (ev_var rfl) ea_nil)) ⟨ns, k, rfl, rfl⟩ (by simp)) fun σ1 H1 e1 s1 => ?_
    obtain ⟨ks, ⟨k1, k3⟩, s1⟩ := s1.open (i := 3) rfl
    refine q_set s1 (ev_call3E (A := tyL K (nums ns)) (B := tyI K ((k + 2 : Nat) : Int)) (PP := fun ev : List OSx.Ev => WF ks ev ∧ ev.length ≤ 24 ∧ (opsOf ev).length ≤ 9) (U := fun ev => tyL K (ev.map evD)) (T := tyE (fun ev : List OSx.Ev => WF ks ev ∧ ev.length ≤ 24 ∧ (opsOf ev).length ≤ 9) fun ev => tyL K (ev.map evD)) (F := PSpoil K)
      (ev_var rfl) (ev_is (ev_op (ev_var rfl) (ev_i (K := K)) rv_I0) (by congr 2)) (ev_call (tb := []) (F := PWeave K) (Ts := [tyL K (nums ns), tyI K ((k + 1 : Nat) : Int), tyL K (objsD ks), tyI K ((9 : Nat) : Int)]) (ea_cons (ev_var rfl) (ea_cons (ev_is (ev_op (ev_var rfl) (ev_i (K := K)) rv_I0) (by congr 2)) (ea_cons (ev_var rfl) (ea_cons (ev_var rfl) ea_nil)))) ⟨ns, k + 1, ks, 9, k1, k3, rfl, rfl⟩ (by simp))
      fun ev ⟨h1, h2, h3⟩ => ⟨tyE (Same ev) fun ev' => tyL K (ev'.map evD), ⟨ns, k + 2, ev, by omega, rfl, rfl⟩, fun v H r => (by obtain ⟨ev', hs, r⟩ := r; exact ⟨ev', ⟨hs.wf h1, by rw [hs.len]; exact h2, by rw [hs.ops]; exact h3⟩, r⟩)⟩) fun σ2 H2 e2 s2 => ?_
    obtain ⟨ev, ⟨h1, h2, h3⟩, s2⟩ := s2.open (i := 4) rfl
    exact r_end (e1.trans e2) s2 (ev_imp (U := tyE (fun h : Hist => h.Ok) fun h => tyD K (histD h)) (ev_two (ev_tupL (ev_var rfl)) (ev_tupL (ev_var rfl))) fun v H r => ⟨⟨ks, ev⟩, ⟨k1, k3, h1, h3, Nat.le_trans h2 (by decide)⟩, r⟩) q
end OS

end

section
set_option maxHeartbeats 4000000
namespace OS
open PySem PySem.Spec PyProof.Rows L2 GxR OSx

theorem pss_ghost {X : Cx} {sts : List Stmt} {t : TS} (h : PSs X sts t) : PSs X sts (fun D σ H => t D σ H ∨ ∃ a xs, H a = some (.lst xs) ∧ ∀ o, t D σ (upd H a (.frz o (.lst xs)))) := by
  refine ⟨fun pins s σ H D I hq => ?_⟩
  rcases hq with hq | ⟨a, xs, ha, hq⟩
  · exact h.run pins s σ H D I hq
  · obtain ⟨od, I2⟩ := I.lock ha trivial
    exact h.run pins s σ _ D I2 (hq od)
section
variable {K : PySem.W.Frag} {Γ : Gam} {te ta tb : TE} {i j : Int} {b : Bool} {P : Prop} {σ : L2.St} {H : Hp} {Dd : Ends} {tz : TS} {g : TG}
theorem ev_max (ha : Ev ta Γ (tyI K i)) (hb : Ev tb Γ (tyI K j)) : Ev (tCB (fun xs H Q => ∃ i j, xs = [V.int i, .int j] ∧ Q (.int (if j > i then j else i)) H) (tCons ta (tCons tb tNil))) Γ (tyI K (if j > i then j else i)) :=
  ev_cb (Ts := [tyI K i, tyI K j]) (ea_cons ha (ea_cons hb ea_nil)) fun vs H h Q q => by
    obtain ⟨v, r, rfl, h1, w, r2, rfl, h2, rfl⟩ := h
    exact ⟨i, j, by rw [show v = _ from h1, show w = _ from h2], q _ H (ExtS.refl H) rfl⟩
theorem ev_min (ha : Ev ta Γ (tyI K i)) (hb : Ev tb Γ (tyI K j)) : Ev (tCB (fun xs H Q => ∃ i j, xs = [V.int i, .int j] ∧ Q (.int (if j < i then j else i)) H) (tCons ta (tCons tb tNil))) Γ (tyI K (if j < i then j else i)) :=
  ev_cb (Ts := [tyI K i, tyI K j]) (ea_cons ha (ea_cons hb ea_nil)) fun vs H h Q q => by
    obtain ⟨v, r, rfl, h1, w, r2, rfl, h2, rfl⟩ := h
    exact ⟨i, j, by rw [show v = _ from h1, show w = _ from h2], q _ H (ExtS.refl H) rfl⟩
theorem ev_yes (h : Ev te Γ (tyE (fun b : Bool => b = true ↔ P) tyB)) (hp : P) : Ev te Γ (tyB true) := ev_imp h fun v H ⟨b, hb, r⟩ => by
  rw [show v = _ from r, hb.mpr hp] <;> rfl
theorem ev_no (h : Ev te Γ (tyE (fun b : Bool => b = true ↔ P) tyB)) (hp : ¬ P) : Ev te Γ (tyB false) := ev_imp h fun v H ⟨b, hb, r⟩ => by
  have : b = false := by
    cases b with
    | false => rfl
    | true => exact absurd (hb.mp rfl) hp
  rw [show v = _ from r, this] <;> rfl
theorem ev_tupRg {n : Nat} (h : Ev ta Γ (tyI K (n : Int))) (hn : n ≤ 100000) : Ev (tTupRg (tRg1 ta)) Γ (tyT K (nums (nats (List.range n)))) := fun σ H s Q q => h σ H s _ fun v H1 e r => by
  obtain rfl : v = .int (n : Int) := r
  refine ⟨n, rfl, RgOk.of_le (by omega) (by omega) (by omega) (by omega), fun p hp => q _ _ (e.trans (Ext.new hp)) ⟨p, _, rfl, .inl (.inl upd_same), ?_⟩⟩
  have : rgV 0 (n : Int) = (nats (List.range n)).map V.int := by
    unfold rgV
    rw [Int.sub_zero, Int.toNat_natCast, List.map_map]
    refine List.map_congr_left fun i _ => ?_
    show V.int (0 + (i : Int)) = V.int (i : Int)
    rw [Int.zero_add]
  rw [this]
  exact tds_of_nums _
theorem q_asgE {α : Type} {PP : α → Prop} {U : α → Ty} (s : Sty Γ σ H) (h : Ev te Γ (tyE PP U)) (k : ∀ x, PP x → ∀ v H', Ext H H' → (U x).is v H' → Sty Γ σ H' → g v σ H' fun σ' H'' => tz Dd σ' H'') : tSeq (tAsg te g) tz Dd σ H :=
  h σ H s _ fun v H1 e ⟨x, hx, r⟩ => k x hx v H1 e r (s.imm e.toImm)
theorem ev_call3T {α : Type} {tabs : List Addr} {a b c : TE} {A B T : Ty} {PP : α → Prop} {U : α → Ty} {F : List Ty → Ty → Prop} (ha : Ev a Γ A) (hb : Ev b Γ B) (hc : Ev c Γ (tyE PP U)) (hF : ∀ x, PP x → ∃ Tx, F [A, B, U x] Tx ∧ ∀ v H, Tx.is v H → T.is v H) (ht : ∀ P ∈ tabs, P ∈ Γ.tb) : Ev (tCall (Pm tabs F) [] E0 (tCons a (tCons b (tCons c tNil)))) Γ T := fun σ H s Q q =>
  ha σ H s _ fun va H1 e1 r1 => hb σ H1 (s.imm e1.toImm) _ fun vb H2 e2 r2 => hc σ H2 (s.imm (e1.trans e2).toImm) _ fun vc H3 e3 ⟨x, hx, r3⟩ => by
    obtain ⟨Tx, h1, h2⟩ := hF x hx
    exact ⟨_, Tx, h1, ⟨va, _, rfl, A.mono (e2.trans e3).toImm r1, vb, _, rfl, B.mono e3.toImm r2, vc, _, rfl, r3, rfl⟩, fun P hP => ((e1.trans e2).trans e3).tab P (s.tab P (ht P hP)), fun v H4 e4 r4 => q v H4 (((e1.trans e2).trans e3).trans e4) (h2 v H4 r4)⟩
end
def SpLaw (K : PySem.W.Frag) (tabs : List Addr) : Sp := fun vs H Q _ => ∃ (a : Addr) (ns : List Int), vs = [.ref a] ∧ SqL K H a (ns.map V.int) ∧ (∀ T ∈ tabs, H T = some (.tbl #[])) ∧ ns.length ≤ 1000 ∧ ∀ H', Q (.bl true) H'
theorem order_few {h : Hist} {m : Bool} (ok : h.Ok) {r : List Nat} (ho : IsRow (h.sys m) r) : r.length ≤ 40 := by
  have nine : h.ops.length ≤ 9 := ok.nine
  have := OSx.sub_len (m := List.range h.ops.length) ho.1 fun i hi => List.mem_range.mpr (ho.2.1 i hi)
  rw [List.length_range] at this
  omega
theorem tab0 {H : Hp} {T : Addr} (h : H T = some (.tbl #[])) : TabG H T := ⟨#[], h, by first | trivial | exact ⟨⟩ | simp [TriplesOk]⟩
theorem ghost_cases {K : PySem.W.Frag} {tabs : List Addr} {t : TS} {ns : List Int} {a : Addr} {H : Hp} {Q : VK} {Dn : L2.St → Hp → Prop} (hb : Bd t ⟨tabs, [some (tyL K (nums ns)), none, none, none, none, none, none]⟩ (tyB true)) (hS : SqL K H a (ns.map V.int)) (hT : ∀ T ∈ tabs, H T = some (.tbl #[])) (hk : ∀ H', Q (.bl true) H') :
    (fun D σ H => t D σ H ∨ ∃ a xs, H a = some (.lst xs) ∧ ∀ o, t D σ (upd H a (.frz o (.lst xs)))) { nx := Dn, rt := Q } [some (.ref a), none, none, none, none, none, none] H := by
  have fin : ∀ H', SqF K H' a (ns.map V.int) → (∀ T ∈ tabs, TabG H' T) → t { nx := Dn, rt := Q } [some (.ref a), none, none, none, none, none, none] H' := fun H' hs ht =>
    hb _ H' (Sty.cons ⟨a, _, rfl, hs, tds_of_nums ns⟩ (Sty.nils ht 6)) _ fun v H2 _ r => by
      rw [show v = _ from r]
      exact hk H2
  rcases hS with (h1 | ⟨o, h1⟩) | h1
  · refine .inr ⟨a, _, h1, fun o => fin _ (.inl ⟨o, upd_same⟩) fun T hT' => (Imm.mut h1 trivial).tab T (tab0 (hT T hT'))⟩
  · exact .inl (fin H (.inl ⟨o, h1⟩) fun T hT' => tab0 (hT T hT'))
  · exact .inl (fin H (.inr h1) fun T hT' => tab0 (hT T hT'))
theorem sc_law : FnScope ["_law_script", "_law_k", "_law_whole", "_law_many_here", "_law_model", "_law_word", "_law_found"] ["_law_script"] (defScope (top 45)) := C8.fnScope_by (by decide +kernel)
theorem cal_law {P : Program} {w : World} {K : PySem.W.Frag} {mg : Str → Option Value} {base : Heap} {f : Addr} {fd : FuncData} {cdv : Value} (F : FunC K mg "law" (top 45) f fd cdv) (M : Nm mg) {tabs : List Addr} (c__law_history : Cal P w K mg base 5 "_law_history" (Pm [] (PHist K))) (c_operations : Cal P w K mg base 4 "operations" (Pm [] (POps K))) (c_find : Cal P w K mg base 19 "find" (Pm tabs (PFind K))) (c_is_order : Cal P w K mg base 7 "is_order" (Pm tabs (POrd K))) (c_is_closed : Cal P w K mg base 10 "is_closed" (Pm tabs (PClosed K))) (c_told_table : Cal P w K mg base 8 "told_table" (Pm tabs (PTold K))) (c__law_row : Cal P w K mg base 3 "_law_row" (Pm [] (PLRow K))) (c_fits : Cal P w K mg base 20 "fits" (Pm tabs (PFits K))) : FnOk P w K mg base CX0 (20 + 1) f fd ["_law_script"] (SpLaw K tabs) := by
  have b := F.binds (ps := ["_law_script"]) fun _ _ _ _ _ _ us hl => match us, hl with | [_], _ => rfl
  have kds := F.kds
  have S := sc_law
  refine fnok1 F sc_law (fun vs H Q E h => ?hlen) (fun A outer s H E hr => have hu := hr.units; have hu1 := hu_of hr;
      (pss_ghost (pss_cons (ps_for PassesOwn.never rfl (pi_range1 (by rfl) M.n_range (pa_cons (pe_callB (call_min2 rfl) (by rfl) M.n_min boot_min (pa_cons pe_int (pa_cons (pe_callB (call_max2 rfl) (by rfl) M.n_max boot_max (pa_cons pe_int (pa_cons (pe_op op_fdivN (pe_callB (k_cr_lenS K) (by rfl) M.n_len boot_len (pa_cons (pv 0) pa_nil)) pe_int) pa_nil))) pa_nil))) pa_nil)) (pg_name (i := 1) S.nd rfl (by first | exact .inl rfl | exact .inr rfl))
        (pss_cons (ps_set (i := 2) S.nd rfl (by first | exact .inl rfl | exact .inr rfl) (pe_c c__law_history hr (by first | decide | omega) (by rfl) (pa_cons (pv 0) (pa_cons (pe_op op_mul pe_int (pv 1)) (pa_cons pe_int pa_nil)))))
        (pss_cons (ps_set (i := 3) S.nd rfl (by first | exact .inl rfl | exact .inr rfl) (pe_callB (k_cr_lenS K) (by rfl) M.n_len boot_len (pa_cons (pe_c c_operations hr (by first | decide | omega) (by rfl) (pa_cons (pv 2) pa_nil)) pa_nil)))
        (pss_cons (ps_for PassesOwn.never rfl (k_pi_list K (pe_frz (pe_lst (pa_cons pe_str (pa_cons pe_str pa_nil))))) (pg_name (i := 4) S.nd rfl (by first | exact .inl rfl | exact .inr rfl))
          (pss_cons (ps_asg (pe_c c_find hr (by first | decide | omega) (by rfl) (pa_cons (pv 2) (pa_cons (pv 4) pa_nil))) (k_pg_tup K (n := 2) rfl (pgs_cons (pg_name (i := 5) S.nd rfl (by first | exact .inl rfl | exact .inr rfl)) (pgs_cons (pg_name (i := 6) S.nd rfl (by first | exact .inl rfl | exact .inr rfl)) pgs_nil))))
          (pss_one (ps_if (pt_cmpR (k_op_eqD K hu) (pv 5) pe_str (nomark _))
            (pss_one (ps_if (PW.pt (pw_or (pt_not (pt_val (pe_c c_is_order hr (by first | decide | omega) (by rfl) (pa_cons (pv 2) (pa_cons (pv 4) (pa_cons (pv 6) pa_nil)))))) (pw_or1 (pt_val (pe_c c_is_closed hr (by first | decide | omega) (by rfl) (pa_cons (pv 2) (pa_cons (pv 4) (pa_cons (pe_c c_told_table hr (by first | decide | omega) (by rfl) (pa_cons (pv 2) (pa_cons (pv 4) pa_nil))) pa_nil))))))))
              (pss_one (ps_ret pe_bl))
              pss_nil))
            (pss_cons (ps_if (PW.pt (pw_or (pt_not (pt_val (pe_c c_is_closed hr (by first | decide | omega) (by rfl) (pa_cons (pv 2) (pa_cons (pv 4) (pa_cons (pv 6) pa_nil)))))) (pw_or1 (pt_cmpR (k_op_neD K hu) (pv 6) (pe_c c_told_table hr (by first | decide | omega) (by rfl) (pa_cons (pv 2) (pa_cons (pv 4) pa_nil))) (nomark _)))))
              (pss_one (ps_ret pe_bl))
              pss_nil)
            (pss_one (ps_if (PW.pt (pw_or (pt_val (pe_c c_is_order hr (by first | decide | omega) (by rfl) (pa_cons (pv 2) (pa_cons (pv 4) (pa_cons (pe_tupRg rfl (by rfl) M.n_tuple (prg_1 (by rfl) M.n_range (pv 3))) pa_nil))))) (pw_or1 (pt_val (pe_c c_is_order hr (by first | decide | omega) (by rfl) (pa_cons (pv 2) (pa_cons (pv 4) (pa_cons (pe_c c__law_row hr (by first | decide | omega) (by rfl) (pa_cons (pv 0) (pa_cons (pe_op op_add (pe_op op_mul pe_int (pv 1)) pe_int) (pa_cons (pv 3) pa_nil)))) pa_nil))))))))
              (pss_one (ps_ret pe_bl))
              pss_nil)))))))
        (pss_one (ps_if (PW.pt (pw_and (pt_val (pe_c c_fits hr (by first | decide | omega) (by rfl) (pa_cons (pv 2) (pa_cons pe_str pa_nil)))) (pw_and1 (pt_not (pt_val (pe_c c_fits hr (by first | decide | omega) (by rfl) (pa_cons (pv 2) (pa_cons pe_str pa_nil))))))))
          (pss_one (ps_ret pe_bl))
          pss_nil))))))
      (pss_one (ps_ret pe_bl))))) (fun vs H Q E h => ?hbd)
  case hlen =>
    obtain ⟨a, ns, rfl, _⟩ := h
    rfl
  case hbd =>
    obtain ⟨a, ns, rfl, hS, hT, hnl, hk⟩ := h
    refine ghost_cases ?_ hS hT hk
    clear hS hT hk
    intro σ H s D q
    obtain ⟨n, hn, hn8⟩ : ∃ n : Nat, (if (if ((ns.length : Int).fdiv 4) > 1 then ((ns.length : Int).fdiv 4) else 1) < 8 then (if ((ns.length : Int).fdiv 4) > 1 then ((ns.length : Int).fdiv 4) else 1) else 8) = (n : Int) ∧ n ≤ 8 := by
      refine ⟨(if (if ((ns.length : Int).fdiv 4) > 1 then ((ns.length : Int).fdiv 4) else 1) < 8 then (if ((ns.length : Int).fdiv 4) > 1 then ((ns.length : Int).fdiv 4) else 1) else 8).toNat, ?_, ?_⟩
      · rw [Int.toNat_of_nonneg]
        split <;> (try split) <;> omega
      · split <;> (try split) <;> omega
    have hnl2 : (nums ns).length = ns.length := by simp
    refine q_for s (iv_rng (n := n) (ea_cons (ev_is (ev_min ev_i (ev_max ev_i (ev_op (ev_cb (ea_cons (ev_var rfl) ea_nil) rc_lenL) ev_i (rv_I (K := K) (C := CDivN) ⟨by decide, by decide⟩)))) (by rw [hnl2, hn])) ea_nil) (by omega)) fun H1 e1 s1 => ?_
    let Γi : Nat → Gam := fun _ => ⟨tabs, [some (tyL K (nums ns)), none, none, none, none, none, none]⟩
    let Mi : Nat → Hp → Prop := fun i H' => Imm H1 H' ∧ Ext H H'
    refine ⟨Γi, Mi, s1, ⟨Imm.refl _, e1⟩, fun i H' mm => mm.1, fun i σ' H' hi si mi x H2 ex rx s' => ?_, fun σ' H' sn mn => ?_⟩
    · obtain ⟨m1, m2⟩ := mi
      have snx : Sty ⟨tabs, [some (tyL K (nums ns)), some (tyI K (i : Int)), none, none, none, none, none]⟩ (σ'.set 1 (some x)) H2 := Sty.set (i := 1) s' rx
      show tSeq _ _ _ (σ'.set 1 (some x)) H2
      refine q_set snx (ev_call (tb := []) (F := PHist K) (Ts := [tyL K (nums ns), tyI K ((4 * i : Nat) : Int), tyI K ((9 : Nat) : Int)]) (ea_cons (ev_var rfl) (ea_cons (ev_is (ev_op (ev_i (K := K)) (ev_var rfl) (rv_I (K := K) (C := CMul) (.inl (by decide)))) (by congr 2)) (ea_cons (ev_i (K := K)) ea_nil))) ⟨ns, 4 * i, rfl, rfl⟩ (by simp)) fun σ3 H3 e3 s3 => ?_
      obtain ⟨h, ok, s3⟩ := s3.open (i := 2) rfl
      have nine : h.ops.length ≤ 9 := ok.nine
      have hol : (opsD h.ops).length = h.ops.length := by simp [opsD]
      refine q_set s3 (ev_is (ev_cb (ea_cons (ev_call (tb := []) (F := POps K) (ea_cons (ev_var rfl) ea_nil) ⟨h, ok, rfl, rfl⟩ (by simp)) ea_nil) rc_lenL) (by rw [hol])) fun σ4 H4 e4 s4 => ?_
      have m4 := m1.trans ((ex.toImm.trans e3.toImm).trans e4.toImm)
      have e04 := ((m2.trans ex).trans e3).trans e4
      refine q_for s4 (iv_list (ev_frz (en_lst (ds := [.text "real", .text "client"]) (ea_cons (ev_s (K := K)) (ea_cons (ev_s (K := K)) ea_nil)) (by simp)))) fun H5 e5 s5 => ?_
      let Γj : Nat → Gam := fun _ => ⟨tabs, [some (tyL K (nums ns)), some (tyI K (i : Int)), some (tyD K (histD h)), some (tyI K (h.ops.length : Int)), none, none, none]⟩
      let Mj : Nat → Hp → Prop := fun j H' => Imm H5 H' ∧ Ext H H'
      refine ⟨Γj, Mj, s5, ⟨Imm.refl _, e04.trans e5⟩, fun i H' mm => mm.1, fun j σ6 H6 hj sj mj y H7 ey ry s7 => ?_, fun σ6 H6 sn mn => ?_⟩
      · obtain ⟨n1, n2⟩ := mj
        obtain ⟨m, hm⟩ : ∃ m : Bool, ([NestedKey.text "real", .text "client"] : List NestedKey).getD j .none = .text (modS m) := by
          have : j < 2 := hj
          match j, this with
          | 0, _ => exact ⟨true, rfl⟩
          | 1, _ => exact ⟨false, rfl⟩
        rw [hm] at ry
        have s8 : Sty ⟨tabs, [some (tyL K (nums ns)), some (tyI K (i : Int)), some (tyD K (histD h)), some (tyI K (h.ops.length : Int)), some (tyS K (modS m)), none, none]⟩ (σ6.set 4 (some y)) H7 := Sty.set (i := 4) s7 ry
        show tSeq _ _ _ (σ6.set 4 (some y)) H7
        refine q_asgE s8 (ev_call (tb := tabs) (F := PFind K) (ea_cons (ev_var rfl) (ea_cons (ev_var rfl) ea_nil)) ⟨h, m, ok, rfl, rfl⟩ (fun _ z => z)) fun d hd v H8 e8 rv s8' => ?_
        rcases hd with ⟨row, rfl, ho⟩ | ⟨ds, rfl, htold, hnf⟩
        · refine gt_tup2 (vs := [5, 6]) (gt_name (by simp)) (gt_name (by simp)) v _ H8 s8' rv _ fun σ9 s9 _ => ?_
          have s9 : Sty ⟨tabs, [some (tyL K (nums ns)), some (tyI K (i : Int)), some (tyD K (histD h)), some (tyI K (h.ops.length : Int)), some (tyS K (modS m)), some (tyS K "order"), some (tyT K (nums (nats row)))]⟩ σ9 H8 := s9
          refine s_if (b := true) s9 (et_str (ev_var rfl) (by decide +kernel) (decide_eq_true rfl)) (fun _ H10 e10 s10 => ?_) fun z => by cases z
          refine s_when (b := false) s10 (et_is (et_or (b := false) (c := false) (et_not (b := true) (et_B (ev_yes (ev_call (tb := tabs) (F := POrd K) (ea_cons (ev_var rfl) (ea_cons (ev_var rfl) (ea_cons (ev_var rfl) ea_nil))) ⟨h, m, row, ok, ho.1.2.1, order_few ok ho.1, rfl, rfl⟩ (fun _ z => z)) ho))) fun _ => et_B (ev_no (P := ¬ Fits (h.sys m)) (ev_call3T (tabs := tabs) (A := tyD K (histD h)) (B := tyS K (modS m)) (PP := IsTold h m) (U := tyT K) (F := PClosed K) (ev_var rfl) (ev_var rfl) (ev_call (tb := tabs) (F := PTold K) (ea_cons (ev_var rfl) (ea_cons (ev_var rfl) ea_nil)) ⟨h, m, ok, rfl, rfl⟩ (fun _ z => z)) (fun ds hds => ⟨_, ⟨h, m, ds, ok, hds, rfl, rfl⟩, fun v H r => r⟩) (fun _ z => z)) fun z => z (fits_of_order _ ho))) rfl) (fun z => by cases z) fun _ H11 e11 s11 => ?_
          exact ⟨((s11.lose (i := 4)).lose (i := 5)).lose (i := 6), n1.trans (((ey.toImm.trans e8.toImm).trans e10.toImm).trans e11.toImm), (((n2.trans ey).trans e8).trans e10).trans e11⟩
        · refine gt_tup2 (vs := [5, 6]) (gt_name (by simp)) (gt_name (by simp)) v _ H8 s8' rv _ fun σ9 s9 _ => ?_
          have s9 : Sty ⟨tabs, [some (tyL K (nums ns)), some (tyI K (i : Int)), some (tyD K (histD h)), some (tyI K (h.ops.length : Int)), some (tyS K (modS m)), some (tyS K "table"), some (tyT K ds)]⟩ σ9 H8 := s9
          have evT : ∀ Γ : Gam, Γ.tb = tabs → Γ.l[2]? = some (some (tyD K (histD h))) → Γ.l[4]? = some (some (tyS K (modS m))) → Ev (tCall (Pm tabs (PTold K)) [] E0 (tCons (tVar 2) (tCons (tVar 4) tNil))) Γ (tyD K (.tup ds)) := fun Γ g0 g2 g4 =>
            ev_imp (ev_call (tb := tabs) (F := PTold K) (ea_cons (ev_var g2) (ea_cons (ev_var g4) ea_nil)) ⟨h, m, ok, rfl, rfl⟩ (fun _ z => g0 ▸ z)) fun v H ⟨ds', hds', r⟩ => by
              rw [told_uniq ok htold hds']
              exact r
          refine s_if (b := false) s9 (et_str (ev_var rfl) (by decide +kernel) (decide_eq_false (by decide +kernel))) (fun z => by cases z) fun _ H10 e10 s10 => ?_
          show tSeq _ _ _ σ9 H10
          refine q_when (b := false) s10 (et_is (et_or (b := false) (c := false) (et_not (b := true) (et_B (ev_yes (ev_call (tb := tabs) (F := PClosed K) (ea_cons (ev_var rfl) (ea_cons (ev_var rfl) (ea_cons (ev_var rfl) ea_nil))) ⟨h, m, ds, ok, htold, rfl, rfl⟩ (fun _ z => z)) hnf))) fun _ => et_is (et_ne (d := .tup ds) (e := .tup ds) (ev_var rfl) (evT _ rfl rfl rfl) (sh_told htold) (sh_told htold)) (by simp)) rfl) (fun z => by cases z) fun _ H11 e11 s11 => ?_
          have hno : ∀ r : List Nat, ¬ IsOrder (h.sys m) r := fun r hr => hnf (fits_of_order _ hr)
          refine s_when (b := false) s11 (et_is (et_or (b := false) (c := false) (et_B (ev_no (ev_call (tb := tabs) (F := POrd K) (Ts := [tyD K (histD h), tyS K (modS m), tyT K (nums (nats (List.range h.ops.length)))]) (ea_cons (ev_var rfl) (ea_cons (ev_var rfl) (ea_cons (ev_tupRg (ev_var rfl) (by omega)) ea_nil))) ⟨h, m, List.range h.ops.length, ok, fun i hi => List.mem_range.mp hi, by rw [List.length_range]; omega, rfl, rfl⟩ (fun _ z => z)) (hno _)))
            fun _ => et_B (ev_call3T (tabs := tabs) (A := tyD K (histD h)) (B := tyS K (modS m)) (PP := fun r : List Nat => r.length = h.ops.length ∧ ∀ i ∈ r, i < h.ops.length) (U := fun r => tyT K (nums (nats r))) (F := POrd K) (ev_var rfl) (ev_var rfl)
              (ev_call (tb := []) (F := PLRow K) (Ts := [tyL K (nums ns), tyI K ((4 * i + 3 : Nat) : Int), tyI K (h.ops.length : Int)]) (ea_cons (ev_var rfl) (ea_cons (ev_is (ev_op (ev_op (ev_i (K := K)) (ev_var rfl) (rv_I (K := K) (C := CMul) (.inl (by decide)))) (ev_i (K := K)) rv_I0) (by congr 2)) (ea_cons (ev_var rfl) ea_nil))) ⟨ns, 4 * i + 3, h.ops.length, by omega, rfl, rfl⟩ (by simp))
              (fun r hr => ⟨_, ⟨h, m, r, ok, hr.2, by rw [hr.1]; omega, rfl, rfl⟩, fun v H ⟨b, hb, rb⟩ => by
                have : b = false := by
                  cases b with
                  | false => rfl
                  | true => exact absurd (hb.mp rfl) (hno r)
                rw [show v = _ from rb, this] <;> rfl⟩) (fun _ z => z))) rfl) (fun z => by cases z) fun _ H12 e12 s12 => ?_
          exact ⟨((s12.lose (i := 4)).lose (i := 5)).lose (i := 6), n1.trans ((((ey.toImm.trans e8.toImm).trans e10.toImm).trans e11.toImm).trans e12.toImm), ((((n2.trans ey).trans e8).trans e10).trans e11).trans e12⟩
      · obtain ⟨n1, n2⟩ := mn
        have sF : ∀ (m : Bool) (x : Str), x = modS m → Ev (tCall (Pm tabs (PFits K)) [] E0 (tCons (tVar 2) (tCons (tC (.str x)) tNil))) ⟨tabs, [some (tyL K (nums ns)), some (tyI K (i : Int)), some (tyD K (histD h)), some (tyI K (h.ops.length : Int)), none, none, none]⟩ (tyE (fun b : Bool => b = true ↔ Fits (h.sys m)) tyB) := fun m x hx => by
          subst hx
          exact ev_call (tb := tabs) (F := PFits K) (ea_cons (ev_var rfl) (ea_cons (ev_s (K := K)) ea_nil)) ⟨h, m, ok, rfl, rfl⟩ (fun _ z => z)
        have fin : ∀ H', Ext H6 H' → Sty _ σ6 H' → (Sty (Γi (i + 1)) σ6 H' ∧ Mi (i + 1) H') := fun H' e s => ⟨((Sty.lose (i := 1) (Γ := ⟨tabs, [some (tyL K (nums ns)), some (tyI K (i : Int)), some (tyD K (histD h)), some (tyI K (h.ops.length : Int)), none, none, none]⟩) s).lose (i := 2)).lose (i := 3), ((m4.trans e5.toImm).trans n1).trans e.toImm, n2.trans e⟩
        by_cases hf : Fits (h.sys true)
        · exact s_when (b := false) sn (et_is (et_and (b := true) (c := false) (et_B (ev_yes (sF true _ rfl) hf)) fun _ => et_not (b := true) (et_B (ev_yes (sF false _ rfl) (fits_client ok hf)))) rfl) (fun z => by cases z) fun _ H7 e7 s7 => fin H7 e7 s7
        · exact s_when (b := false) sn (et_is (et_and (b := false) (c := false) (et_B (ev_no (sF true _ rfl) hf)) fun z => by cases z) rfl) (fun z => by cases z) fun _ H7 e7 s7 => fin H7 e7 s7
    · exact s_ret sn ev_b fun v H2 e2 r2 => q v H2 (mn.2.trans e2) r2
end OS

end

section
set_option maxHeartbeats 4000000
namespace OS
open PySem PySem.Spec PyProof.Rows L2
/-- each def of the text: its code object, its table (empty) -/
def AllTab (q : Program) (mg : Str → Option Value) (h : Heap) : Prop := ∀ d ∈ recsOf q, ∃ (a : Addr) (o : Obj) (fd : FuncData) (c P : Addr), mg d.name = some (.ref a) ∧ h.get? a = some o ∧ o.data = .func fd ∧ fd.code = .ref c ∧ PySem.W.CodeHd h c P ∧ h.get? P = some { cls := .none, data := .fields #[] }
theorem walk_allTab {l : PySem.W.OpenLaw} {n k : Nat} {q : Program} {loose : List Str} {XP : (Str → Option Value) → Heap → Prop} {YP : World → Heap → Prop} {d : DefRec} {K : Params → PySem.W.Frag} {CX : World → CXT} {x : Str}
    (hn : l.most = some n) (hn2 : n ≤ sizeLine) (hdf : d.params.defaults = []) (hr : Room k callerA) (hY : ∀ (w : World) (h : Heap), YP w h → (K w.params).In h)
    (F : ∀ (w : World) (mg : Str → Option Value) (fa : Addr) (h : Heap), (K w.params).In h → h.Ns mainGlobals mg → mg d.name = some (.ref fa) → AllTab q mg h → LamX.LawAtS l w (K w.params) (CX w) k n x mg fa h)
    (hCX : ∀ (w : World) (H : Hp) (s : Shared) (e : Value) (s' : Shared), CX w [] H s (fun _ _ _ => False) e s' → False) :
    PySem.W.WalkO q loose XP YP l.row.toRowW d [] (fun f vs => PySem.call f vs) := by
  refine Att.attach_callB hn hdf fun w s₀ s₁ mg mb fa o pm cd doc a vs ns G Y ho hd hcd hmg hobj hints hlen hbits hg => ?_
  have KX := hY w _ Y
  have own : AllTab q mg s₁.heap := fun dL hm => by
    obtain ⟨a', o', fd', c', P', h1, h2, h3, h4, h5, h6⟩ := G.T.tab dL hm
    exact ⟨a', o', fd', c', P', h1, h2, h3, h4, PySem.W.CodeHd.of h5 h6, h6.2⟩
  obtain ⟨fd, cs, sp, hT, nT, C, hb, hsp, hF⟩ := F w mg fa _ KX G.T.g hmg own
  exact LamX.law_callTs KX G.T.g G.T.b G.T.builtins G.T.nolimit hg hT nT C G.T.bmain hobj hints (Nat.le_trans hlen hn2) hr hF hb (fun H hH hS => hsp H a ns hlen hbits hH hS) fun H e s' => hCX w H s₁ e s'
theorem tab_of {q : Program} {mg : Str → Option Value} {h : Heap} {K : PySem.W.Frag} {x : Str} {st : Stmt} {f c P : Addr} {fd : FuncData} {e : Value} {dd : Option Addr} {vs : Array Value} {sl : Array (Option Value)} (A : AllTab q mg h) (X : K.In h) (hr : ((recsOf q).any fun e => e.name == x) = true)
    (F : FunC K mg x st f fd (.ref c)) (lc : K.lookup c = some ⟨e, dd, .fields vs, sl⟩) (h11 : vs[11]? = some (.ref P)) : PySem.W.CodeHd h c P ∧ h.get? P = some { cls := .none, data := .fields #[] } := by
  obtain ⟨d, hd, hn⟩ := List.any_eq_true.mp hr
  have hn : d.name = x := beq_iff_eq.mp hn
  obtain ⟨a, o, fd', c', P', h1, h2, h3, h4, h5, h6⟩ := A d hd
  rw [hn, F.mgf] at h1
  cases h1
  obtain ⟨oc, od, kV, doc, pm, an, ct, osl, e1, lk, hcd⟩ := F.ex
  rw [X _ _ lk] at h2
  cases h2
  cases h3
  rw [e1] at h4
  have h4 : Value.ref c = .ref c' := h4
  cases h4
  have h5' := h5
  obtain ⟨o2, vs2, file, tf, flags, tg, inF, text, tt, g1, g2, g3, g4, _⟩ := h5'
  rw [X _ _ lc] at g1
  cases g1
  cases g3
  rw [h11] at g4
  cases g4
  exact ⟨h5, h6⟩
theorem fc_mk {K : PySem.W.Frag} {mg : Str → Option Value} {h : Heap} {x : Str} {st : Stmt} {f : Addr} {oc : Value} {od : Option Addr} {kV doc pm : Value} {an : Option Addr} {cdv ct : Value} {osl : Array (Option Value)} (X : K.In h) (G : h.Ns mainGlobals mg)
    (a : PySem.W.nsIn K mainGlobals x = some (some (.ref f))) (l : K.lookup f = some ⟨oc, od, .func (PySem.W.fnOf x x (defArgs st) (defBody st) (defScope st) .none kV doc pm an cdv ct), osl⟩) (c : PySem.W.codeIn K cdv x = true) (k : PySem.W.keepIn K (.ref f) = true) :
    FunC K mg x st f (PySem.W.fnOf x x (defArgs st) (defBody st) (defScope st) .none kV doc pm an cdv ct) cdv := ⟨⟨oc, od, kV, doc, pm, an, ct, osl, rfl, l, c⟩, k, PySem.W.mg_of X G a⟩
theorem tabB_of {base : Heap} {mg : Str → Option Value} {c P : Addr} (h : LamX.TabB base mg c P) : GxR.TabB base mg c P := ⟨h.code, h.bm, h.gP⟩
end OS

end

section
set_option maxHeartbeats 4000000
namespace OS
open PySem PySem.Spec PyProof.Rows L2
theorem all_mk {l : PySem.W.OpenLaw} {q : Program} {w : World} {K : PySem.W.Frag} {h : Heap} {mg : Str → Option Value} {fa : Addr} (X : K.In h) (G : h.Ns mainGlobals mg) (hfa : mg "law" = some (.ref fa)) (A : AllTab q mg h)
    {f2 : Addr} {oc2 kV2 dc2 pm2 ct2 cd2 : Value} {od2 an2 : Option Addr} {sl2 : Array (Option Value)}
    {f3 : Addr} {oc3 kV3 dc3 pm3 ct3 cd3 : Value} {od3 an3 : Option Addr} {sl3 : Array (Option Value)}
    {f4 : Addr} {oc4 kV4 dc4 pm4 ct4 cd4 : Value} {od4 an4 : Option Addr} {sl4 : Array (Option Value)}
    {f5 : Addr} {oc5 kV5 dc5 pm5 ct5 cd5 : Value} {od5 an5 : Option Addr} {sl5 : Array (Option Value)}
    {f6 : Addr} {oc6 kV6 dc6 pm6 ct6 cd6 : Value} {od6 an6 : Option Addr} {sl6 : Array (Option Value)}
    {f7 : Addr} {oc7 kV7 dc7 pm7 ct7 cd7 : Value} {od7 an7 : Option Addr} {sl7 : Array (Option Value)}
    {f9 : Addr} {oc9 kV9 dc9 pm9 ct9 cd9 : Value} {od9 an9 : Option Addr} {sl9 : Array (Option Value)}
    {f11 : Addr} {oc11 kV11 dc11 pm11 ct11 cd11 : Value} {od11 an11 : Option Addr} {sl11 : Array (Option Value)}
    {f12 : Addr} {oc12 kV12 dc12 pm12 ct12 cd12 : Value} {od12 an12 : Option Addr} {sl12 : Array (Option Value)}
    {f14 : Addr} {oc14 kV14 dc14 pm14 ct14 cd14 : Value} {od14 an14 : Option Addr} {sl14 : Array (Option Value)}
    {f15 : Addr} {oc15 kV15 dc15 pm15 ct15 cd15 : Value} {od15 an15 : Option Addr} {sl15 : Array (Option Value)}
    {f16 : Addr} {oc16 kV16 dc16 pm16 ct16 cd16 : Value} {od16 an16 : Option Addr} {sl16 : Array (Option Value)}
    {f17 : Addr} {oc17 kV17 dc17 pm17 ct17 cd17 : Value} {od17 an17 : Option Addr} {sl17 : Array (Option Value)}
    {f18 : Addr} {oc18 kV18 dc18 pm18 ct18 : Value} {od18 an18 : Option Addr} {sl18 : Array (Option Value)}
    {cc18 P18 : Addr} {ce18 : Value} {cdd18 : Option Addr} {cv18 : Array Value} {csl18 : Array (Option Value)}
    {f19 : Addr} {oc19 kV19 dc19 pm19 ct19 : Value} {od19 an19 : Option Addr} {sl19 : Array (Option Value)}
    {cc19 P19 : Addr} {ce19 : Value} {cdd19 : Option Addr} {cv19 : Array Value} {csl19 : Array (Option Value)}
    {f21 : Addr} {oc21 kV21 dc21 pm21 ct21 cd21 : Value} {od21 an21 : Option Addr} {sl21 : Array (Option Value)}
    {f22 : Addr} {oc22 kV22 dc22 pm22 ct22 : Value} {od22 an22 : Option Addr} {sl22 : Array (Option Value)}
    {cc22 P22 : Addr} {ce22 : Value} {cdd22 : Option Addr} {cv22 : Array Value} {csl22 : Array (Option Value)}
    {f23 : Addr} {oc23 kV23 dc23 pm23 ct23 cd23 : Value} {od23 an23 : Option Addr} {sl23 : Array (Option Value)}
    {f24 : Addr} {oc24 kV24 dc24 pm24 ct24 : Value} {od24 an24 : Option Addr} {sl24 : Array (Option Value)}
    {cc24 P24 : Addr} {ce24 : Value} {cdd24 : Option Addr} {cv24 : Array Value} {csl24 : Array (Option Value)}
    {f25 : Addr} {oc25 kV25 dc25 pm25 ct25 cd25 : Value} {od25 an25 : Option Addr} {sl25 : Array (Option Value)}
    {f26 : Addr} {oc26 kV26 dc26 pm26 ct26 cd26 : Value} {od26 an26 : Option Addr} {sl26 : Array (Option Value)}
    {f27 : Addr} {oc27 kV27 dc27 pm27 ct27 cd27 : Value} {od27 an27 : Option Addr} {sl27 : Array (Option Value)}
    {f28 : Addr} {oc28 kV28 dc28 pm28 ct28 cd28 : Value} {od28 an28 : Option Addr} {sl28 : Array (Option Value)}
    {f29 : Addr} {oc29 kV29 dc29 pm29 ct29 : Value} {od29 an29 : Option Addr} {sl29 : Array (Option Value)}
    {cc29 P29 : Addr} {ce29 : Value} {cdd29 : Option Addr} {cv29 : Array Value} {csl29 : Array (Option Value)}
    {f30 : Addr} {oc30 kV30 dc30 pm30 ct30 : Value} {od30 an30 : Option Addr} {sl30 : Array (Option Value)}
    {cc30 P30 : Addr} {ce30 : Value} {cdd30 : Option Addr} {cv30 : Array Value} {csl30 : Array (Option Value)}
    {f32 : Addr} {oc32 kV32 dc32 pm32 ct32 cd32 : Value} {od32 an32 : Option Addr} {sl32 : Array (Option Value)}
    {f33 : Addr} {oc33 kV33 dc33 pm33 ct33 cd33 : Value} {od33 an33 : Option Addr} {sl33 : Array (Option Value)}
    {f34 : Addr} {oc34 kV34 dc34 pm34 ct34 cd34 : Value} {od34 an34 : Option Addr} {sl34 : Array (Option Value)}
    {f35 : Addr} {oc35 kV35 dc35 pm35 ct35 cd35 : Value} {od35 an35 : Option Addr} {sl35 : Array (Option Value)}
    {f36 : Addr} {oc36 kV36 dc36 pm36 ct36 cd36 : Value} {od36 an36 : Option Addr} {sl36 : Array (Option Value)}
    {f37 : Addr} {oc37 kV37 dc37 pm37 ct37 cd37 : Value} {od37 an37 : Option Addr} {sl37 : Array (Option Value)}
    {f38 : Addr} {oc38 kV38 dc38 pm38 ct38 cd38 : Value} {od38 an38 : Option Addr} {sl38 : Array (Option Value)}
    {f39 : Addr} {oc39 kV39 dc39 pm39 ct39 cd39 : Value} {od39 an39 : Option Addr} {sl39 : Array (Option Value)}
    {f40 : Addr} {oc40 kV40 dc40 pm40 ct40 cd40 : Value} {od40 an40 : Option Addr} {sl40 : Array (Option Value)}
    {f41 : Addr} {oc41 kV41 dc41 pm41 ct41 cd41 : Value} {od41 an41 : Option Addr} {sl41 : Array (Option Value)}
    {f42 : Addr} {oc42 kV42 dc42 pm42 ct42 cd42 : Value} {od42 an42 : Option Addr} {sl42 : Array (Option Value)}
    {f43 : Addr} {oc43 kV43 dc43 pm43 ct43 cd43 : Value} {od43 an43 : Option Addr} {sl43 : Array (Option Value)}
    {f44 : Addr} {oc44 kV44 dc44 pm44 ct44 cd44 : Value} {od44 an44 : Option Addr} {sl44 : Array (Option Value)}
    {f45 : Addr} {oc45 kV45 dc45 pm45 ct45 cd45 : Value} {od45 an45 : Option Addr} {sl45 : Array (Option Value)}
    {pF pS eF3 eF4 : Addr} {esF esS : Array DictEntry} {nF nS nF3 nF4 : Nat} {tF1 tF2 : Tok} {d3 d4 : Option Addr} {s3 s4 : Array (Option Value)}
    (a2 : PySem.W.nsIn K mainGlobals "first_state" = some (some (.ref f2)))
    (l2 : K.lookup f2 = some ⟨oc2, od2, .func (PySem.W.fnOf "first_state" "first_state" (defArgs (top 2)) (defBody (top 2)) (defScope (top 2)) .none kV2 dc2 pm2 an2 cd2 ct2), sl2⟩)
    (c2 : PySem.W.codeIn K cd2 "first_state" = true)
    (k2 : PySem.W.keepIn K (.ref f2) = true)
    (a3 : PySem.W.nsIn K mainGlobals "yes_or_no" = some (some (.ref f3)))
    (l3 : K.lookup f3 = some ⟨oc3, od3, .func (PySem.W.fnOf "yes_or_no" "yes_or_no" (defArgs (top 3)) (defBody (top 3)) (defScope (top 3)) .none kV3 dc3 pm3 an3 cd3 ct3), sl3⟩)
    (c3 : PySem.W.codeIn K cd3 "yes_or_no" = true)
    (k3 : PySem.W.keepIn K (.ref f3) = true)
    (a4 : PySem.W.nsIn K mainGlobals "step_register" = some (some (.ref f4)))
    (l4 : K.lookup f4 = some ⟨oc4, od4, .func (PySem.W.fnOf "step_register" "step_register" (defArgs (top 4)) (defBody (top 4)) (defScope (top 4)) .none kV4 dc4 pm4 an4 cd4 ct4), sl4⟩)
    (c4 : PySem.W.codeIn K cd4 "step_register" = true)
    (k4 : PySem.W.keepIn K (.ref f4) = true)
    (a5 : PySem.W.nsIn K mainGlobals "step_counter" = some (some (.ref f5)))
    (l5 : K.lookup f5 = some ⟨oc5, od5, .func (PySem.W.fnOf "step_counter" "step_counter" (defArgs (top 5)) (defBody (top 5)) (defScope (top 5)) .none kV5 dc5 pm5 an5 cd5 ct5), sl5⟩)
    (c5 : PySem.W.codeIn K cd5 "step_counter" = true)
    (k5 : PySem.W.keepIn K (.ref f5) = true)
    (a6 : PySem.W.nsIn K mainGlobals "step_set" = some (some (.ref f6)))
    (l6 : K.lookup f6 = some ⟨oc6, od6, .func (PySem.W.fnOf "step_set" "step_set" (defArgs (top 6)) (defBody (top 6)) (defScope (top 6)) .none kV6 dc6 pm6 an6 cd6 ct6), sl6⟩)
    (c6 : PySem.W.codeIn K cd6 "step_set" = true)
    (k6 : PySem.W.keepIn K (.ref f6) = true)
    (a7 : PySem.W.nsIn K mainGlobals "step_queue" = some (some (.ref f7)))
    (l7 : K.lookup f7 = some ⟨oc7, od7, .func (PySem.W.fnOf "step_queue" "step_queue" (defArgs (top 7)) (defBody (top 7)) (defScope (top 7)) .none kV7 dc7 pm7 an7 cd7 ct7), sl7⟩)
    (c7 : PySem.W.codeIn K cd7 "step_queue" = true)
    (k7 : PySem.W.keepIn K (.ref f7) = true)
    (a9 : PySem.W.nsIn K mainGlobals "step" = some (some (.ref f9)))
    (l9 : K.lookup f9 = some ⟨oc9, od9, .func (PySem.W.fnOf "step" "step" (defArgs (top 9)) (defBody (top 9)) (defScope (top 9)) .none kV9 dc9 pm9 an9 cd9 ct9), sl9⟩)
    (c9 : PySem.W.codeIn K cd9 "step" = true)
    (k9 : PySem.W.keepIn K (.ref f9) = true)
    (a11 : PySem.W.nsIn K mainGlobals "numbered" = some (some (.ref f11)))
    (l11 : K.lookup f11 = some ⟨oc11, od11, .func (PySem.W.fnOf "numbered" "numbered" (defArgs (top 11)) (defBody (top 11)) (defScope (top 11)) .none kV11 dc11 pm11 an11 cd11 ct11), sl11⟩)
    (c11 : PySem.W.codeIn K cd11 "numbered" = true)
    (k11 : PySem.W.keepIn K (.ref f11) = true)
    (a12 : PySem.W.nsIn K mainGlobals "operations" = some (some (.ref f12)))
    (l12 : K.lookup f12 = some ⟨oc12, od12, .func (PySem.W.fnOf "operations" "operations" (defArgs (top 12)) (defBody (top 12)) (defScope (top 12)) .none kV12 dc12 pm12 an12 cd12 ct12), sl12⟩)
    (c12 : PySem.W.codeIn K cd12 "operations" = true)
    (k12 : PySem.W.keepIn K (.ref f12) = true)
    (a14 : PySem.W.nsIn K mainGlobals "is_before" = some (some (.ref f14)))
    (l14 : K.lookup f14 = some ⟨oc14, od14, .func (PySem.W.fnOf "is_before" "is_before" (defArgs (top 14)) (defBody (top 14)) (defScope (top 14)) .none kV14 dc14 pm14 an14 cd14 ct14), sl14⟩)
    (c14 : PySem.W.codeIn K cd14 "is_before" = true)
    (k14 : PySem.W.keepIn K (.ref f14) = true)
    (a15 : PySem.W.nsIn K mainGlobals "first_states" = some (some (.ref f15)))
    (l15 : K.lookup f15 = some ⟨oc15, od15, .func (PySem.W.fnOf "first_states" "first_states" (defArgs (top 15)) (defBody (top 15)) (defScope (top 15)) .none kV15 dc15 pm15 an15 cd15 ct15), sl15⟩)
    (c15 : PySem.W.codeIn K cd15 "first_states" = true)
    (k15 : PySem.W.keepIn K (.ref f15) = true)
    (a16 : PySem.W.nsIn K mainGlobals "done" = some (some (.ref f16)))
    (l16 : K.lookup f16 = some ⟨oc16, od16, .func (PySem.W.fnOf "done" "done" (defArgs (top 16)) (defBody (top 16)) (defScope (top 16)) .none kV16 dc16 pm16 an16 cd16 ct16), sl16⟩)
    (c16 : PySem.W.codeIn K cd16 "done" = true)
    (k16 : PySem.W.keepIn K (.ref f16) = true)
    (a17 : PySem.W.nsIn K mainGlobals "results" = some (some (.ref f17)))
    (l17 : K.lookup f17 = some ⟨oc17, od17, .func (PySem.W.fnOf "results" "results" (defArgs (top 17)) (defBody (top 17)) (defScope (top 17)) .none kV17 dc17 pm17 an17 cd17 ct17), sl17⟩)
    (c17 : PySem.W.codeIn K cd17 "results" = true)
    (k17 : PySem.W.keepIn K (.ref f17) = true)
    (a18 : PySem.W.nsIn K mainGlobals "is_row" = some (some (.ref f18)))
    (l18 : K.lookup f18 = some ⟨oc18, od18, .func (PySem.W.fnOf "is_row" "is_row" (defArgs (top 18)) (defBody (top 18)) (defScope (top 18)) .none kV18 dc18 pm18 an18 (.ref cc18) ct18), sl18⟩)
    (c18 : PySem.W.codeIn K (.ref cc18) "is_row" = true)
    (k18 : PySem.W.keepIn K (.ref f18) = true)
    (lc18 : K.lookup cc18 = some ⟨ce18, cdd18, .fields cv18, csl18⟩)
    (h18 : cv18[11]? = some (.ref P18))
    (n18 : K.lookup P18 = none)
    (r18 : ((recsOf q).any fun e => e.name == ("is_row" : Str)) = true)
    (a19 : PySem.W.nsIn K mainGlobals "is_order" = some (some (.ref f19)))
    (l19 : K.lookup f19 = some ⟨oc19, od19, .func (PySem.W.fnOf "is_order" "is_order" (defArgs (top 19)) (defBody (top 19)) (defScope (top 19)) .none kV19 dc19 pm19 an19 (.ref cc19) ct19), sl19⟩)
    (c19 : PySem.W.codeIn K (.ref cc19) "is_order" = true)
    (k19 : PySem.W.keepIn K (.ref f19) = true)
    (lc19 : K.lookup cc19 = some ⟨ce19, cdd19, .fields cv19, csl19⟩)
    (h19 : cv19[11]? = some (.ref P19))
    (n19 : K.lookup P19 = none)
    (r19 : ((recsOf q).any fun e => e.name == ("is_order" : Str)) = true)
    (a21 : PySem.W.nsIn K mainGlobals "first_position" = some (some (.ref f21)))
    (l21 : K.lookup f21 = some ⟨oc21, od21, .func (PySem.W.fnOf "first_position" "first_position" (defArgs (top 21)) (defBody (top 21)) (defScope (top 21)) .none kV21 dc21 pm21 an21 cd21 ct21), sl21⟩)
    (c21 : PySem.W.codeIn K cd21 "first_position" = true)
    (k21 : PySem.W.keepIn K (.ref f21) = true)
    (a22 : PySem.W.nsIn K mainGlobals "can_come" = some (some (.ref f22)))
    (l22 : K.lookup f22 = some ⟨oc22, od22, .func (PySem.W.fnOf "can_come" "can_come" (defArgs (top 22)) (defBody (top 22)) (defScope (top 22)) .none kV22 dc22 pm22 an22 (.ref cc22) ct22), sl22⟩)
    (c22 : PySem.W.codeIn K (.ref cc22) "can_come" = true)
    (k22 : PySem.W.keepIn K (.ref f22) = true)
    (lc22 : K.lookup cc22 = some ⟨ce22, cdd22, .fields cv22, csl22⟩)
    (h22 : cv22[11]? = some (.ref P22))
    (n22 : K.lookup P22 = none)
    (r22 : ((recsOf q).any fun e => e.name == ("can_come" : Str)) = true)
    (a23 : PySem.W.nsIn K mainGlobals "moves" = some (some (.ref f23)))
    (l23 : K.lookup f23 = some ⟨oc23, od23, .func (PySem.W.fnOf "moves" "moves" (defArgs (top 23)) (defBody (top 23)) (defScope (top 23)) .none kV23 dc23 pm23 an23 cd23 ct23), sl23⟩)
    (c23 : PySem.W.codeIn K cd23 "moves" = true)
    (k23 : PySem.W.keepIn K (.ref f23) = true)
    (a24 : PySem.W.nsIn K mainGlobals "is_whole" = some (some (.ref f24)))
    (l24 : K.lookup f24 = some ⟨oc24, od24, .func (PySem.W.fnOf "is_whole" "is_whole" (defArgs (top 24)) (defBody (top 24)) (defScope (top 24)) .none kV24 dc24 pm24 an24 (.ref cc24) ct24), sl24⟩)
    (c24 : PySem.W.codeIn K (.ref cc24) "is_whole" = true)
    (k24 : PySem.W.keepIn K (.ref f24) = true)
    (lc24 : K.lookup cc24 = some ⟨ce24, cdd24, .fields cv24, csl24⟩)
    (h24 : cv24[11]? = some (.ref P24))
    (n24 : K.lookup P24 = none)
    (r24 : ((recsOf q).any fun e => e.name == ("is_whole" : Str)) = true)
    (a25 : PySem.W.nsIn K mainGlobals "told_table" = some (some (.ref f25)))
    (l25 : K.lookup f25 = some ⟨oc25, od25, .func (PySem.W.fnOf "told_table" "told_table" (defArgs (top 25)) (defBody (top 25)) (defScope (top 25)) .none kV25 dc25 pm25 an25 cd25 ct25), sl25⟩)
    (c25 : PySem.W.codeIn K cd25 "told_table" = true)
    (k25 : PySem.W.keepIn K (.ref f25) = true)
    (a26 : PySem.W.nsIn K mainGlobals "order_from" = some (some (.ref f26)))
    (l26 : K.lookup f26 = some ⟨oc26, od26, .func (PySem.W.fnOf "order_from" "order_from" (defArgs (top 26)) (defBody (top 26)) (defScope (top 26)) .none kV26 dc26 pm26 an26 cd26 ct26), sl26⟩)
    (c26 : PySem.W.codeIn K cd26 "order_from" = true)
    (k26 : PySem.W.keepIn K (.ref f26) = true)
    (a27 : PySem.W.nsIn K mainGlobals "find" = some (some (.ref f27)))
    (l27 : K.lookup f27 = some ⟨oc27, od27, .func (PySem.W.fnOf "find" "find" (defArgs (top 27)) (defBody (top 27)) (defScope (top 27)) .none kV27 dc27 pm27 an27 cd27 ct27), sl27⟩)
    (c27 : PySem.W.codeIn K cd27 "find" = true)
    (k27 : PySem.W.keepIn K (.ref f27) = true)
    (a28 : PySem.W.nsIn K mainGlobals "fits" = some (some (.ref f28)))
    (l28 : K.lookup f28 = some ⟨oc28, od28, .func (PySem.W.fnOf "fits" "fits" (defArgs (top 28)) (defBody (top 28)) (defScope (top 28)) .none kV28 dc28 pm28 an28 cd28 ct28), sl28⟩)
    (c28 : PySem.W.codeIn K cd28 "fits" = true)
    (k28 : PySem.W.keepIn K (.ref f28) = true)
    (a29 : PySem.W.nsIn K mainGlobals "is_position" = some (some (.ref f29)))
    (l29 : K.lookup f29 = some ⟨oc29, od29, .func (PySem.W.fnOf "is_position" "is_position" (defArgs (top 29)) (defBody (top 29)) (defScope (top 29)) .none kV29 dc29 pm29 an29 (.ref cc29) ct29), sl29⟩)
    (c29 : PySem.W.codeIn K (.ref cc29) "is_position" = true)
    (k29 : PySem.W.keepIn K (.ref f29) = true)
    (lc29 : K.lookup cc29 = some ⟨ce29, cdd29, .fields cv29, csl29⟩)
    (h29 : cv29[11]? = some (.ref P29))
    (n29 : K.lookup P29 = none)
    (r29 : ((recsOf q).any fun e => e.name == ("is_position" : Str)) = true)
    (a30 : PySem.W.nsIn K mainGlobals "is_closed" = some (some (.ref f30)))
    (l30 : K.lookup f30 = some ⟨oc30, od30, .func (PySem.W.fnOf "is_closed" "is_closed" (defArgs (top 30)) (defBody (top 30)) (defScope (top 30)) .none kV30 dc30 pm30 an30 (.ref cc30) ct30), sl30⟩)
    (c30 : PySem.W.codeIn K (.ref cc30) "is_closed" = true)
    (k30 : PySem.W.keepIn K (.ref f30) = true)
    (lc30 : K.lookup cc30 = some ⟨ce30, cdd30, .fields cv30, csl30⟩)
    (h30 : cv30[11]? = some (.ref P30))
    (n30 : K.lookup P30 = none)
    (r30 : ((recsOf q).any fun e => e.name == ("is_closed" : Str)) = true)
    (a32 : PySem.W.nsIn K mainGlobals "_law_dropped" = some (some (.ref f32)))
    (l32 : K.lookup f32 = some ⟨oc32, od32, .func (PySem.W.fnOf "_law_dropped" "_law_dropped" (defArgs (top 32)) (defBody (top 32)) (defScope (top 32)) .none kV32 dc32 pm32 an32 cd32 ct32), sl32⟩)
    (c32 : PySem.W.codeIn K cd32 "_law_dropped" = true)
    (k32 : PySem.W.keepIn K (.ref f32) = true)
    (a33 : PySem.W.nsIn K mainGlobals "_law_cell" = some (some (.ref f33)))
    (l33 : K.lookup f33 = some ⟨oc33, od33, .func (PySem.W.fnOf "_law_cell" "_law_cell" (defArgs (top 33)) (defBody (top 33)) (defScope (top 33)) .none kV33 dc33 pm33 an33 cd33 ct33), sl33⟩)
    (c33 : PySem.W.codeIn K cd33 "_law_cell" = true)
    (k33 : PySem.W.keepIn K (.ref f33) = true)
    (a34 : PySem.W.nsIn K mainGlobals "_law_draw" = some (some (.ref f34)))
    (l34 : K.lookup f34 = some ⟨oc34, od34, .func (PySem.W.fnOf "_law_draw" "_law_draw" (defArgs (top 34)) (defBody (top 34)) (defScope (top 34)) .none kV34 dc34 pm34 an34 cd34 ct34), sl34⟩)
    (c34 : PySem.W.codeIn K cd34 "_law_draw" = true)
    (k34 : PySem.W.keepIn K (.ref f34) = true)
    (a35 : PySem.W.nsIn K mainGlobals "_law_names" = some (some (.ref f35)))
    (l35 : K.lookup f35 = some ⟨oc35, od35, .func (PySem.W.fnOf "_law_names" "_law_names" (defArgs (top 35)) (defBody (top 35)) (defScope (top 35)) .none kV35 dc35 pm35 an35 cd35 ct35), sl35⟩)
    (c35 : PySem.W.codeIn K cd35 "_law_names" = true)
    (k35 : PySem.W.keepIn K (.ref f35) = true)
    (a36 : PySem.W.nsIn K mainGlobals "_law_many" = some (some (.ref f36)))
    (l36 : K.lookup f36 = some ⟨oc36, od36, .func (PySem.W.fnOf "_law_many" "_law_many" (defArgs (top 36)) (defBody (top 36)) (defScope (top 36)) .none kV36 dc36 pm36 an36 cd36 ct36), sl36⟩)
    (c36 : PySem.W.codeIn K cd36 "_law_many" = true)
    (k36 : PySem.W.keepIn K (.ref f36) = true)
    (a37 : PySem.W.nsIn K mainGlobals "_law_first" = some (some (.ref f37)))
    (l37 : K.lookup f37 = some ⟨oc37, od37, .func (PySem.W.fnOf "_law_first" "_law_first" (defArgs (top 37)) (defBody (top 37)) (defScope (top 37)) .none kV37 dc37 pm37 an37 cd37 ct37), sl37⟩)
    (c37 : PySem.W.codeIn K cd37 "_law_first" = true)
    (k37 : PySem.W.keepIn K (.ref f37) = true)
    (a38 : PySem.W.nsIn K mainGlobals "_law_step" = some (some (.ref f38)))
    (l38 : K.lookup f38 = some ⟨oc38, od38, .func (PySem.W.fnOf "_law_step" "_law_step" (defArgs (top 38)) (defBody (top 38)) (defScope (top 38)) .none kV38 dc38 pm38 an38 cd38 ct38), sl38⟩)
    (c38 : PySem.W.codeIn K cd38 "_law_step" = true)
    (k38 : PySem.W.keepIn K (.ref f38) = true)
    (a39 : PySem.W.nsIn K mainGlobals "_law_objects" = some (some (.ref f39)))
    (l39 : K.lookup f39 = some ⟨oc39, od39, .func (PySem.W.fnOf "_law_objects" "_law_objects" (defArgs (top 39)) (defBody (top 39)) (defScope (top 39)) .none kV39 dc39 pm39 an39 cd39 ct39), sl39⟩)
    (c39 : PySem.W.codeIn K cd39 "_law_objects" = true)
    (k39 : PySem.W.keepIn K (.ref f39) = true)
    (a40 : PySem.W.nsIn K mainGlobals "_law_args" = some (some (.ref f40)))
    (l40 : K.lookup f40 = some ⟨oc40, od40, .func (PySem.W.fnOf "_law_args" "_law_args" (defArgs (top 40)) (defBody (top 40)) (defScope (top 40)) .none kV40 dc40 pm40 an40 cd40 ct40), sl40⟩)
    (c40 : PySem.W.codeIn K cd40 "_law_args" = true)
    (k40 : PySem.W.keepIn K (.ref f40) = true)
    (a41 : PySem.W.nsIn K mainGlobals "_law_weave" = some (some (.ref f41)))
    (l41 : K.lookup f41 = some ⟨oc41, od41, .func (PySem.W.fnOf "_law_weave" "_law_weave" (defArgs (top 41)) (defBody (top 41)) (defScope (top 41)) .none kV41 dc41 pm41 an41 cd41 ct41), sl41⟩)
    (c41 : PySem.W.codeIn K cd41 "_law_weave" = true)
    (k41 : PySem.W.keepIn K (.ref f41) = true)
    (a42 : PySem.W.nsIn K mainGlobals "_law_spoil" = some (some (.ref f42)))
    (l42 : K.lookup f42 = some ⟨oc42, od42, .func (PySem.W.fnOf "_law_spoil" "_law_spoil" (defArgs (top 42)) (defBody (top 42)) (defScope (top 42)) .none kV42 dc42 pm42 an42 cd42 ct42), sl42⟩)
    (c42 : PySem.W.codeIn K cd42 "_law_spoil" = true)
    (k42 : PySem.W.keepIn K (.ref f42) = true)
    (a43 : PySem.W.nsIn K mainGlobals "_law_history" = some (some (.ref f43)))
    (l43 : K.lookup f43 = some ⟨oc43, od43, .func (PySem.W.fnOf "_law_history" "_law_history" (defArgs (top 43)) (defBody (top 43)) (defScope (top 43)) .none kV43 dc43 pm43 an43 cd43 ct43), sl43⟩)
    (c43 : PySem.W.codeIn K cd43 "_law_history" = true)
    (k43 : PySem.W.keepIn K (.ref f43) = true)
    (a44 : PySem.W.nsIn K mainGlobals "_law_row" = some (some (.ref f44)))
    (l44 : K.lookup f44 = some ⟨oc44, od44, .func (PySem.W.fnOf "_law_row" "_law_row" (defArgs (top 44)) (defBody (top 44)) (defScope (top 44)) .none kV44 dc44 pm44 an44 cd44 ct44), sl44⟩)
    (c44 : PySem.W.codeIn K cd44 "_law_row" = true)
    (k44 : PySem.W.keepIn K (.ref f44) = true)
    (a45 : PySem.W.nsIn K mainGlobals "law" = some (some (.ref f45)))
    (l45 : K.lookup f45 = some ⟨oc45, od45, .func (PySem.W.fnOf "law" "law" (defArgs (top 45)) (defBody (top 45)) (defScope (top 45)) .none kV45 dc45 pm45 an45 cd45 ct45), sl45⟩)
    (c45 : PySem.W.codeIn K cd45 "law" = true)
    (k45 : PySem.W.keepIn K (.ref f45) = true)
    (z_len : PySem.W.nsIn K mainGlobals "len" = some none)
    (z_sorted : PySem.W.nsIn K mainGlobals "sorted" = some none)
    (z_tuple : PySem.W.nsIn K mainGlobals "tuple" = some none)
    (z_set : PySem.W.nsIn K mainGlobals "set" = some none)
    (z_list : PySem.W.nsIn K mainGlobals "list" = some none)
    (z_int : PySem.W.nsIn K mainGlobals "int" = some none)
    (z_isinstance : PySem.W.nsIn K mainGlobals "isinstance" = some none)
    (z_min : PySem.W.nsIn K mainGlobals "min" = some none)
    (z_max : PySem.W.nsIn K mainGlobals "max" = some none)
    (z_dict : PySem.W.nsIn K mainGlobals "dict" = some none)
    (z_all : PySem.W.nsIn K mainGlobals "all" = some none)
    (z_range : PySem.W.nsIn K mainGlobals "range" = some none)
    (z_enumerate : PySem.W.nsIn K mainGlobals "enumerate" = some none)
    (z_zip : PySem.W.nsIn K mainGlobals "zip" = some none)
    (aF : PySem.W.nsIn K mainGlobals "FIRST" = some (some (.ref pF)))
    (lF : K.lookup pF = some ⟨.type "dict", none, .dict esF nF, #[]⟩)
    (kF : PySem.W.KeysLit w.params esF.toList)
    (D1 : PySem.W.nsIn K pF "register" = some (some (.int 0 tF1)))
    (D2 : PySem.W.nsIn K pF "counter" = some (some (.int 0 tF2)))
    (D3 : PySem.W.nsIn K pF "set" = some (some (.ref eF3)))
    (D4 : PySem.W.nsIn K pF "queue" = some (some (.ref eF4)))
    (G3 : K.lookup eF3 = some ⟨.type "tuple", d3, .seq #[] nF3, s3⟩)
    (G4 : K.lookup eF4 = some ⟨.type "tuple", d4, .seq #[] nF4, s4⟩)
    (aS : PySem.W.nsIn K mainGlobals "STEPPERS" = some (some (.ref pS)))
    (lS : K.lookup pS = some ⟨.type "dict", none, .dict esS nS, #[]⟩)
    (kS : PySem.W.KeysLit w.params esS.toList)
    (S1 : PySem.W.nsIn K pS "register" = some (some (.ref f4)))
    (S2 : PySem.W.nsIn K pS "counter" = some (some (.ref f5)))
    (S3 : PySem.W.nsIn K pS "set" = some (some (.ref f6)))
    (S4 : PySem.W.nsIn K pS "queue" = some (some (.ref f7))) :
    LamX.LawAtS l w K CX0 21 63 "_law_script" mg fa h := by
  have e := hfa.symm.trans (PySem.W.mg_of X G a45)
  cases e
  have F2 := fc_mk (st := top 2) X G a2 l2 c2 k2
  have F3 := fc_mk (st := top 3) X G a3 l3 c3 k3
  have F4 := fc_mk (st := top 4) X G a4 l4 c4 k4
  have F5 := fc_mk (st := top 5) X G a5 l5 c5 k5
  have F6 := fc_mk (st := top 6) X G a6 l6 c6 k6
  have F7 := fc_mk (st := top 7) X G a7 l7 c7 k7
  have F9 := fc_mk (st := top 9) X G a9 l9 c9 k9
  have F11 := fc_mk (st := top 11) X G a11 l11 c11 k11
  have F12 := fc_mk (st := top 12) X G a12 l12 c12 k12
  have F14 := fc_mk (st := top 14) X G a14 l14 c14 k14
  have F15 := fc_mk (st := top 15) X G a15 l15 c15 k15
  have F16 := fc_mk (st := top 16) X G a16 l16 c16 k16
  have F17 := fc_mk (st := top 17) X G a17 l17 c17 k17
  have F18 := fc_mk (st := top 18) X G a18 l18 c18 k18
  have F19 := fc_mk (st := top 19) X G a19 l19 c19 k19
  have F21 := fc_mk (st := top 21) X G a21 l21 c21 k21
  have F22 := fc_mk (st := top 22) X G a22 l22 c22 k22
  have F23 := fc_mk (st := top 23) X G a23 l23 c23 k23
  have F24 := fc_mk (st := top 24) X G a24 l24 c24 k24
  have F25 := fc_mk (st := top 25) X G a25 l25 c25 k25
  have F26 := fc_mk (st := top 26) X G a26 l26 c26 k26
  have F27 := fc_mk (st := top 27) X G a27 l27 c27 k27
  have F28 := fc_mk (st := top 28) X G a28 l28 c28 k28
  have F29 := fc_mk (st := top 29) X G a29 l29 c29 k29
  have F30 := fc_mk (st := top 30) X G a30 l30 c30 k30
  have F32 := fc_mk (st := top 32) X G a32 l32 c32 k32
  have F33 := fc_mk (st := top 33) X G a33 l33 c33 k33
  have F34 := fc_mk (st := top 34) X G a34 l34 c34 k34
  have F35 := fc_mk (st := top 35) X G a35 l35 c35 k35
  have F36 := fc_mk (st := top 36) X G a36 l36 c36 k36
  have F37 := fc_mk (st := top 37) X G a37 l37 c37 k37
  have F38 := fc_mk (st := top 38) X G a38 l38 c38 k38
  have F39 := fc_mk (st := top 39) X G a39 l39 c39 k39
  have F40 := fc_mk (st := top 40) X G a40 l40 c40 k40
  have F41 := fc_mk (st := top 41) X G a41 l41 c41 k41
  have F42 := fc_mk (st := top 42) X G a42 l42 c42 k42
  have F43 := fc_mk (st := top 43) X G a43 l43 c43 k43
  have F44 := fc_mk (st := top 44) X G a44 l44 c44 k44
  have F45 := fc_mk (st := top 45) X G a45 l45 c45 k45
  have M : Nm mg := ⟨PySem.W.mg_none_of X G z_len, PySem.W.mg_none_of X G z_sorted, PySem.W.mg_none_of X G z_tuple, PySem.W.mg_none_of X G z_set, PySem.W.mg_none_of X G z_list, PySem.W.mg_none_of X G z_int, PySem.W.mg_none_of X G z_isinstance, PySem.W.mg_none_of X G z_min, PySem.W.mg_none_of X G z_max, PySem.W.mg_none_of X G z_dict, PySem.W.mg_none_of X G z_all, PySem.W.mg_none_of X G z_range, PySem.W.mg_none_of X G z_enumerate, PySem.W.mg_none_of X G z_zip⟩
  have T18 := tab_of A X r18 F18 lc18 h18
  have T19 := tab_of A X r19 F19 lc19 h19
  have T22 := tab_of A X r22 F22 lc22 h22
  have T24 := tab_of A X r24 F24 lc24 h24
  have T29 := tab_of A X r29 F29 lc29 h29
  have T30 := tab_of A X r30 F30 lc30 h30
  have FD : FirstD K w mg pF := ⟨PySem.W.mg_of X G aF, fun k => by
    cases k with
    | reg => exact ⟨.int 0, ⟨esF, nF, _, lF, kF, D1, ⟨_, rfl⟩⟩, fun _ => rfl⟩
    | cnt => exact ⟨.int 0, ⟨esF, nF, _, lF, kF, D2, ⟨_, rfl⟩⟩, fun _ => rfl⟩
    | set => exact ⟨.ref eF3, ⟨esF, nF, _, lF, kF, D3, rfl⟩, fun _ => ⟨eF3, [], rfl, .inr ⟨_, #[], _, G3, rfl, rfl, Nat.zero_le _, .nil⟩, rfl⟩⟩
    | que => exact ⟨.ref eF4, ⟨esF, nF, _, lF, kF, D4, rfl⟩, fun _ => ⟨eF4, [], rfl, .inr ⟨_, #[], _, G4, rfl, rfl, Nat.zero_le _, .nil⟩, rfl⟩⟩⟩
  have SD : StepD K w mg pS f4 f5 f6 f7 := ⟨PySem.W.mg_of X G aS, F4.mgf, F5.mgf, F6.mgf, F7.mgf, ⟨esS, nS, _, lS, kS, S1, rfl⟩, ⟨esS, nS, _, lS, kS, S2, rfl⟩, ⟨esS, nS, _, lS, kS, S3, rfl⟩, ⟨esS, nS, _, lS, kS, S4, rfl⟩⟩
  refine ⟨PySem.W.fnOf "law" "law" (defArgs (top 45)) (defBody (top 45)) (defScope (top 45)) .none kV45 dc45 pm45 an45 cd45 ct45, [(cc18, P18), (cc19, P19), (cc22, P22), (cc24, P24), (cc29, P29), (cc30, P30)], SpLaw K [P18, P19, P22, P24, P29, P30], fun p hp => by
    simp only [List.mem_cons, List.not_mem_nil, or_false] at hp
    rcases hp with rfl | rfl | rfl | rfl | rfl | rfl
    · exact T18.2
    · exact T19.2
    · exact T22.2
    · exact T24.2
    · exact T29.2
    · exact T30.2, fun p hp => by
    simp only [List.mem_cons, List.not_mem_nil, or_false] at hp
    rcases hp with rfl | rfl | rfl | rfl | rfl | rfl
    · exact n18
    · exact n19
    · exact n22
    · exact n24
    · exact n29
    · exact n30, fun p hp => by
    simp only [List.mem_cons, List.not_mem_nil, or_false] at hp
    rcases hp with rfl | rfl | rfl | rfl | rfl | rfl
    · exact T18.1
    · exact T19.1
    · exact T22.1
    · exact T24.1
    · exact T29.1
    · exact T30.1, fun s v => .of_eq rfl, fun H a ns hl _ hT hS => ⟨a, ns, rfl, hS, fun T hT2 => ?_, by omega, fun _ => rfl⟩, fun base KB nsB TB => ?_⟩
  · simp only [List.mem_cons, List.not_mem_nil, or_false] at hT2
    rcases hT2 with rfl | rfl | rfl | rfl | rfl | rfl
    · exact hT (cc18, T) (by simp)
    · exact hT (cc19, T) (by simp)
    · exact hT (cc22, T) (by simp)
    · exact hT (cc24, T) (by simp)
    · exact hT (cc29, T) (by simp)
    · exact hT (cc30, T) (by simp)
  have B18 := tabB_of (TB (cc18, P18) (by simp))
  have B19 := tabB_of (TB (cc19, P19) (by simp))
  have B22 := tabB_of (TB (cc22, P22) (by simp))
  have B24 := tabB_of (TB (cc24, P24) (by simp))
  have B29 := tabB_of (TB (cc29, P29) (by simp))
  have B30 := tabB_of (TB (cc30, P30) (by simp))
  have v_yes_or_no := cal_yes_or_no (P := l.prog) (w := w) (base := base) F3 M
  have v_first_state := cal_first_state (P := l.prog) (w := w) (base := base) F2 M FD
  have v_step_register := cal_step_register (P := l.prog) (w := w) (base := base) F4 M
  have v_step_counter := cal_step_counter (P := l.prog) (w := w) (base := base) F5 M
  have v_step_set := cal_step_set (P := l.prog) (w := w) (base := base) F6 M v_yes_or_no
  have v_step_queue := cal_step_queue (P := l.prog) (w := w) (base := base) F7 M
  have cS := cS_of SD v_step_register v_step_counter v_step_set v_step_queue
  have v_step := cal_step (P := l.prog) (w := w) (base := base) F9 M SD cS
  have v_numbered := cal_numbered (P := l.prog) (w := w) (base := base) F11 M
  have v_operations := cal_operations (P := l.prog) (w := w) (base := base) F12 M v_numbered
  have v_is_before := cal_is_before (P := l.prog) (w := w) (base := base) F14 M
  have v_first_states := cal_first_states (P := l.prog) (w := w) (base := base) F15 M v_first_state
  have v_done := cal_done (P := l.prog) (w := w) (base := base) F16 M v_step
  have v_results := cal_results (P := l.prog) (w := w) (base := base) F17 M v_operations v_first_states v_done
  have v_is_row := cal_is_row (P := l.prog) (w := w) (base := base) F18 M B18 (tabs := [P18, P19, P22, P24, P29, P30]) (by simp) v_is_before
  have v_is_order := cal_is_order (P := l.prog) (w := w) (base := base) F19 M B19 (tabs := [P18, P19, P22, P24, P29, P30]) (by simp) v_operations v_results v_is_row
  have v_first_position := cal_first_position (P := l.prog) (w := w) (base := base) F21 M v_first_states
  have v_can_come := cal_can_come (P := l.prog) (w := w) (base := base) F22 M B22 (tabs := [P18, P19, P22, P24, P29, P30]) (by simp) v_is_before
  have v_moves := cal_moves (P := l.prog) (w := w) (base := base) F23 M v_can_come v_done
  have v_is_whole := cal_is_whole (P := l.prog) (w := w) (base := base) F24 M B24 (tabs := [P18, P19, P22, P24, P29, P30]) (by simp)
  have v_told_table := cal_told_table (P := l.prog) (w := w) (base := base) F25 M v_operations v_first_position v_moves
  have v_order_from := cal_order (P := l.prog) (w := w) (base := base) F26 M v_is_whole v_moves 10
  have v_find := cal_find (P := l.prog) (w := w) (base := base) F27 M v_operations v_first_position v_told_table v_order_from
  have v_fits := cal_fits (P := l.prog) (w := w) (base := base) F28 M v_find
  have v_is_position := cal_is_position (P := l.prog) (w := w) (base := base) F29 M B29 (tabs := [P18, P19, P22, P24, P29, P30]) (by simp)
  have v_is_closed := cal_is_closed (P := l.prog) (w := w) (base := base) F30 M B30 (tabs := [P18, P19, P22, P24, P29, P30]) (by simp) v_operations v_first_position v_is_position v_is_whole v_moves
  have v__law_cell := cal__law_cell (P := l.prog) (w := w) (base := base) F33 M
  have v__law_draw := cal__law_draw (P := l.prog) (w := w) (base := base) F34 M v__law_cell
  have v__law_names := cal__law_names (P := l.prog) (w := w) (base := base) F35 M
  have v__law_many := cal__law_many (P := l.prog) (w := w) (base := base) F36 M
  have v__law_first := cal__law_first (P := l.prog) (w := w) (base := base) F37 M
  have v__law_step := cal__law_step (P := l.prog) (w := w) (base := base) F38 M
  have v__law_objects := cal__law_objects (P := l.prog) (w := w) (base := base) F39 M v__law_draw
  have v__law_args := cal__law_args (P := l.prog) (w := w) (base := base) F40 M v__law_many
  have v__law_dropped := cal__law_dropped (P := l.prog) (w := w) (base := base) F32 M
  have v__law_weave := cal__law_weave (P := l.prog) (w := w) (base := base) F41 M v__law_draw v__law_first v__law_names v__law_args v__law_step v__law_dropped
  have v__law_spoil := cal__law_spoil (P := l.prog) (w := w) (base := base) F42 M v__law_draw
  have v__law_history := cal__law_history (P := l.prog) (w := w) (base := base) F43 M v__law_objects v__law_weave v__law_spoil
  have v__law_row := cal__law_row (P := l.prog) (w := w) (base := base) F44 M v__law_draw
  exact cal_law (P := l.prog) (w := w) (base := base) F45 M v__law_history v_operations v_find v_is_order v_is_closed v_told_table v__law_row v_fits
end OS

end


open PySem PySem.W PyProof.Rows in
set_option maxRecDepth 100000 in
set_option maxHeartbeats 0 in
theorem PySem.Challenge.cw_ordershown_k10_whole_an_order_or_a_table_holds : PySem.Challenge.rw_ordershown_k10_whole_an_order_or_a_table.Holds := by
  w_on; o_law; k_head; (case hw => w_witness2)
  k_fill
  refine OS.walk_allTab (l := PySem.Challenge.rw_ordershown_k10_whole_an_order_or_a_table) (n := 63) (k := 21) (x := "_law_script") (CX := fun _ => L2.CX0) rfl (by decide) rfl ⟨rfl, by decide, by decide⟩ (fun w h Y => PySem.W.kIn_of Y) ?F fun _ _ _ _ _ z => z
  case F =>
    intro w mg fa h KX G hmg A
    refine' OS.all_mk KX G hmg A ?a2 ?l2 ?c2 ?k2 ?a3 ?l3 ?c3 ?k3 ?a4 ?l4 ?c4 ?k4 ?a5 ?l5 ?c5 ?k5 ?a6 ?l6 ?c6 ?k6 ?a7 ?l7 ?c7 ?k7 ?a9 ?l9 ?c9 ?k9 ?a11 ?l11 ?c11 ?k11 ?a12 ?l12 ?c12 ?k12 ?a14 ?l14 ?c14 ?k14 ?a15 ?l15 ?c15 ?k15 ?a16 ?l16 ?c16 ?k16 ?a17 ?l17 ?c17 ?k17 ?a18 ?l18 ?c18 ?k18 ?lc18 ?h18 ?n18 ?r18 ?a19 ?l19 ?c19 ?k19 ?lc19 ?h19 ?n19 ?r19 ?a21 ?l21 ?c21 ?k21 ?a22 ?l22 ?c22 ?k22 ?lc22 ?h22 ?n22 ?r22 ?a23 ?l23 ?c23 ?k23 ?a24 ?l24 ?c24 ?k24 ?lc24 ?h24 ?n24 ?r24 ?a25 ?l25 ?c25 ?k25 ?a26 ?l26 ?c26 ?k26 ?a27 ?l27 ?c27 ?k27 ?a28 ?l28 ?c28 ?k28 ?a29 ?l29 ?c29 ?k29 ?lc29 ?h29 ?n29 ?r29 ?a30 ?l30 ?c30 ?k30 ?lc30 ?h30 ?n30 ?r30 ?a32 ?l32 ?c32 ?k32 ?a33 ?l33 ?c33 ?k33 ?a34 ?l34 ?c34 ?k34 ?a35 ?l35 ?c35 ?k35 ?a36 ?l36 ?c36 ?k36 ?a37 ?l37 ?c37 ?k37 ?a38 ?l38 ?c38 ?k38 ?a39 ?l39 ?c39 ?k39 ?a40 ?l40 ?c40 ?k40 ?a41 ?l41 ?c41 ?k41 ?a42 ?l42 ?c42 ?k42 ?a43 ?l43 ?c43 ?k43 ?a44 ?l44 ?c44 ?k44 ?a45 ?l45 ?c45 ?k45 ?z_len ?z_sorted ?z_tuple ?z_set ?z_list ?z_int ?z_isinstance ?z_min ?z_max ?z_dict ?z_all ?z_range ?z_enumerate ?z_zip ?aF ?lF ?kF ?D1 ?D2 ?D3 ?D4 ?G3 ?G4 ?aS ?lS ?kS ?S1 ?S2 ?S3 ?S4
    (case a2 => k_is)
    (case l2 => k_is)
    (case c2 => k_is)
    (case k2 => k_is)
    (case a3 => k_is)
    (case l3 => k_is)
    (case c3 => k_is)
    (case k3 => k_is)
    (case a4 => k_is)
    (case l4 => k_is)
    (case c4 => k_is)
    (case k4 => k_is)
    (case a5 => k_is)
    (case l5 => k_is)
    (case c5 => k_is)
    (case k5 => k_is)
    (case a6 => k_is)
    (case l6 => k_is)
    (case c6 => k_is)
    (case k6 => k_is)
    (case a7 => k_is)
    (case l7 => k_is)
    (case c7 => k_is)
    (case k7 => k_is)
    (case a9 => k_is)
    (case l9 => k_is)
    (case c9 => k_is)
    (case k9 => k_is)
    (case a11 => k_is)
    (case l11 => k_is)
    (case c11 => k_is)
    (case k11 => k_is)
    (case a12 => k_is)
    (case l12 => k_is)
    (case c12 => k_is)
    (case k12 => k_is)
    (case a14 => k_is)
    (case l14 => k_is)
    (case c14 => k_is)
    (case k14 => k_is)
    (case a15 => k_is)
    (case l15 => k_is)
    (case c15 => k_is)
    (case k15 => k_is)
    (case a16 => k_is)
    (case l16 => k_is)
    (case c16 => k_is)
    (case k16 => k_is)
    (case a17 => k_is)
    (case l17 => k_is)
    (case c17 => k_is)
    (case k17 => k_is)
    (case a18 => k_is)
    (case l18 => k_is)
    (case c18 => k_is)
    (case k18 => k_is)
    (case lc18 => k_is)
    (case h18 => first | k_is | rfl)
    (case n18 => first | kernel_rfl! | with_unfolding_all rfl)
    (case r18 => first | rfl | decide +kernel)
    (case a19 => k_is)
    (case l19 => k_is)
    (case c19 => k_is)
    (case k19 => k_is)
    (case lc19 => k_is)
    (case h19 => first | k_is | rfl)
    (case n19 => first | kernel_rfl! | with_unfolding_all rfl)
    (case r19 => first | rfl | decide +kernel)
    (case a21 => k_is)
    (case l21 => k_is)
    (case c21 => k_is)
    (case k21 => k_is)
    (case a22 => k_is)
    (case l22 => k_is)
    (case c22 => k_is)
    (case k22 => k_is)
    (case lc22 => k_is)
    (case h22 => first | k_is | rfl)
    (case n22 => first | kernel_rfl! | with_unfolding_all rfl)
    (case r22 => first | rfl | decide +kernel)
    (case a23 => k_is)
    (case l23 => k_is)
    (case c23 => k_is)
    (case k23 => k_is)
    (case a24 => k_is)
    (case l24 => k_is)
    (case c24 => k_is)
    (case k24 => k_is)
    (case lc24 => k_is)
    (case h24 => first | k_is | rfl)
    (case n24 => first | kernel_rfl! | with_unfolding_all rfl)
    (case r24 => first | rfl | decide +kernel)
    (case a25 => k_is)
    (case l25 => k_is)
    (case c25 => k_is)
    (case k25 => k_is)
    (case a26 => k_is)
    (case l26 => k_is)
    (case c26 => k_is)
    (case k26 => k_is)
    (case a27 => k_is)
    (case l27 => k_is)
    (case c27 => k_is)
    (case k27 => k_is)
    (case a28 => k_is)
    (case l28 => k_is)
    (case c28 => k_is)
    (case k28 => k_is)
    (case a29 => k_is)
    (case l29 => k_is)
    (case c29 => k_is)
    (case k29 => k_is)
    (case lc29 => k_is)
    (case h29 => first | k_is | rfl)
    (case n29 => first | kernel_rfl! | with_unfolding_all rfl)
    (case r29 => first | rfl | decide +kernel)
    (case a30 => k_is)
    (case l30 => k_is)
    (case c30 => k_is)
    (case k30 => k_is)
    (case lc30 => k_is)
    (case h30 => first | k_is | rfl)
    (case n30 => first | kernel_rfl! | with_unfolding_all rfl)
    (case r30 => first | rfl | decide +kernel)
    (case a32 => k_is)
    (case l32 => k_is)
    (case c32 => k_is)
    (case k32 => k_is)
    (case a33 => k_is)
    (case l33 => k_is)
    (case c33 => k_is)
    (case k33 => k_is)
    (case a34 => k_is)
    (case l34 => k_is)
    (case c34 => k_is)
    (case k34 => k_is)
    (case a35 => k_is)
    (case l35 => k_is)
    (case c35 => k_is)
    (case k35 => k_is)
    (case a36 => k_is)
    (case l36 => k_is)
    (case c36 => k_is)
    (case k36 => k_is)
    (case a37 => k_is)
    (case l37 => k_is)
    (case c37 => k_is)
    (case k37 => k_is)
    (case a38 => k_is)
    (case l38 => k_is)
    (case c38 => k_is)
    (case k38 => k_is)
    (case a39 => k_is)
    (case l39 => k_is)
    (case c39 => k_is)
    (case k39 => k_is)
    (case a40 => k_is)
    (case l40 => k_is)
    (case c40 => k_is)
    (case k40 => k_is)
    (case a41 => k_is)
    (case l41 => k_is)
    (case c41 => k_is)
    (case k41 => k_is)
    (case a42 => k_is)
    (case l42 => k_is)
    (case c42 => k_is)
    (case k42 => k_is)
    (case a43 => k_is)
    (case l43 => k_is)
    (case c43 => k_is)
    (case k43 => k_is)
    (case a44 => k_is)
    (case l44 => k_is)
    (case c44 => k_is)
    (case k44 => k_is)
    (case a45 => k_is)
    (case l45 => k_is)
    (case c45 => k_is)
    (case k45 => k_is)
    (case z_len => k_is)
    (case z_sorted => k_is)
    (case z_tuple => k_is)
    (case z_set => k_is)
    (case z_list => k_is)
    (case z_int => k_is)
    (case z_isinstance => k_is)
    (case z_min => k_is)
    (case z_max => k_is)
    (case z_dict => k_is)
    (case z_all => k_is)
    (case z_range => k_is)
    (case z_enumerate => k_is)
    (case z_zip => k_is)
    (case aF => k_is)
    (case lF => k_is)
    (case kF => exact ⟨⟨_, _, rfl, rfl⟩, ⟨_, _, rfl, rfl⟩, ⟨_, _, rfl, rfl⟩, ⟨_, _, rfl, rfl⟩, trivial⟩)
    (case D1 => k_is)
    (case D2 => k_is)
    (case D3 => k_is)
    (case D4 => k_is)
    (case G3 => k_is)
    (case G4 => k_is)
    (case aS => k_is)
    (case lS => k_is)
    (case kS => exact ⟨⟨_, _, rfl, rfl⟩, ⟨_, _, rfl, rfl⟩, ⟨_, _, rfl, rfl⟩, ⟨_, _, rfl, rfl⟩, trivial⟩)
    (case S1 => k_is)
    (case S2 => k_is)
    (case S3 => k_is)
    (case S4 => k_is)
